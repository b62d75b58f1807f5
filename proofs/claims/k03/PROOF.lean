import PyProof.Rows.All
import Wide.All
import OpenK.AllK
import Wide.FinOn
import HandS.ForMost
import HandS.Exc
import HandS.TryOnly
import HandS.ExcOwn
import HandS.WordsExc
import HandS.IsInst
import HandS.StrMore
import HandS.Conv
import HandS.Flow
import KE.GoesEnum
import HandS.Steps
import PyProof.StrBlock2
import HandS.More
import HandS.Dict
import KE.SortData
import KE.SortKeyHeap
import KE.SortUse
import HandS.SortKw
import KE.KExcSuper
import KE.KSuper
import KE.KExcMake
import HandS.ExcInit
import HandS.ExcField
import HandS.ExcIs
import HandS.NestedK
import KE.KExcIs
import PySem.Challenge.RW_treesfromyes_k03_words_and_their_order
import PyProof.Rows.StrJoinRep
import KE.KExcLine
set_option Elab.async false
set_option linter.all false
set_option maxRecDepth 100000
set_option maxHeartbeats 4000000
/-! Fw: judgements over typed data in the place of slots and heaps -/
namespace Fw
open PySem L2

/-! ### data -/
class Enc (α : Type) where
  rep : PySem.W.Frag → Hp → V → α → Prop
  mono : ∀ {K : PySem.W.Frag} {H H' : Hp} {v : V} {x : α}, Same H H' → rep K H v x → rep K H' v x
/-- data without a heap -/
class EncF (α : Type) extends Enc α where
  toV : α → V
  repV : ∀ {K : PySem.W.Frag} {H : Hp} {v : V} {x : α}, rep K H v x ↔ v = toV x
instance : EncF Int := { rep := fun _ _ v x => v = .int x, mono := fun _ h => h, toV := .int, repV := Iff.rfl }
instance : EncF Bool := { rep := fun _ _ v x => v = .bl x, mono := fun _ h => h, toV := .bl, repV := Iff.rfl }
instance : EncF Str := { rep := fun _ _ v x => v = .str x, mono := fun _ h => h, toV := .str, repV := Iff.rfl }
instance : EncF Unit := { rep := fun _ _ v _ => v = .non, mono := fun _ h => h, toV := fun _ => .non, repV := Iff.rfl }
/-- a bare address -/
structure Adr where
  a : Addr
instance : EncF Adr := { rep := fun _ _ v x => v = .ref x.a, mono := fun _ h => h, toV := fun x => .ref x.a, repV := Iff.rfl }
instance {α : Type} [Enc α] : Enc (Option α) where
  rep := fun K H v x => match x with
    | none => v = .non
    | some y => Enc.rep K H v y
  mono := fun {K H H' v x} e h => by
    cases x with
    | none => exact h
    | some y => exact Enc.mono e h
theorem paired_mono {α : Type} [Enc α] {K : PySem.W.Frag} {H H' : Hp} (e : Same H H') {vs : List V} {xs : List α} (h : Paired (Enc.rep K H) vs xs) : Paired (Enc.rep K H') vs xs := Paired.mapP h fun _ _ r => Enc.mono e r
theorem same_t {K : PySem.W.Frag} {H H' : Hp} {a : Addr} {xs : List V} (e : Same H H') (h : SqT K H a xs) : SqT K H' a xs := by
  rcases h with (h | ⟨o, h⟩) | h
  · exact .inl (.inl (e _ _ h))
  · exact .inl (.inr ⟨o, e _ _ h⟩)
  · exact .inr h
instance {α : Type} [Enc α] : Enc (List α) where
  rep := fun K H v xs => ∃ a vs, v = .ref a ∧ H a = some (.lst vs) ∧ Paired (Enc.rep K H) vs xs
  mono := fun e ⟨a, vs, h1, h2, h3⟩ => ⟨a, vs, h1, e _ _ h2, paired_mono e h3⟩
/-- a tuple of things of one kind -/
structure Tup (α : Type) where
  l : List α
instance {α : Type} [Enc α] : Enc (Tup α) where
  rep := fun K H v xs => ∃ a vs, v = .ref a ∧ SqT K H a vs ∧ Paired (Enc.rep K H) vs xs.l
  mono := fun e ⟨a, vs, h1, h2, h3⟩ => ⟨a, vs, h1, same_t e h2, paired_mono e h3⟩
instance {α β : Type} [Enc α] [Enc β] : Enc (α × β) where
  rep := fun K H v x => ∃ a u w, v = .ref a ∧ SqT K H a [u, w] ∧ Enc.rep K H u x.1 ∧ Enc.rep K H w x.2
  mono := fun e ⟨a, u, w, h1, h2, h3, h4⟩ => ⟨a, u, w, h1, same_t e h2, Enc.mono e h3, Enc.mono e h4⟩

/-! ### slots, cells, states -/
structure Slot where
  rp : PySem.W.Frag → Hp → V → Prop
  mono : ∀ {K : PySem.W.Frag} {H H' : Hp} {v : V}, Same H H' → rp K H v → rp K H' v
def vs {α : Type} [Enc α] (x : α) : Slot := ⟨fun K H v => Enc.rep K H v x, fun e h => Enc.mono e h⟩
def va {α : Type} [Enc α] (x : α) : Option Slot := some (vs x)
structure Cell where
  lc : Bool
  hp : PySem.W.Frag → Hp → HO → Prop
  mono : ∀ {K : PySem.W.Frag} {H H' : Hp} {o : HO}, Same H H' → hp K H o → hp K H' o
structure Ev1 where
  sl : List (Option Slot)
  cl : List (Addr × Cell)
/-- what is fixed through a def's body: the written part, the known heap and the whole heap at the entry, the cells handed in -/
structure XD where
  cls : Value
  rp : PySem.W.Frag → Hp → Option Addr → Prop
structure Bs where
  K : PySem.W.Frag
  G0 : Hp
  H0 : Hp
  A0 : List Addr
  W : WX
  xr : XD → Ev1 → Prop
structure SR (K : PySem.W.Frag) (G : Hp) (σ : St) (es : List (Option Slot)) : Prop where
  len : σ.length = es.length
  get : ∀ (i : Nat) (s : Slot), es[i]? = some (some s) → ∃ v, σ[i]? = some (some v) ∧ s.rp K G v
structure CR (B : Bs) (G H : Hp) (cl : List (Addr × Cell)) : Prop where
  nd : (cl.map (·.1)).Nodup
  at_ : ∀ p ∈ cl, G p.1 = none ∧ (if p.2.lc = true then B.H0 p.1 = none else p.1 ∈ B.A0) ∧ ∃ o, H p.1 = some o ∧ p.2.hp B.K G o
structure Ok (B : Bs) (G H : Hp) (σ : St) (e : Ev1) : Prop where
  g0 : Same B.G0 G
  gh : Same G H
  fr : ∀ b o, B.H0 b = some o → b ∉ B.A0 → H b = some o
  al : ∀ b, H b = none → B.H0 b = none
  nw : ∀ b, G b ≠ none → B.G0 b ≠ none ∨ B.H0 b = none
  sr : SR B.K G σ e.sl
  cr : CR B G H e.cl

theorem SR.mono {K : PySem.W.Frag} {G G' : Hp} {σ : St} {es : List (Option Slot)} (h : SR K G σ es) (e : Same G G') : SR K G' σ es :=
  ⟨h.len, fun i s hs => by
    obtain ⟨v, h1, h2⟩ := h.get i s hs
    exact ⟨v, h1, s.mono e h2⟩⟩
theorem SR.set {K : PySem.W.Frag} {G : Hp} {σ : St} {es : List (Option Slot)} (h : SR K G σ es) (i : Nat) {v : V} {s : Slot} (r : s.rp K G v) : SR K G (σ.set i (some v)) (es.set i (some s)) :=
  ⟨by rw [List.length_set, List.length_set, h.len], fun j t ht => by
    by_cases e : i = j
    · subst e
      by_cases hl : i < es.length
      · rw [List.getElem?_set_self hl] at ht
        have e2 : s = t := Option.some.inj (Option.some.inj ht)
        subst e2
        exact ⟨v, List.getElem?_set_self (by rw [h.len]; exact hl), r⟩
      · rw [List.getElem?_eq_none (by rw [List.length_set]; omega)] at ht
        cases ht
    · rw [List.getElem?_set_ne e] at ht
      obtain ⟨u, h1, h2⟩ := h.get j t ht
      exact ⟨u, by rw [List.getElem?_set_ne e]; exact h1, h2⟩⟩
theorem SR.setNo {K : PySem.W.Frag} {G : Hp} {σ : St} {es : List (Option Slot)} (h : SR K G σ es) (i : Nat) (v : Option V) : SR K G (σ.set i v) (es.set i none) :=
  ⟨by rw [List.length_set, List.length_set, h.len], fun j t ht => by
    by_cases e : i = j
    · subst e
      by_cases hl : i < es.length
      · rw [List.getElem?_set_self hl] at ht
        cases Option.some.inj ht
      · rw [List.getElem?_eq_none (by rw [List.length_set]; omega)] at ht
        cases ht
    · rw [List.getElem?_set_ne e] at ht
      obtain ⟨u, h1, h2⟩ := h.get j t ht
      exact ⟨u, by rw [List.getElem?_set_ne e]; exact h1, h2⟩⟩
/-- forgetting slots -/
theorem SR.weak {K : PySem.W.Frag} {G : Hp} {σ : St} {es es' : List (Option Slot)} (h : SR K G σ es) (hl : es'.length = es.length) (w : ∀ (i : Nat) (s : Slot), es'[i]? = some (some s) → es[i]? = some (some s)) : SR K G σ es' :=
  ⟨by rw [hl]; exact h.len, fun i s hs => h.get i s (w i s hs)⟩

section
variable {B : Bs} {G H G' H' : Hp} {σ : St} {e : Ev1}
theorem Same.none' {H H' : Hp} (e : Same H H') {a : Addr} (h : H' a = none) : H a = none := e.free h
/-- a new object p in the heap; in the known part too -/
theorem Ok.newH (ok : Ok B G H σ e) {p : Addr} {o : HO} (hp : H p = none) : Ok B G (upd H p o) σ e := by
  refine ⟨ok.g0, fun b u q => ?_, fun b u q hb => ?_, fun b q => ?_, ok.nw, ok.sr, ok.cr.nd, fun c hc => ?_⟩
  · rw [upd_ne (ne_of_none (ok.gh b u q) hp)]
    exact ok.gh b u q
  · rw [upd_ne (ne_of_none (ok.fr b u q hb) hp)]
    exact ok.fr b u q hb
  · by_cases hb : b = p
    · subst hb
      exact ok.al b hp
    · rw [upd_ne hb] at q
      exact ok.al b q
  · obtain ⟨h1, h2, o', h3, h4⟩ := ok.cr.at_ c hc
    have ne : c.1 ≠ p := ne_of_none h3 hp
    exact ⟨h1, h2, o', by rw [upd_ne ne]; exact h3, h4⟩
theorem same_upd {G : Hp} {p : Addr} {o : HO} (gp : G p = none) : Same G (upd G p o) := fun b u q => by
  rw [upd_ne (ne_of_none q gp)]
  exact q
/-- what stands at p in the heap, is no cell and new since the entry, is known from now on -/
theorem Ok.know (ok : Ok B G H σ e) {p : Addr} {o : HO} (gp : G p = none) (hp : H p = some o) (h0 : B.H0 p = none) (hc : ∀ c ∈ e.cl, c.1 ≠ p) : Ok B (upd G p o) H σ e := by
  have sg : Same G (upd G p o) := same_upd gp
  refine ⟨ok.g0.trans sg, fun b u q => ?_, ok.fr, ok.al, fun b q => ?_, ok.sr.mono sg, ok.cr.nd, fun c hc' => ?_⟩
  · by_cases hb : b = p
    · subst hb
      rw [upd_same] at q
      rw [hp]
      exact q
    · rw [upd_ne hb] at q
      exact ok.gh b u q
  · by_cases hb : b = p
    · subst hb
      exact .inr h0
    · rw [upd_ne hb] at q
      exact ok.nw b q
  · obtain ⟨h1, h2, o', h3, h4⟩ := ok.cr.at_ c hc'
    exact ⟨by rw [upd_ne (hc c hc')]; exact h1, h2, o', h3, c.2.mono sg h4⟩
theorem Ok.new (ok : Ok B G H σ e) {p : Addr} {o : HO} (hp : H p = none) : Ok B (upd G p o) (upd H p o) σ e :=
  (ok.newH hp).know (ok.gh.free hp) upd_same (ok.al p hp) fun c hc => by
    obtain ⟨_, _, o', h3, _⟩ := ok.cr.at_ c hc
    exact ne_of_none h3 hp
/-- a new object as a cell -/
theorem Ok.newCell (ok : Ok B G H σ e) {p : Addr} {o : HO} {c : Cell} (hp : H p = none) (hl : c.lc = true) (hc : c.hp B.K G o) : Ok B G (upd H p o) σ ⟨e.sl, (p, c) :: e.cl⟩ := by
  have k := ok.newH (o := o) hp
  refine ⟨k.g0, k.gh, k.fr, k.al, k.nw, k.sr, List.nodup_cons.mpr ⟨fun m => ?_, k.cr.nd⟩, fun d hd => ?_⟩
  · obtain ⟨d, hd, e1⟩ := List.mem_map.mp m
    obtain ⟨_, _, o', h3, _⟩ := ok.cr.at_ d hd
    exact ne_of_none h3 hp e1
  · rcases List.mem_cons.mp hd with q | q
    · subst q
      exact ⟨ok.gh.free hp, by rw [if_pos hl]; exact ok.al p hp, o, upd_same, hc⟩
    · exact k.cr.at_ d q
theorem nodup_set_fst {l : List (Addr × Cell)} {i : Nat} {a : Addr} {c c' : Cell} (h : l[i]? = some (a, c)) : (l.set i (a, c')).map (·.1) = l.map (·.1) := by
  apply List.ext_getElem?
  intro j
  rw [List.getElem?_map, List.getElem?_map]
  by_cases e : i = j
  · subst e
    have hl : i < l.length := (List.getElem?_eq_some_iff.mp h).1
    rw [List.getElem?_set_self hl, h]
    rfl
  · rw [List.getElem?_set_ne e]
/-- a cell's object at a place -/
theorem Ok.cell (ok : Ok B G H σ e) {i : Nat} {a : Addr} {c : Cell} (h : e.cl[i]? = some (a, c)) : G a = none ∧ (if c.lc = true then B.H0 a = none else a ∈ B.A0) ∧ ∃ o, H a = some o ∧ c.hp B.K G o := ok.cr.at_ (a, c) (List.mem_of_getElem? h)
/-- a cell is written -/
theorem Ok.write (ok : Ok B G H σ e) {i : Nat} {a : Addr} {c c' : Cell} {o : HO} (h : e.cl[i]? = some (a, c)) (hl' : c'.lc = c.lc) (hc : c'.hp B.K G o) : Ok B G (upd H a o) σ ⟨e.sl, e.cl.set i (a, c')⟩ := by
  obtain ⟨h1, h2, o0, h3, h4⟩ := ok.cell h
  refine ⟨ok.g0, fun b u q => ?_, fun b u q hb => ?_, fun b q => ?_, ok.nw, ok.sr, ?_, fun d hd => ?_⟩
  · rw [upd_ne (ne_of_none q h1)]
    exact ok.gh b u q
  · rw [upd_ne fun z => ?_]
    · exact ok.fr b u q hb
    · subst z
      split at h2
      · rw [h2] at q
        cases q
      · exact hb h2
  · by_cases hb : b = a
    · subst hb
      rw [upd_same] at q
      cases q
    · rw [upd_ne hb] at q
      exact ok.al b q
  · show ((e.cl.set i (a, c')).map (·.1)).Nodup
    rw [nodup_set_fst h]
    exact ok.cr.nd
  · have hl : i < e.cl.length := (List.getElem?_eq_some_iff.mp h).1
    obtain ⟨j, hj, ej⟩ := List.mem_iff_getElem.mp hd
    have ej' : (e.cl.set i (a, c'))[j]? = some d := by rw [List.getElem?_eq_getElem hj, ej]
    by_cases hij : i = j
    · subst hij
      rw [List.getElem?_set_self hl] at ej'
      have e2 := Option.some.inj ej'
      subst e2
      exact ⟨h1, by rw [hl']; exact h2, o, upd_same, hc⟩
    · rw [List.getElem?_set_ne hij] at ej'
      obtain ⟨k1, k2, o', k3, k4⟩ := ok.cr.at_ d (List.mem_of_getElem? ej')
      have ne : d.1 ≠ a := fun z => by
        have n1 : (e.cl.map (·.1))[j]? = some a := by
          rw [List.getElem?_map, ej']
          exact congrArg some z
        have n2 : (e.cl.map (·.1))[i]? = some a := by
          rw [List.getElem?_map, h]
          rfl
        exact hij (nd_ix ok.cr.nd n2 n1)
      exact ⟨k1, k2, o', by rw [upd_ne ne]; exact k3, k4⟩
/-- slots -/
theorem Ok.set (ok : Ok B G H σ e) (i : Nat) {v : V} {s : Slot} (r : s.rp B.K G v) : Ok B G H (σ.set i (some v)) ⟨e.sl.set i (some s), e.cl⟩ := ⟨ok.g0, ok.gh, ok.fr, ok.al, ok.nw, ok.sr.set i r, ok.cr⟩
theorem Ok.setNo (ok : Ok B G H σ e) (i : Nat) (v : Option V) : Ok B G H (σ.set i v) ⟨e.sl.set i none, e.cl⟩ := ⟨ok.g0, ok.gh, ok.fr, ok.al, ok.nw, ok.sr.setNo i v, ok.cr⟩
theorem Ok.weak (ok : Ok B G H σ e) {sl : List (Option Slot)} (hl : sl.length = e.sl.length) (w : ∀ (i : Nat) (s : Slot), sl[i]? = some (some s) → e.sl[i]? = some (some s)) : Ok B G H σ ⟨sl, e.cl⟩ := ⟨ok.g0, ok.gh, ok.fr, ok.al, ok.nw, ok.sr.weak hl w, ok.cr⟩
end

/-! ### what evaluates to what -/
/-- what is raised here is wished for -/
def XOk (B : Bs) (G : Hp) : Prop := ∀ d σ' G' H' e' x, B.xr x e' → Ok B G' H' σ' e' → Same G G' → x.rp B.K G' d → B.W x.cls d σ' H'
theorem XOk.mono {B : Bs} {G G' : Hp} (h : XOk B G) (s : Same G G') : XOk B G' := fun d σ' G2 H' e' x hx ok s2 r => h d σ' G2 H' e' x hx ok (s.trans s2) r
/-- te gives some x with P x; slots and cells stay -/
def Ev (B : Bs) (te : TE) (e : Ev1) {α : Type} [Enc α] (P : α → Prop) : Prop :=
  ∀ σ G H, Ok B G H σ e → XOk B G → ∀ Q : VK, (∀ v x G' H', P x → Ok B G' H' σ e → Same G G' → Enc.rep B.K G' v x → Q v H') → te σ H Q
abbrev EvD (B : Bs) (te : TE) (e : Ev1) {α : Type} [Enc α] (x : α) : Prop := Ev B te e (· = x)
/-- a test -/
def EvT (B : Bs) (tt : TT) (e : Ev1) (P : Bool → Prop) : Prop :=
  ∀ σ G H, Ok B G H σ e → XOk B G → ∀ Q : Bool → Hp → Prop, (∀ b G' H', P b → Ok B G' H' σ e → Same G G' → Q b H') → tt σ H Q
abbrev EvTD (B : Bs) (tt : TT) (e : Ev1) (b : Bool) : Prop := EvT B tt e (· = b)
/-- arguments -/
abbrev Reps (K : PySem.W.Frag) (G : Hp) : List V → List Slot → Prop := Paired fun (v : V) (s : Slot) => s.rp K G v
theorem reps_mono {K : PySem.W.Frag} {G G' : Hp} {vs : List V} {ss : List Slot} (e : Same G G') (h : Reps K G vs ss) : Reps K G' vs ss := Paired.mapP h fun _ s r => s.mono e r
def EvA (B : Bs) (ta : TA) (e : Ev1) (P : List Slot → Prop) : Prop :=
  ∀ σ G H, Ok B G H σ e → XOk B G → ∀ Q : List V → Hp → Prop, (∀ vs ss G' H', P ss → Ok B G' H' σ e → Same G G' → Reps B.K G' vs ss → Q vs H') → ta σ H Q
/-- a new list -/
def EvL (B : Bs) (te : TE) (e : Ev1) {α : Type} [Enc α] (P : List α → Prop) : Prop :=
  ∀ σ G H, Ok B G H σ e → XOk B G → ∀ Q : VK, (∀ p vs xs G' H', P xs → Ok B G' H' σ e → Same G G' → (∃ o, H' p = some o ∧ o = .lst vs) → G' p = none → B.H0 p = none → (∀ c ∈ e.cl, c.1 ≠ p) → Paired (Enc.rep B.K G') vs xs → Q (.ref p) H') → te σ H Q
/-- operations on values -/
def R2V (B : Bs) (e : Ev1) (r : R2) {α β γ : Type} [Enc α] [Enc β] [Enc γ] (x : α) (y : β) (P : γ → Prop) : Prop :=
  ∀ σ G H, Ok B G H σ e → ∀ v w, Enc.rep B.K G v x → Enc.rep B.K G w y → ∀ Q : VK, (∀ u z G' H', P z → Ok B G' H' σ e → Same G G' → Enc.rep B.K G' u z → Q u H') → r v w H Q
def RCV (B : Bs) (e : Ev1) (r : List V → Hp → VK → Prop) (ss : List Slot) {γ : Type} [Enc γ] (P : γ → Prop) : Prop :=
  ∀ σ G H, Ok B G H σ e → ∀ vs, Reps B.K G vs ss → ∀ Q : VK, (∀ u z G' H', P z → Ok B G' H' σ e → Same G G' → Enc.rep B.K G' u z → Q u H') → r vs H Q

section
variable {B : Bs} {e : Ev1} {α β γ : Type} [Enc α] [Enc β] [Enc γ] {ta tb te : TE} {tt tu : TT} {r : R2}
theorem Ev.mono {P P' : α → Prop} (h : Ev B te e P) (k : ∀ x, P x → P' x) : Ev B te e P' := fun σ G H ok X Q q => h σ G H ok X Q fun v x G' H' p => q v x G' H' (k x p)
theorem EvD.to {x y : α} (h : EvD B te e x) (k : x = y) : EvD B te e y := k ▸ h
theorem EvT.mono {P P' : Bool → Prop} (h : EvT B tt e P) (k : ∀ x, P x → P' x) : EvT B tt e P' := fun σ G H ok X Q q => h σ G H ok X Q fun x G' H' p => q x G' H' (k x p)
theorem EvL.mono {P P' : List α → Prop} (h : EvL B te e P) (k : ∀ x, P x → P' x) : EvL B te e P' := fun σ G H ok X Q q => h σ G H ok X Q fun p vs xs G' H' px => q p vs xs G' H' (k xs px)
theorem ev_var {i : Nat} {x : α} (h : e.sl[i]? = some (va x)) : EvD B (tVar i) e x := fun σ G H ok _ Q q => by
  obtain ⟨v, h1, h2⟩ := ok.sr.get i _ h
  exact ⟨v, h1, q v x G H rfl ok (Same.refl G) h2⟩
theorem ev_c {v : V} {x : α} (h : ∀ K G, Enc.rep K G v x) : EvD B (tC v) e x := fun σ G H ok _ Q q => q v x G H rfl ok (Same.refl G) (h _ _)
theorem ev_int {i : Int} : EvD B (tC (.int i)) e i := ev_c fun _ _ => rfl
theorem ev_str {i : Str} : EvD B (tC (.str i)) e i := ev_c fun _ _ => rfl
theorem ev_bl {i : Bool} : EvD B (tC (.bl i)) e i := ev_c fun _ _ => rfl
theorem ev_non : EvD B (tC .non) e () := ev_c fun _ _ => rfl
theorem ev_op {P : α → Prop} {P' : β → Prop} {P'' : γ → Prop} (ha : Ev B ta e P) (hb : ∀ x, P x → Ev B tb e P') (hr : ∀ x y, P x → P' y → R2V B e r x y P'') : Ev B (tOp r ta tb) e P'' := fun σ G H ok X Q q =>
  ha σ G H ok X _ fun v x G1 H1 p ok1 s1 r1 => hb x p σ G1 H1 ok1 (X.mono s1) _ fun w y G2 H2 p2 ok2 s2 r2 => hr x y p p2 σ G2 H2 ok2 v w (Enc.mono s2 r1) r2 Q fun u z G3 H3 p3 ok3 s3 r3 => q u z G3 H3 p3 ok3 ((s1.trans s2).trans s3) r3
theorem ev_opD {x : α} {y : β} {P'' : γ → Prop} (ha : EvD B ta e x) (hb : EvD B tb e y) (hr : R2V B e r x y P'') : Ev B (tOp r ta tb) e P'' := ev_op ha (fun _ _ => hb) fun _ _ h1 h2 => by
  subst h1
  subst h2
  exact hr
/-! values -/
theorem r2_I0 {g : Int → Int → V} {z : γ} {i j : Int} (h : ∀ K G, Enc.rep K G (g i j) z) : R2V B e (rI0 g) i j (· = z) := fun σ G H ok v w rv rw Q q => ⟨i, j, rv, rw, q _ z G H rfl ok (Same.refl G) (h _ _)⟩
theorem r2_I {C : Int → Int → Prop} {g : Int → Int → V} {z : γ} {i j : Int} (hc : C i j) (h : ∀ K G, Enc.rep K G (g i j) z) : R2V B e (rI C g) i j (· = z) := fun σ G H ok v w rv rw Q q => ⟨i, j, rv, rw, hc, q _ z G H rfl ok (Same.refl G) (h _ _)⟩
end
end Fw

namespace Fw
open PySem L2

/-! ### tests -/
section
variable {B : Bs} {e : Ev1} {α β γ : Type} [Enc α] [Enc β] [Enc γ] {ta tb te : TE} {tt tu : TT} {r : R2}
theorem et_test {P : Bool → Prop} (h : Ev B te e P) : EvT B (tTest te) e P := fun σ G H ok X Q q => h σ G H ok X _ fun v x G' H' p ok' s r => ⟨x, r, q x G' H' p ok' s⟩
theorem et_B {P : Bool → Prop} (h : Ev B te e P) : EvT B (tB te) e P := fun σ G H ok X Q q => h σ G H ok X _ fun v x G' H' p ok' s r => ⟨x, r, q x G' H' p ok' s⟩
theorem et_not {P : Bool → Prop} (h : EvT B tt e P) : EvT B (tNot tt) e (fun b => P (!b)) := fun σ G H ok X Q q => h σ G H ok X _ fun b G' H' p ok' s => q (!b) G' H' (by show P (!(!b)); rw [Bool.not_not]; exact p) ok' s
theorem et_notD {b : Bool} (h : EvTD B tt e b) : EvTD B (tNot tt) e (!b) := fun σ G H ok X Q q => h σ G H ok X _ fun c G' H' p ok' s => q (!c) G' H' (by rw [p]) ok' s
theorem et_and {P P' P'' : Bool → Prop} (h1 : EvT B tt e P) (h2 : P true → EvT B tu e P') (k1 : P false → P'' false) (k2 : P true → ∀ b, P' b → P'' b) : EvT B (tAnd tt tu) e P'' := fun σ G H ok X Q q =>
  h1 σ G H ok X _ fun b G1 H1 p ok1 s1 => by
    cases b with
    | false => exact iteF (q false G1 H1 (k1 p) ok1 s1)
    | true => exact iteT (h2 p σ G1 H1 ok1 (X.mono s1) Q fun c G2 H2 p2 ok2 s2 => q c G2 H2 (k2 p c p2) ok2 (s1.trans s2))
theorem et_or {P P' P'' : Bool → Prop} (h1 : EvT B tt e P) (h2 : P false → EvT B tu e P') (k1 : P true → P'' true) (k2 : P false → ∀ b, P' b → P'' b) : EvT B (tOr tt tu) e P'' := fun σ G H ok X Q q =>
  h1 σ G H ok X _ fun b G1 H1 p ok1 s1 => by
    cases b with
    | true => exact iteT (q true G1 H1 (k1 p) ok1 s1)
    | false => exact iteF (h2 p σ G1 H1 ok1 (X.mono s1) Q fun c G2 H2 p2 ok2 s2 => q c G2 H2 (k2 p c p2) ok2 (s1.trans s2))
theorem et_andD {a b : Bool} (h1 : EvTD B tt e a) (h2 : a = true → EvTD B tu e b) : EvTD B (tAnd tt tu) e (a && b) := et_and h1 (fun p => h2 p.symm) (fun p => by rw [← p]; rfl) fun p c q => by rw [← p, q]; rfl
theorem et_orD {a b : Bool} (h1 : EvTD B tt e a) (h2 : a = false → EvTD B tu e b) : EvTD B (tOr tt tu) e (a || b) := et_or h1 (fun p => h2 p.symm) (fun p => by rw [← p]; rfl) fun p c q => by rw [← p, q]; rfl
theorem ev_andD {a b : Bool} (h1 : EvD B ta e a) (h2 : a = true → EvD B tb e b) : EvD B (tAndV ta tb) e (a && b) := fun σ G H ok X Q q =>
  h1 σ G H ok X _ fun v x G1 H1 p ok1 s1 r1 => ⟨x, r1, by
    subst p
    cases x with
    | false => exact iteF (q _ false G1 H1 rfl ok1 s1 rfl)
    | true => exact iteT (h2 rfl σ G1 H1 ok1 (X.mono s1) Q fun w c G2 H2 p2 ok2 s2 r2 => q w c G2 H2 p2 ok2 (s1.trans s2) r2)⟩
theorem ev_orD {a b : Bool} (h1 : EvD B ta e a) (h2 : a = false → EvD B tb e b) : EvD B (tOrV ta tb) e (a || b) := fun σ G H ok X Q q =>
  h1 σ G H ok X _ fun v x G1 H1 p ok1 s1 r1 => ⟨x, r1, by
    subst p
    cases x with
    | true => exact iteT (q _ true G1 H1 rfl ok1 s1 rfl)
    | false => exact iteF (h2 rfl σ G1 H1 ok1 (X.mono s1) Q fun w c G2 H2 p2 ok2 s2 r2 => q w c G2 H2 p2 ok2 (s1.trans s2) r2)⟩
theorem ev_notD {a : Bool} (h1 : EvD B ta e a) : EvD B (tNotV ta) e (!a) := fun σ G H ok X Q q =>
  h1 σ G H ok X _ fun v x G1 H1 p ok1 s1 r1 => ⟨x, r1, q _ (!x) G1 H1 (by rw [p]) ok1 s1 rfl⟩
theorem ev_if {P : Bool → Prop} {P' : α → Prop} (h : EvT B tt e P) (h1 : P true → Ev B ta e P') (h2 : P false → Ev B tb e P') : Ev B (tIf tt ta tb) e P' := fun σ G H ok X Q q =>
  h σ G H ok X _ fun b G1 H1 p ok1 s1 => by
    cases b with
    | true => exact iteT (h1 p σ G1 H1 ok1 (X.mono s1) Q fun w c G2 H2 p2 ok2 s2 r2 => q w c G2 H2 p2 ok2 (s1.trans s2) r2)
    | false => exact iteF (h2 p σ G1 H1 ok1 (X.mono s1) Q fun w c G2 H2 p2 ok2 s2 r2 => q w c G2 H2 p2 ok2 (s1.trans s2) r2)
theorem ev_ifD {b : Bool} {x y : α} (h : EvTD B tt e b) (h1 : b = true → EvD B ta e x) (h2 : b = false → EvD B tb e y) : EvD B (tIf tt ta tb) e (if b = true then x else y) :=
  ev_if h (fun p => (h1 p.symm).mono fun z hz => by rw [hz, if_pos p.symm]) fun p => (h2 p.symm).mono fun z hz => by rw [hz, ← p, if_neg Bool.false_ne_true]

/-! ### arguments -/
theorem ea_nil : EvA B tNil e (· = []) := fun σ G H ok X Q q => q [] [] G H rfl ok (Same.refl G) .nil
theorem ea_cons {P : α → Prop} {P' : List Slot → Prop} {tr : TA} (h : Ev B te e P) (hr : ∀ x, P x → EvA B tr e P') : EvA B (tCons te tr) e (fun ss => ∃ x r, P x ∧ P' r ∧ ss = vs x :: r) := fun σ G H ok X Q q =>
  h σ G H ok X _ fun v x G1 H1 p ok1 s1 r1 => hr x p σ G1 H1 ok1 (X.mono s1) _ fun ws ss G2 H2 p2 ok2 s2 r2 => q (v :: ws) (vs x :: ss) G2 H2 ⟨x, ss, p, p2, rfl⟩ ok2 (s1.trans s2) (.cons (Enc.mono s2 r1) r2)
theorem ea_consD {x : α} {ss : List Slot} {tr : TA} (h : EvD B te e x) (hr : EvA B tr e (· = ss)) : EvA B (tCons te tr) e (· = vs x :: ss) := fun σ G H ok X Q q =>
  h σ G H ok X _ fun v y G1 H1 p ok1 s1 r1 => hr σ G1 H1 ok1 (X.mono s1) _ fun ws ts G2 H2 p2 ok2 s2 r2 => q (v :: ws) (vs y :: ts) G2 H2 (by rw [p, p2]) ok2 (s1.trans s2) (.cons (Enc.mono s2 r1) r2)
theorem EvA.mono {ta : TA} {P P' : List Slot → Prop} (h : EvA B ta e P) (k : ∀ x, P x → P' x) : EvA B ta e P' := fun σ G H ok X Q q => h σ G H ok X Q fun v x G' H' p => q v x G' H' (k x p)
theorem ev_cb {ta : TA} {r : List V → Hp → VK → Prop} {P : List Slot → Prop} {P' : γ → Prop} (h : EvA B ta e P) (hr : ∀ ss, P ss → RCV B e r ss P') : Ev B (tCB r ta) e P' := fun σ G H ok X Q q =>
  h σ G H ok X _ fun ws ss G1 H1 p ok1 s1 r1 => hr ss p σ G1 H1 ok1 ws r1 Q fun u z G2 H2 p2 ok2 s2 r2 => q u z G2 H2 p2 ok2 (s1.trans s2) r2
theorem ev_cbD {ta : TA} {r : List V → Hp → VK → Prop} {ss : List Slot} {P' : γ → Prop} (h : EvA B ta e (· = ss)) (hr : RCV B e r ss P') : Ev B (tCB r ta) e P' := ev_cb h fun ss p => p ▸ hr

/-! ### lists -/
/-- a new list is known from now on -/
theorem evl_val {P : List α → Prop} (h : EvL B te e P) : Ev B te e P := fun σ G H ok X Q q =>
  h σ G H ok X _ fun p us xs G1 H1 px ok1 s1 ⟨o, h1, h2⟩ gp h0 hc r1 => by
    subst h2
    have sg : Same G1 (upd G1 p (.lst us)) := same_upd gp
    exact q (.ref p) xs (upd G1 p (.lst us)) H1 px (ok1.know gp h1 h0 hc) (s1.trans sg) ⟨p, us, rfl, upd_same, paired_mono sg r1⟩
def ownL {α : Type} [Enc α] (xs : List α) : Cell := ⟨true, fun K H o => ∃ us, o = .lst us ∧ Paired (Enc.rep K H) us xs, fun e ⟨us, h1, h2⟩ => ⟨us, h1, paired_mono e h2⟩⟩
theorem Ok.addCell {G H : Hp} {σ : St} {e : Ev1} (ok : Ok B G H σ e) {p : Addr} {o : HO} {c : Cell} (gp : G p = none) (hp : H p = some o) (h0 : B.H0 p = none) (hc : ∀ c ∈ e.cl, c.1 ≠ p) (hl : c.lc = true) (k : c.hp B.K G o) : Ok B G H σ ⟨e.sl, (p, c) :: e.cl⟩ := by
  refine ⟨ok.g0, ok.gh, ok.fr, ok.al, ok.nw, ok.sr, List.nodup_cons.mpr ⟨fun m => ?_, ok.cr.nd⟩, fun d hd => ?_⟩
  · obtain ⟨d, hd, e1⟩ := List.mem_map.mp m
    exact hc d hd e1
  · rcases List.mem_cons.mp hd with q | q
    · subst q
      exact ⟨gp, by rw [if_pos hl]; exact h0, o, hp, k⟩
    · exact ok.cr.at_ d q
/-- from a rule «∀ p, H p = none → Q (.ref p) (upd H p (.lst us))» -/
theorem newL {G H : Hp} {σ : St} {Q : VK} {us : List V} {xs : List α} {P : List α → Prop} (ok : Ok B G H σ e) (hP : P xs) (r : Paired (Enc.rep B.K G) us xs)
    (q : ∀ p vs xs G' H', P xs → Ok B G' H' σ e → Same G G' → (∃ o, H' p = some o ∧ o = .lst vs) → G' p = none → B.H0 p = none → (∀ c ∈ e.cl, c.1 ≠ p) → Paired (Enc.rep B.K G') vs xs → Q (.ref p) H') :
    ∀ p, H p = none → Q (.ref p) (upd H p (.lst us)) := fun p hp =>
  q p us xs G (upd H p (.lst us)) hP (ok.newH hp) (Same.refl G) ⟨_, upd_same, rfl⟩ (ok.gh.free hp) (ok.al p hp) (fun c hc => by
    obtain ⟨_, _, o', h3, _⟩ := ok.cr.at_ c hc
    exact ne_of_none h3 hp) r
/-- homogenous slots as a list -/
theorem reps_list {K : PySem.W.Frag} {G : Hp} : ∀ {us : List V} {xs : List α}, Reps K G us (xs.map vs) → Paired (Enc.rep K G) us xs
  | _, [], h => by cases h; exact .nil
  | _, x :: xs, h => by
    cases h with
    | cons a b => exact .cons a (reps_list b)
theorem evl_lst {ta : TA} {P : List α → Prop} {P' : List Slot → Prop} (h : EvA B ta e P') (k : ∀ ss, P' ss → ∃ xs, P xs ∧ ss = xs.map vs ∧ xs.length ≤ 1000000) : EvL B (tLst ta) e P := fun σ G H ok X Q q =>
  h σ G H ok X _ fun us ss G1 H1 p ok1 s1 r1 => by
    obtain ⟨xs, px, rfl, hl⟩ := k ss p
    have r2 := reps_list r1
    refine ⟨Nat.le_trans (by rw [r2.length]; exact hl) (by rw [sizeLine_eq]; decide), newL ok1 px r2 fun p us xs G' H' px ok' s' => q p us xs G' H' px ok' (s1.trans s')⟩
theorem evl_lstD {ta : TA} {xs : List α} (h : EvA B ta e (· = xs.map vs)) (hl : xs.length ≤ 1000000) : EvL B (tLst ta) e (· = xs) := evl_lst h fun ss p => ⟨xs, rfl, p, hl⟩
end

/-! ### statements -/
structure En (ρ : Type) where
  nx : Ev1 → Prop
  rt : ρ → Ev1 → Prop
  bk : Ev1 → Prop
  ct : Ev1 → Prop
structure Mt (B : Bs) (G : Hp) (D : Ends) {ρ : Type} [Enc ρ] (E : En ρ) : Prop where
  nx : ∀ σ G' H' e', E.nx e' → Ok B G' H' σ e' → Same G G' → D.nx σ H'
  rt : ∀ v r σ G' H' e', E.rt r e' → Ok B G' H' σ e' → Same G G' → Enc.rep B.K G' v r → D.rt v H'
  bk : ∀ σ G' H' e', E.bk e' → Ok B G' H' σ e' → Same G G' → D.bk σ H'
  ct : ∀ σ G' H' e', E.ct e' → Ok B G' H' σ e' → Same G G' → D.ct σ H'
def Do (B : Bs) (t : TS) (e : Ev1) {ρ : Type} [Enc ρ] (E : En ρ) : Prop := ∀ σ G H, Ok B G H σ e → XOk B G → ∀ D, Mt B G D E → t D σ H
section
variable {B : Bs} {e : Ev1} {α β γ ρ : Type} [Enc α] [Enc β] [Enc γ] [Enc ρ] {ta tb te : TE} {tt : TT} {t u : TS} {E : En ρ}
theorem Mt.mono {G G' : Hp} {D : Ends} (m : Mt B G D E) (s : Same G G') : Mt B G' D E :=
  ⟨fun σ G2 H' e' h ok s2 => m.nx σ G2 H' e' h ok (s.trans s2), fun v r σ G2 H' e' h ok s2 => m.rt v r σ G2 H' e' h ok (s.trans s2), fun σ G2 H' e' h ok s2 => m.bk σ G2 H' e' h ok (s.trans s2), fun σ G2 H' e' h ok s2 => m.ct σ G2 H' e' h ok (s.trans s2)⟩
theorem do_seq (h : Do B t e { E with nx := fun e' => Do B u e' E }) : Do B (tSeq t u) e E := fun σ G H ok X D m =>
  h σ G H ok X { D with nx := u D } ⟨fun σ' G' H' e' hd ok' s => hd σ' G' H' ok' (X.mono s) D (m.mono s), m.rt, m.bk, m.ct⟩
theorem do_next (h : E.nx e) : Do B tNext e E := fun σ G H ok X D m => m.nx σ G H e h ok (Same.refl G)
theorem do_break (h : E.bk e) : Do B tBreak e E := fun σ G H ok X D m => m.bk σ G H e h ok (Same.refl G)
theorem do_cont (h : E.ct e) : Do B tCont e E := fun σ G H ok X D m => m.ct σ G H e h ok (Same.refl G)
theorem do_asg {i : Nat} {P : α → Prop} (h : Ev B te e P) (k : ∀ x, P x → E.nx ⟨e.sl.set i (va x), e.cl⟩) : Do B (tAsg te (gName i)) e E := fun σ G H ok X D m =>
  h σ G H ok X _ fun v x G' H' p ok' s r => m.nx _ G' H' _ (k x p) (ok'.set i (s := vs x) r) s
theorem do_asgD {i : Nat} {x : α} (h : EvD B te e x) (k : E.nx ⟨e.sl.set i (va x), e.cl⟩) : Do B (tAsg te (gName i)) e E := do_asg h fun y p => by subst p; exact k
/-- a new list as a cell -/
theorem do_asgL {i : Nat} {P : List α → Prop} (h : EvL B te e P) (k : ∀ a xs, P xs → E.nx ⟨e.sl.set i (va (Adr.mk a)), (a, ownL xs) :: e.cl⟩) : Do B (tAsg te (gName i)) e E := fun σ G H ok X D m =>
  h σ G H ok X _ fun p us xs G' H' px ok' s ⟨o, h1, h2⟩ gp h0 hc r => m.nx _ G' H' _ (k p xs px) ((ok'.addCell (c := ownL xs) gp h1 h0 hc rfl ⟨us, h2, r⟩).set i (v := .ref p) (s := vs (Adr.mk p)) rfl) s
theorem do_ret {P : ρ → Prop} (h : Ev B te e P) (k : ∀ x, P x → E.rt x e) : Do B (tRet te) e E := fun σ G H ok X D m => h σ G H ok X _ fun v x G' H' p ok' s r => m.rt v x σ G' H' e (k x p) ok' s r
theorem do_retD {x : ρ} (h : EvD B te e x) (k : E.rt x e) : Do B (tRet te) e E := do_ret h fun y p => by subst p; exact k
/-- another type of what is returned -/
theorem do_retC {P : α → Prop} (h : Ev B te e P) (k : ∀ x, P x → ∃ r, E.rt r e ∧ ∀ K G v, Enc.rep K G v x → Enc.rep K G v r) : Do B (tRet te) e E := fun σ G H ok X D m => h σ G H ok X _ fun v x G' H' p ok' s r => by
  obtain ⟨z, h1, h2⟩ := k x p
  exact m.rt v z σ G' H' e h1 ok' s (h2 _ _ _ r)
theorem do_retN {r : ρ} (h : ∀ K G, Enc.rep K G V.non r) (k : E.rt r e) : Do B tRetN e E := fun σ G H ok X D m => m.rt .non r σ G H e k ok (Same.refl G) (h _ _)
theorem do_if {P : Bool → Prop} (h : EvT B tt e P) (h1 : P true → Do B t e E) (h2 : P false → Do B u e E) : Do B (tIfS tt t u) e E := fun σ G H ok X D m =>
  h σ G H ok X _ fun b G' H' p ok' s => by
    cases b with
    | true => exact iteT (h1 p σ G' H' ok' (X.mono s) D (m.mono s))
    | false => exact iteF (h2 p σ G' H' ok' (X.mono s) D (m.mono s))
theorem do_ifD {b : Bool} (h : EvTD B tt e b) (h1 : b = true → Do B t e E) (h2 : b = false → Do B u e E) : Do B (tIfS tt t u) e E := do_if h (fun p => h1 p.symm) fun p => h2 p.symm
theorem do_drop {P : α → Prop} (h : Ev B te e P) (k : ∀ x, P x → E.nx e) : Do B (tDrop te) e E := fun σ G H ok X D m => h σ G H ok X _ fun v x G' H' p ok' s r => m.nx σ G' H' e (k x p) ok' s
theorem Do.mono {E' : En ρ} (h : Do B t e E) (h1 : ∀ e, E.nx e → E'.nx e) (h2 : ∀ r e, E.rt r e → E'.rt r e) (h3 : ∀ e, E.bk e → E'.bk e) (h4 : ∀ e, E.ct e → E'.ct e) : Do B t e E' := fun σ G H ok X D m =>
  h σ G H ok X D ⟨fun σ' G' H' e' n => m.nx σ' G' H' e' (h1 _ n), fun v r σ' G' H' e' n => m.rt v r σ' G' H' e' (h2 _ _ n), fun σ' G' H' e' n => m.bk σ' G' H' e' (h3 _ n), fun σ' G' H' e' n => m.ct σ' G' H' e' (h4 _ n)⟩
end

/-! ### what is walked -/
/-- J gives the items xs, as they are known in G1 -/
def Gives (K : PySem.W.Frag) (G1 : Hp) (J : It) {α : Type} [Enc α] (xs : List α) : Prop := ∀ H, Same G1 H → ∀ i : Nat,
  (i < xs.length → J.go i H) ∧ (xs.length ≤ i → J.stop i H) ∧ ∀ (y : α) v H', xs[i]? = some y → J.yld i H v H' → (H' = H ∧ Enc.rep K G1 v y) ∨ (∃ T o, H T = none ∧ H' = upd H T o ∧ Enc.rep K (upd G1 T o) v y)
def EvI (B : Bs) (wi : TI) (e : Ev1) {α : Type} [Enc α] (xs : List α) : Prop :=
  ∀ σ G H, Ok B G H σ e → XOk B G → ∀ R : It → Hp → Prop, (∀ J G' H', Ok B G' H' σ e → Same G G' → Gives B.K G' J xs → R J H') → wi σ H R
/-- a target -/
def EvG (B : Bs) (g : TG) (js : List Nat) {α : Type} [Enc α] (f : α → List (Option Slot) → List (Option Slot)) : Prop :=
  ∀ σ G H e, Ok B G H σ e → ∀ v x, Enc.rep B.K G v x → ∀ Q : St → Hp → Prop, (∀ σ', Ok B G H σ' ⟨f x e.sl, e.cl⟩ → (∀ ws : List Nat, (∀ j ∈ js, j ∈ ws) → wipe σ' ws = wipe σ ws) → Q σ' H) → g v σ H Q
section
variable {B : Bs} {e : Ev1} {α β γ ρ : Type} [Enc α] [Enc β] [Enc γ] [Enc ρ] {te tl : TE} {tt : TT} {t u tb : TS} {E : En ρ} {wi : TI} {g : TG}
theorem wipe_set_mem {σ : St} {j : Nat} {v : Option V} : ∀ {ws : List Nat}, j ∈ ws → wipe (σ.set j v) ws = wipe σ ws
  | [], h => by cases h
  | w :: ws, h => by
    show (wipe (σ.set j v) ws).set w none = (wipe σ ws).set w none
    by_cases hj : j ∈ ws
    · rw [wipe_set_mem hj]
    · have e : j = w := (List.mem_cons.mp h).resolve_right hj
      subst e
      have key : ∀ ws : List Nat, j ∉ ws → wipe (σ.set j v) ws = (wipe σ ws).set j v := by
        intro ws
        induction ws with
        | nil => intro _; rfl
        | cons a r ih =>
          intro h
          show (wipe (σ.set j v) r).set a none = ((wipe σ r).set a none).set j v
          rw [ih fun m => h (List.mem_cons_of_mem _ m), List.set_comm _ _ (fun z => h (by rw [z]; exact List.mem_cons_self))]
      rw [key ws hj, List.set_set]
theorem eg_name {j : Nat} : EvG B (gName j) [j] (fun (x : α) sl => sl.set j (va x)) := fun σ G H e ok v x r Q q => q _ (ok.set j (s := vs x) r) fun ws h => wipe_set_mem (h j List.mem_cons_self)
theorem eg_pair {i j : Nat} : EvG B (gTup B.K 2 (gCons (gName i) (gCons (gName j) gNil))) [i, j] (fun (x : α × β) sl => (sl.set i (va x.1)).set j (va x.2)) := fun σ G H e ok v x r Q q => by
  obtain ⟨a, y, z, rfl, h1, h2, h3⟩ := r
  refine ⟨a, [y, z], rfl, same_t ok.gh h1, rfl, y, [z], rfl, z, [], rfl, rfl, ?_⟩
  exact q _ ((ok.set i (s := vs x.1) h2).set j (s := vs x.2) h3) fun ws h => by
    rw [wipe_set_mem (h j (by simp)), wipe_set_mem (h i (by simp))]
theorem ei_list {xs : List α} (h : EvD B tl e xs) : EvI B (iList B.K tl) e xs := fun σ G H ok X R q =>
  h σ G H ok X _ fun v y G1 H1 p ok1 s1 r1 => by
    subst p
    obtain ⟨a, us, rfl, h1, h2⟩ := r1
    refine ⟨a, rfl, ⟨us, .inl (.inl (ok1.gh _ _ h1))⟩, q _ G1 H1 ok1 s1 fun H2 s2 i => ?_⟩
    have hs : SqL B.K H2 a us := .inl (.inl (s2 _ _ h1))
    have hl := h2.length
    refine ⟨fun hi => ⟨us, us[i]'(by omega), hs, List.getElem?_eq_getElem (by omega)⟩, fun hi => ⟨us, hs, by omega⟩, fun y v H' hy hv => ?_⟩
    obtain ⟨rfl, hv⟩ := hv
    have hv := hv us hs
    have key : ∀ {us : List V} {ys : List α} {i : Nat}, Paired (Enc.rep B.K G1) us ys → us[i]? = some v → ys[i]? = some y → Enc.rep B.K G1 v y := by
      intro us ys i h
      induction h generalizing i with
      | nil => intro a; simp at a
      | cons a b ih =>
        intro h1 h2
        cases i with
        | zero =>
          simp at h1 h2
          subst h1
          subst h2
          exact a
        | succ i => exact ih (by simpa using h1) (by simpa using h2)
    exact .inl ⟨rfl, key h2 hv hy⟩
def signs (x : Str) : List Str := x.cps.toList.map fun c => ⟨#[c]⟩
theorem ei_str {x : Str} (h : EvD B te e x) : EvI B (iStr te) e (signs x) := fun σ G H ok X R q =>
  h σ G H ok X _ fun v y G1 H1 p ok1 s1 r1 => by
    subst p
    refine ⟨y, r1, q _ G1 H1 ok1 s1 fun H2 s2 i => ?_⟩
    have hl : (signs y).length = y.cps.size := by
      unfold signs
      rw [List.length_map, Array.length_toList]
    refine ⟨fun hi => by show i < y.cps.size; omega, fun hi => by show y.cps.size ≤ i; omega, fun z v H' hy hv => ?_⟩
    obtain ⟨rfl, c, hc, rfl⟩ := hv
    refine .inl ⟨rfl, ?_⟩
    unfold signs at hy
    rw [List.getElem?_map, Array.getElem?_toList, hc] at hy
    have e2 : (⟨#[c]⟩ : Str) = z := Option.some.inj hy
    subst e2
    rfl
def rngI (lo : Int) (n : Nat) : List Int := (List.range n).map fun (i : Nat) => lo + (i : Int)
theorem rngI_len {lo : Int} {n : Nat} : (rngI lo n).length = n := by
  unfold rngI
  rw [List.length_map, List.length_range]
theorem rngI_get {lo : Int} {n i : Nat} {y : Int} (h : (rngI lo n)[i]? = some y) : i < n ∧ y = lo + (i : Int) := by
  have hl : i < (rngI lo n).length := (List.getElem?_eq_some_iff.mp h).1
  rw [rngI_len] at hl
  unfold rngI at h
  rw [List.getElem?_map, List.getElem?_range hl] at h
  exact ⟨hl, (Option.some.inj h).symm⟩
theorem gives_rng {K : PySem.W.Frag} {G : Hp} {lo : Int} {n : Nat} : Gives K G (Itr lo n) (rngI lo n) := fun H s i => by
  rw [rngI_len]
  refine ⟨fun h => h, fun h => h, fun y v H' hy hv => ?_⟩
  obtain ⟨rfl, rfl⟩ := hv
  obtain ⟨_, rfl⟩ := rngI_get hy
  exact .inl ⟨rfl, rfl⟩
theorem ei_rng1 {ta : TA} {n : Int} (h : EvA B ta e (· = [vs n])) (hn : n < 2 ^ 62) (hm : -(2 ^ 62) ≤ n) : EvI B (iRng1 ta) e (rngI 0 n.toNat) := fun σ G H ok X R q =>
  h σ G H ok X _ fun us ss G1 H1 p ok1 s1 r1 => by
    subst p
    cases r1 with
    | cons a b =>
      cases b
      obtain rfl := (show _ = V.int n from a)
      exact ⟨n, rfl, hm, hn, q _ G1 H1 ok1 s1 gives_rng⟩
theorem ei_rng2 {ta : TA} {m n : Int} (h : EvA B ta e (· = [vs m, vs n])) (hn : -(2 ^ 62) ≤ m ∧ m < 2 ^ 62 ∧ -(2 ^ 62) ≤ n ∧ n < 2 ^ 62) : EvI B (iRng2 ta) e (rngI m (n - m).toNat) := fun σ G H ok X R q =>
  h σ G H ok X _ fun us ss G1 H1 p ok1 s1 r1 => by
    subst p
    cases r1 with
    | cons a b =>
      cases b with
      | cons a2 b2 =>
        cases b2
        obtain rfl := (show _ = V.int m from a)
        obtain rfl := (show _ = V.int n from a2)
        exact ⟨m, n, rfl, hn, q _ G1 H1 ok1 s1 gives_rng⟩
end
end Fw

namespace Fw
open PySem L2

theorem same_upd2 {G1 G : Hp} {T : Addr} {o : HO} (s : Same G1 G) : Same (upd G1 T o) (upd G T o) := fun b u q => by
  by_cases hb : b = T
  · subst hb
    rw [upd_same] at q ⊢
    exact q
  · rw [upd_ne hb] at q ⊢
    exact s b u q

/-! ### loops -/
section
variable {B : Bs} {e : Ev1} {α β γ ρ : Type} [Enc α] [Enc β] [Enc γ] [Enc ρ] {te tl ta : TE} {tt c : TT} {t u tb : TS} {E : En ρ} {wi : TI} {g : TG} {js : List Nat} {f : α → List (Option Slot) → List (Option Slot)} {xs : List α}
theorem do_for (hi : EvI B wi e xs) (hg : EvG B g js f) (Inv : List α → Ev1 → Prop) (h0 : Inv [] e)
    (hs : ∀ pre x post e', xs = pre ++ x :: post → Inv pre e' → Do B tb ⟨f x e'.sl, e'.cl⟩ { nx := Inv (pre ++ [x]), rt := E.rt, bk := E.nx, ct := Inv (pre ++ [x]) })
    (hd : ∀ e', Inv xs e' → E.nx e') : Do B (tFor wi g tb) e E := fun σ G H ok X D m =>
  hi σ G H ok X _ fun J G1 H1 ok1 s1 gv => by
    refine ⟨fun i n σ H => ∃ G e', n = xs.length - i ∧ i ≤ xs.length ∧ Ok B G H σ e' ∧ Same G1 G ∧ Inv (xs.take i) e', ⟨xs.length, G1, e, by simp, Nat.zero_le _, ok1, Same.refl _, by rw [List.take_zero]; exact h0⟩, ?_⟩
    rintro i n σ2 H2 ⟨G2, e2, rfl, hi2, ok2, s2, inv⟩
    obtain ⟨g1, g2, g3⟩ := gv H2 (s2.trans ok2.gh) i
    by_cases hlt : i < xs.length
    · refine .inr ⟨g1 hlt, fun σ H => ∃ G e', Ok B G H σ e' ∧ Same G1 G ∧ Inv (xs.take (i + 1)) e', fun σ' H' ⟨G', e', k1, k2, k3⟩ => ⟨xs.length - (i + 1), by omega, G', e', rfl, hlt, k1, k2, k3⟩, fun v H' hy => ?_⟩
      have hx : xs[i]? = some xs[i] := List.getElem?_eq_getElem hlt
      have split : xs = xs.take i ++ xs[i] :: xs.drop (i + 1) := by rw [← List.drop_eq_getElem_cons hlt, List.take_append_drop]
      have tk1 : xs.take (i + 1) = xs.take i ++ [xs[i]] := by rw [List.take_add_one, hx]; rfl
      have fin : ∀ G3, Ok B G3 H' σ2 e2 → Same G1 G3 → Same G2 G3 → Enc.rep B.K G3 v xs[i] → g v σ2 H' fun σ3 H3 => tb { D with nx := fun σ H => ∃ G e', Ok B G H σ e' ∧ Same G1 G ∧ Inv (xs.take (i + 1)) e', ct := fun σ H => ∃ G e', Ok B G H σ e' ∧ Same G1 G ∧ Inv (xs.take (i + 1)) e', bk := D.nx } σ3 H3 := fun G3 ok3 s13 s23 r3 =>
        hg σ2 G3 H' e2 ok3 v _ r3 _ fun σ3 ok4 _ => by
          refine hs (xs.take i) xs[i] (xs.drop (i + 1)) e2 split inv σ3 G3 H' ok4 (X.mono (s1.trans s13)) _ ⟨fun σ5 G5 H5 e5 h5 ok5 s5 => ⟨G5, e5, ok5, s13.trans s5, by rw [tk1]; exact h5⟩, fun v5 r5 σ5 G5 H5 e5 h5 ok5 s5 => m.rt v5 r5 σ5 G5 H5 e5 h5 ok5 ((s1.trans s13).trans s5),
            fun σ5 G5 H5 e5 h5 ok5 s5 => m.nx σ5 G5 H5 e5 h5 ok5 ((s1.trans s13).trans s5), fun σ5 G5 H5 e5 h5 ok5 s5 => ⟨G5, e5, ok5, s13.trans s5, by rw [tk1]; exact h5⟩⟩
      rcases g3 _ v H' hx hy with ⟨rfl, r⟩ | ⟨T, o, hT, rfl, r⟩
      · exact fin G2 ok2 s2 (Same.refl _) (Enc.mono s2 r)
      · have gT : G2 T = none := ok2.gh.free hT
        exact fin (upd G2 T o) (ok2.new hT) (s2.trans (same_upd gT)) (same_upd gT) (Enc.mono (same_upd2 s2) r)
    · have e3 : i = xs.length := by omega
      subst e3
      rw [List.take_length] at inv
      exact .inl ⟨g2 (Nat.le_refl _), m.nx σ2 G2 H2 e2 (hd e2 inv) ok2 (s1.trans s2)⟩

theorem do_while (Inv : Nat → Ev1 → Prop) (P : Ev1 → Bool → Prop) (n0 : Nat) (h0 : Inv n0 e) (ht : ∀ n e', Inv n e' → EvT B c e' (P e'))
    (hs : ∀ n e', Inv n e' → P e' true → Do B tb e' { nx := fun e'' => ∃ n', n' < n ∧ Inv n' e'', rt := E.rt, bk := E.nx, ct := fun e'' => ∃ n', n' < n ∧ Inv n' e'' })
    (hd : ∀ n e', Inv n e' → P e' false → E.nx e') : Do B (tWhile c tb) e E := fun σ G H ok X D m => by
  refine ⟨fun n σ H => ∃ G' e', Ok B G' H σ e' ∧ Same G G' ∧ Inv n e', ⟨n0, G, e, ok, Same.refl _, h0⟩, ?_⟩
  rintro n σ2 H2 ⟨G2, e2, ok2, s2, inv⟩
  refine ht n e2 inv σ2 G2 H2 ok2 (X.mono s2) _ fun b G3 H3 pb ok3 s3 => ?_
  cases b with
  | false => exact iteF (m.nx σ2 G3 H3 e2 (hd n e2 inv pb) ok3 (s2.trans s3))
  | true =>
    refine iteT ⟨fun σ H => ∃ n', n' < n ∧ ∃ G' e', Ok B G' H σ e' ∧ Same G G' ∧ Inv n' e', fun _ _ h => h, ?_⟩
    exact hs n e2 inv pb σ2 G3 H3 ok3 (X.mono (s2.trans s3)) _ ⟨fun σ5 G5 H5 e5 ⟨n', hn, h5⟩ ok5 s5 => ⟨n', hn, G5, e5, ok5, (s2.trans s3).trans s5, h5⟩, fun v5 r5 σ5 G5 H5 e5 h5 ok5 s5 => m.rt v5 r5 σ5 G5 H5 e5 h5 ok5 ((s2.trans s3).trans s5),
      fun σ5 G5 H5 e5 h5 ok5 s5 => m.nx σ5 G5 H5 e5 h5 ok5 ((s2.trans s3).trans s5), fun σ5 G5 H5 e5 ⟨n', hn, h5⟩ ok5 s5 => ⟨n', hn, G5, e5, ok5, (s2.trans s3).trans s5, h5⟩⟩

/-! ### comprehensions -/
def wipeE (sl : List (Option Slot)) : List Nat → List (Option Slot)
  | [] => sl
  | v :: ws => (wipeE sl ws).set v none
theorem sr_wipe {K : PySem.W.Frag} {G : Hp} {σ : St} {sl : List (Option Slot)} (h : SR K G σ sl) : ∀ ws : List Nat, SR K G (wipe σ ws) (wipeE sl ws)
  | [] => h
  | v :: ws => (sr_wipe h ws).setNo v none
theorem wipe_idem {σ : St} : ∀ ws : List Nat, ∀ ws' : List Nat, (∀ j ∈ ws', j ∈ ws) → wipe (wipe σ ws') ws = wipe σ ws := fun ws ws' => by
  induction ws' with
  | nil => intro _; rfl
  | cons a r ih =>
    intro h
    show wipe ((wipe σ r).set a none) ws = wipe σ ws
    rw [wipe_set_mem (h a List.mem_cons_self)]
    exact ih fun j hj => h j (List.mem_cons_of_mem _ hj)
theorem Ok.addEnd {G H : Hp} {σ : St} {e : Ev1} (ok : Ok B G H σ e) {p : Addr} {o : HO} {c : Cell} (gp : G p = none) (hp : H p = some o) (h0 : B.H0 p = none) (hc : ∀ c ∈ e.cl, c.1 ≠ p) (hl : c.lc = true) (k : c.hp B.K G o) : Ok B G H σ ⟨e.sl, e.cl ++ [(p, c)]⟩ := by
  have a := ok.addCell gp hp h0 hc hl k
  have pm : ((p, c) :: e.cl).Perm (e.cl ++ [(p, c)]) := (List.perm_append_singleton (p, c) e.cl).symm
  exact ⟨a.g0, a.gh, a.fr, a.al, a.nw, a.sr, (pm.map (·.1)).nodup_iff.mp a.cr.nd, fun d hd => a.cr.at_ d (pm.mem_iff.mpr hd)⟩
theorem Ok.dropEnd {G H : Hp} {σ : St} {sl : List (Option Slot)} {cl : List (Addr × Cell)} {d : Addr × Cell} (ok : Ok B G H σ ⟨sl, cl ++ [d]⟩) : Ok B G H σ ⟨sl, cl⟩ := by
  have n := ok.cr.nd
  rw [List.map_append] at n
  exact ⟨ok.g0, ok.gh, ok.fr, ok.al, ok.nw, ok.sr, (List.nodup_append.mp n).1, fun c hc => ok.cr.at_ c (List.mem_append_left _ hc)⟩
theorem Ok.endNe {G H : Hp} {σ : St} {sl : List (Option Slot)} {cl : List (Addr × Cell)} {d : Addr × Cell} (ok : Ok B G H σ ⟨sl, cl ++ [d]⟩) : ∀ c ∈ cl, c.1 ≠ d.1 := fun c hc z => by
  have n := ok.cr.nd
  rw [List.map_append] at n
  exact (List.nodup_append.mp n).2.2 c.1 (List.mem_map.mpr ⟨c, hc, rfl⟩) d.1 (by simp) z
theorem wipe_len {σ : St} (ws : List Nat) : (wipe σ ws).length = σ.length := wipe_length σ ws
theorem evl_lc {ws : List Nat} (hi : EvI B wi e xs) (hg : EvG B g js f) (hj : ∀ j ∈ js, j ∈ ws) (hl : xs.length ≤ 1000000) (I : List α → List β → Prop) (h0 : I [] []) (pt : α → Bool → Prop) (pe : α → β → Prop)
    (ht : ∀ pre x post, xs = pre ++ x :: post → ∀ dc, EvT B tt ⟨f x (wipeE e.sl ws), e.cl ++ [dc]⟩ (pt x))
    (he : ∀ pre x post, xs = pre ++ x :: post → pt x true → ∀ dc, Ev B te ⟨f x (wipeE e.sl ws), e.cl ++ [dc]⟩ (pe x))
    (hy : ∀ pre x post ys y, xs = pre ++ x :: post → I pre ys → pt x true → pe x y → I (pre ++ [x]) (ys ++ [y]))
    (hn : ∀ pre x post ys, xs = pre ++ x :: post → I pre ys → pt x false → I (pre ++ [x]) ys) : EvL B (tLc wi g tt te ws) e (I xs) := fun σ G H ok X Q q =>
  hi σ G H ok X _ fun J G1 H1 ok1 s1 gv => fun D hD => by
    refine ⟨fun i n H => ∃ G2 ys, n = xs.length - i ∧ i ≤ xs.length ∧ ys.length ≤ i ∧ Ok B G2 H σ ⟨e.sl, e.cl ++ [(D, ownL ys)]⟩ ∧ B.H0 D = none ∧ Same G1 G2 ∧ I (xs.take i) ys, ⟨xs.length, G1, [], by simp, Nat.zero_le _, Nat.zero_le _, ?_, ok1.al D hD, Same.refl _, by rw [List.take_zero]; exact h0⟩, ?_⟩
    · exact (ok1.newH hD).addEnd (ok1.gh.free hD) upd_same (ok1.al D hD) (fun c hc => by
        obtain ⟨_, _, o', h3, _⟩ := ok1.cr.at_ c hc
        exact ne_of_none h3 hD) rfl ⟨[], rfl, .nil⟩
    rintro i n H2 ⟨G2, ys, rfl, hi2, hy2, ok2, hD0, s2, inv⟩
    obtain ⟨g1, g2, g3⟩ := gv H2 (s2.trans ok2.gh) i
    by_cases hlt : i < xs.length
    · refine .inr ⟨g1 hlt, fun H => ∃ G2 ys, ys.length ≤ i + 1 ∧ Ok B G2 H σ ⟨e.sl, e.cl ++ [(D, ownL ys)]⟩ ∧ Same G1 G2 ∧ I (xs.take (i + 1)) ys, fun H' ⟨G', ys', k1, k2, k3, k4⟩ => ⟨xs.length - (i + 1), by omega, G', ys', rfl, hlt, k1, k2, hD0, k3, k4⟩, fun v H' hyl => ?_⟩
      have hx : xs[i]? = some xs[i] := List.getElem?_eq_getElem hlt
      have split : xs = xs.take i ++ xs[i] :: xs.drop (i + 1) := by rw [← List.drop_eq_getElem_cons hlt, List.take_append_drop]
      have tk1 : xs.take (i + 1) = xs.take i ++ [xs[i]] := by rw [List.take_add_one, hx]; rfl
      have fin : ∀ G3, Ok B G3 H' σ ⟨e.sl, e.cl ++ [(D, ownL ys)]⟩ → Same G1 G3 → Enc.rep B.K G3 v xs[i] → g v (wipe σ ws) H' fun σ2 H2 => wipe σ2 ws = wipe σ ws ∧ tt σ2 H2 fun b H3 =>
          if b = true then te σ2 H3 fun y H4 => ∃ acc, H4 D = some (.lst acc) ∧ acc.length < sizeLine ∧ (∃ G2 ys, ys.length ≤ i + 1 ∧ Ok B G2 (upd H4 D (.lst (acc ++ [y]))) σ ⟨e.sl, e.cl ++ [(D, ownL ys)]⟩ ∧ Same G1 G2 ∧ I (xs.take (i + 1)) ys)
          else ∃ G2 ys, ys.length ≤ i + 1 ∧ Ok B G2 H3 σ ⟨e.sl, e.cl ++ [(D, ownL ys)]⟩ ∧ Same G1 G2 ∧ I (xs.take (i + 1)) ys := fun G3 ok3 s13 r3 => by
        have ok3w : Ok B G3 H' (wipe σ ws) ⟨wipeE e.sl ws, e.cl ++ [(D, ownL ys)]⟩ := ⟨ok3.g0, ok3.gh, ok3.fr, ok3.al, ok3.nw, sr_wipe ok3.sr ws, ok3.cr⟩
        refine hg (wipe σ ws) G3 H' _ ok3w v _ r3 _ fun σ3 ok4 hw => ⟨by rw [hw ws hj, wipe_idem ws ws fun _ h => h], ?_⟩
        have back : ∀ {G5 H5 : Hp}, Ok B G5 H5 σ3 ⟨f xs[i] (wipeE e.sl ws), e.cl ++ [(D, ownL ys)]⟩ → Same G3 G5 → Ok B G5 H5 σ ⟨e.sl, e.cl ++ [(D, ownL ys)]⟩ := fun {G5 H5} k s5 => ⟨k.g0, k.gh, k.fr, k.al, k.nw, ok3.sr.mono s5, k.cr⟩
        refine ht _ _ _ split (D, ownL ys) σ3 G3 H' ok4 (X.mono (s1.trans s13)) _ fun b G5 H5 pb ok5 s5 => ?_
        cases b with
        | false => exact iteF ⟨G5, ys, by omega, back ok5 s5, s13.trans s5, by rw [tk1]; exact hn _ _ _ _ split inv pb⟩
        | true =>
          refine iteT (he _ _ _ split pb (D, ownL ys) σ3 G5 H5 ok5 (X.mono ((s1.trans s13).trans s5)) _ fun y z G6 H6 pz ok6 s6 r6 => ?_)
          have k6 := back ok6 (s5.trans s6)
          have hcl : (⟨e.sl, e.cl ++ [(D, ownL ys)]⟩ : Ev1).cl[e.cl.length]? = some (D, ownL ys) := by
            show (e.cl ++ [(D, ownL ys)])[e.cl.length]? = _
            rw [List.getElem?_append_right (Nat.le_refl _), Nat.sub_self]
            rfl
          obtain ⟨_, _, o, ho, acc, rfl, hacc⟩ := k6.cell hcl
          refine ⟨acc, ho, ?_, G6, ys ++ [z], by rw [List.length_append]; show ys.length + 1 ≤ i + 1; omega, ?_, (s13.trans s5).trans s6, by rw [tk1]; exact hy _ _ _ _ _ split inv pb pz⟩
          · rw [hacc.length, sizeLine_eq]
            omega
          · have w := k6.write (c' := ownL (ys ++ [z])) hcl rfl ⟨acc ++ [y], rfl, hacc.snoc r6⟩
            have e9 : (e.cl ++ [(D, ownL ys)]).set e.cl.length (D, ownL (ys ++ [z])) = e.cl ++ [(D, ownL (ys ++ [z]))] := by
              rw [List.set_append_right _ _ (Nat.le_refl _), Nat.sub_self]
              rfl
            exact e9 ▸ w
      rcases g3 _ v H' hx hyl with ⟨rfl, r⟩ | ⟨T, o, hT, rfl, r⟩
      · exact fin G2 ok2 s2 (Enc.mono s2 r)
      · have gT : G2 T = none := ok2.gh.free hT
        exact fin (upd G2 T o) (ok2.new hT) (s2.trans (same_upd gT)) (Enc.mono (same_upd2 s2) r)
    · have e3 : i = xs.length := by omega
      subst e3
      rw [List.take_length] at inv
      have hcl : (⟨e.sl, e.cl ++ [(D, ownL ys)]⟩ : Ev1).cl[e.cl.length]? = some (D, ownL ys) := by
        show (e.cl ++ [(D, ownL ys)])[e.cl.length]? = _
        rw [List.getElem?_append_right (Nat.le_refl _), Nat.sub_self]
        rfl
      obtain ⟨gD, _, o, ho, acc, rfl, hacc⟩ := ok2.cell hcl
      exact .inl ⟨g2 (Nat.le_refl _), q D acc ys G2 H2 inv ok2.dropEnd (s1.trans s2) ⟨_, ho, rfl⟩ gD hD0 ok2.endNe hacc⟩
/-- .. where all is decided -/
theorem evl_lcD {ws : List Nat} {p : α → Bool} {h : α → β} (hi : EvI B wi e xs) (hg : EvG B g js f) (hj : ∀ j ∈ js, j ∈ ws) (hl : xs.length ≤ 1000000)
    (ht : ∀ pre x post, xs = pre ++ x :: post → ∀ dc, EvTD B tt ⟨f x (wipeE e.sl ws), e.cl ++ [dc]⟩ (p x))
    (he : ∀ pre x post, xs = pre ++ x :: post → p x = true → ∀ dc, EvD B te ⟨f x (wipeE e.sl ws), e.cl ++ [dc]⟩ (h x)) : EvL B (tLc wi g tt te ws) e (· = (xs.filter p).map h) :=
  evl_lc hi hg hj hl (fun pre ys => ys = (pre.filter p).map h) rfl (fun x b => b = p x) (fun x y => y = h x) ht (fun pre x post s pb => he pre x post s pb.symm)
    (fun pre x post ys y _ hI pb py => by subst hI; subst py; rw [List.filter_append, List.map_append, List.filter_cons, if_pos pb.symm]; rfl)
    (fun pre x post ys _ hI pb => by subst hI; rw [List.filter_append, List.map_append, List.filter_cons, if_neg (by rw [← pb]; exact Bool.false_ne_true)]; simp)
theorem et_yes : EvTD B tYes e true := fun σ G H ok X Q q => q true G H rfl ok (Same.refl G)
theorem evl_lcM {ws : List Nat} {h : α → β} (hi : EvI B wi e xs) (hg : EvG B g js f) (hj : ∀ j ∈ js, j ∈ ws) (hl : xs.length ≤ 1000000)
    (he : ∀ pre x post, xs = pre ++ x :: post → ∀ dc, EvD B te ⟨f x (wipeE e.sl ws), e.cl ++ [dc]⟩ (h x)) : EvL B (tLc wi g tYes te ws) e (· = xs.map h) :=
  (evl_lcD (p := fun _ => true) hi hg hj hl (fun _ _ _ _ _ => et_yes) fun pre x post s _ => he pre x post s).mono fun ys h => by rw [h, List.filter_eq_self.mpr fun _ _ => rfl]

/-! ### own lists -/
theorem ty_list {K : PySem.W.Frag} {H : Hp} {a : Addr} {us : List V} (h : H a = some (.lst us)) : tyV K "list" (.ref a) H := .inl ⟨rfl, us, .inl (.inl h)⟩
theorem do_append {k : Nat} {a : Addr} {ys : List α} {P : α → Prop} (hc : e.cl[k]? = some (a, ownL ys)) (ho : EvD B ta e (Adr.mk a)) (h : Ev B te e P) (hz : ys.length ≤ 1000000) (q : ∀ y, P y → E.nx ⟨e.sl, e.cl.set k (a, ownL (ys ++ [y]))⟩) :
    Do B (tDrop (tBM B.K "list" rAppend ta (tCons te tNil))) e E := fun σ G H ok X D m =>
  ho σ G H ok X _ fun v x G1 H1 p ok1 s1 r1 => by
    subst p
    obtain rfl := (show v = V.ref a from r1)
    obtain ⟨_, _, o, h1, us, rfl, _⟩ := ok1.cell hc
    refine ⟨ty_list h1, h σ G1 H1 ok1 (X.mono s1) _ fun w y G2 H2 py ok2 s2 r2 => ?_⟩
    obtain ⟨_, _, o, h1', us', rfl, hu⟩ := ok2.cell hc
    refine ⟨a, us', w, rfl, rfl, h1', by rw [hu.length, sizeLine_eq]; omega, ?_⟩
    exact m.nx σ G2 _ _ (q y py) (ok2.write (c' := ownL (ys ++ [y])) hc rfl ⟨us' ++ [w], rfl, hu.snoc r2⟩) (s1.trans s2)
theorem paired_set {K : PySem.W.Frag} {G : Hp} {w : V} {y : α} (r : Enc.rep K G w y) : ∀ {us : List V} {ys : List α} (j : Nat), Paired (Enc.rep K G) us ys → Paired (Enc.rep K G) (us.set j w) (ys.set j y)
  | _, _, _, .nil => .nil
  | _, _, 0, .cons _ t => .cons r t
  | _, _, j + 1, .cons a t => .cons a (paired_set r j t)
theorem paired_get {K : PySem.W.Frag} {G : Hp} : ∀ {us : List V} {ys : List α} {j : Nat} {y : α}, Paired (Enc.rep K G) us ys → ys[j]? = some y → ∃ u, us[j]? = some u ∧ Enc.rep K G u y
  | _, _, _, _, .nil, h => by simp at h
  | _, _, 0, _, .cons (a := u) a t, h => by
    simp at h
    subst h
    exact ⟨u, rfl, a⟩
  | _, _, j + 1, _, .cons a t, h => paired_get (j := j) t (by simpa using h)
/-- xs[i] = e -/
theorem do_setL {ti : TE} {k j : Nat} {a : Addr} {ys : List α} {P : α → Prop} {i : Int} (hc : e.cl[k]? = some (a, ownL ys)) (h : Ev B te e P) (ho : EvD B ta e (Adr.mk a)) (hi : EvD B ti e i) (hj : ixN ys.length i = some j) (q : ∀ y, P y → E.nx ⟨e.sl, e.cl.set k (a, ownL (ys.set j y))⟩) :
    Do B (tAsg te (gSub ta ti rSetL)) e E := fun σ G H ok X D m =>
  h σ G H ok X _ fun w y G1 H1 py ok1 s1 r1 => ho σ G1 H1 ok1 (X.mono s1) _ fun v x G2 H2 p ok2 s2 r2 => hi σ G2 H2 ok2 (X.mono (s1.trans s2)) _ fun v3 x3 G3 H3 p3 ok3 s3 r3 => by
    subst p
    subst p3
    obtain rfl := (show v = V.ref a from r2)
    obtain rfl := (show v3 = V.int x3 from r3)
    obtain ⟨_, _, o, h1, us, rfl, hu⟩ := ok3.cell hc
    refine ⟨a, us, x3, j, rfl, rfl, h1, by rw [hu.length]; exact hj, ?_⟩
    exact m.nx σ G3 _ _ (q y py) (ok3.write (c' := ownL (ys.set j y)) hc rfl ⟨us.set j w, rfl, paired_set (Enc.mono (s2.trans s3) r1) j hu⟩) ((s1.trans s2).trans s3)
/-- what was a cell is known from now on -/
theorem do_freeze {k j : Nat} {a : Addr} {ys : List α} (hc : e.cl[k]? = some (a, ownL ys)) (hs : e.sl[j]? = some (va (Adr.mk a))) (h : Do B t ⟨e.sl.set j (va ys), e.cl.eraseIdx k⟩ E) : Do B t e E := fun σ G H ok X D m => by
  obtain ⟨g1, hl, o, h1, us, rfl, hu⟩ := ok.cell hc
  have h0 : B.H0 a = none := hl
  have nd2 : ∀ c ∈ e.cl.eraseIdx k, c.1 ≠ a := fun c hm z => by
    obtain ⟨i, hi, e1⟩ := List.mem_iff_getElem.mp hm
    have e2 : (e.cl.eraseIdx k)[i]? = some c := by rw [List.getElem?_eq_getElem hi, e1]
    rw [List.getElem?_eraseIdx] at e2
    have n2 : (e.cl.map (·.1))[k]? = some a := by
      rw [List.getElem?_map, hc]
      rfl
    by_cases hik : i < k
    · rw [if_pos hik] at e2
      have n1 : (e.cl.map (·.1))[i]? = some a := by
        rw [List.getElem?_map, e2]
        exact congrArg some z
      exact absurd (nd_ix ok.cr.nd n1 n2) (by omega)
    · rw [if_neg hik] at e2
      have n1 : (e.cl.map (·.1))[i + 1]? = some a := by
        rw [List.getElem?_map, e2]
        exact congrArg some z
      exact absurd (nd_ix ok.cr.nd n1 n2) (by omega)
  have ok2 : Ok B G H σ ⟨e.sl, e.cl.eraseIdx k⟩ := ⟨ok.g0, ok.gh, ok.fr, ok.al, ok.nw, ok.sr, by
      show ((e.cl.eraseIdx k).map (·.1)).Nodup
      rw [List.eraseIdx_eq_take_drop_succ, List.map_append]
      exact List.Nodup.sublist (by rw [← List.map_append]; exact ((List.eraseIdx_eq_take_drop_succ e.cl k) ▸ List.eraseIdx_sublist e.cl k).map _) ok.cr.nd,
    fun c hm => ok.cr.at_ c (List.mem_of_mem_eraseIdx hm)⟩
  have sg : Same G (upd G a (.lst us)) := same_upd g1
  have ok3 := ok2.know g1 h1 h0 nd2
  obtain ⟨v, hv, rv⟩ := ok.sr.get j _ hs
  obtain rfl := (show v = V.ref a from rv)
  have ok4 := ok3.set j (v := .ref a) (s := vs ys) ⟨a, us, rfl, upd_same, paired_mono sg hu⟩
  have e5 : σ.set j (some (V.ref a)) = σ := by
    apply List.ext_getElem?
    intro i
    by_cases hij : j = i
    · subst hij
      rw [List.getElem?_set_self (List.getElem?_eq_some_iff.mp hv).1, hv]
    · rw [List.getElem?_set_ne hij]
  rw [e5] at ok4
  exact h σ (upd G a (.lst us)) H ok4 (X.mono sg) D (m.mono sg)
end
end Fw

namespace Fw
open PySem L2

/-! ### calls -/
/-- behind a call: cl the cells handed in, cl' those that are left -/
structure After (K : PySem.W.Frag) (G H : Hp) (cl : List (Addr × Cell)) (G' H' : Hp) (cl' : List (Addr × Cell)) : Prop where
  gg : Same G G'
  gh : Same G' H'
  fr : ∀ b o, H b = some o → b ∉ cl.map (·.1) → H' b = some o
  al : ∀ b, H' b = none → H b = none
  nw : ∀ b, G' b ≠ none → G b ≠ none ∨ H b = none
  nd : (cl'.map (·.1)).Nodup
  at_ : ∀ p ∈ cl', G' p.1 = none ∧ (if p.2.lc = true then H p.1 = none else p.1 ∈ cl.map (·.1)) ∧ ∃ o, H' p.1 = some o ∧ p.2.hp K G' o
/-- a call's promise -/
def Call (K : PySem.W.Frag) (args : List Slot) (cl : List (Addr × Cell)) {ρ : Type} [Enc ρ] (post : ρ → List (Addr × Cell) → Prop) (xp : XD → List (Addr × Cell) → Prop) : Sp := fun us H Q E =>
  ∃ G, Same G H ∧ Reps K G us args ∧ (cl.map (·.1)).Nodup ∧ (∀ p ∈ cl, p.2.lc = false ∧ G p.1 = none ∧ ∃ o, H p.1 = some o ∧ p.2.hp K G o) ∧
    (∀ v r cl' G' H', post r cl' → After K G H cl G' H' cl' → Enc.rep K G' v r → Q v H') ∧ (∀ d x cl' G' H', xp x cl' → After K G H cl G' H' cl' → x.rp K G' d → E x.cls d H')
theorem Call.len {K : PySem.W.Frag} {args : List Slot} {cl : List (Addr × Cell)} {ρ : Type} [Enc ρ] {post : ρ → List (Addr × Cell) → Prop} {xp : XD → List (Addr × Cell) → Prop} {us : List V} {H : Hp} {Q : VK} {E : XK} (h : Call K args cl post xp us H Q E) : us.length = args.length := by
  obtain ⟨G, _, r, _⟩ := h
  exact r.length
theorem start_get {N : List Str} {us : List V} {i : Nat} {v : V} (h : us[i]? = some v) : (L2.start N us)[i]? = some (some v) := by
  have hi : i < us.length := (List.getElem?_eq_some_iff.mp h).1
  unfold L2.start
  rw [List.getElem?_append_left (by rw [List.length_map]; exact hi), List.getElem?_map, h]
  rfl
theorem reps_get {K : PySem.W.Frag} {G : Hp} : ∀ {us : List V} {ss : List Slot} {j : Nat} {s : Slot}, Reps K G us ss → ss[j]? = some s → ∃ u, us[j]? = some u ∧ s.rp K G u
  | _, _, _, _, .nil, h => by simp at h
  | _, _, 0, _, .cons (a := u) a t, h => by
    simp at h
    subst h
    exact ⟨u, rfl, a⟩
  | _, _, j + 1, _, .cons a t, h => reps_get (j := j) t (by simpa using h)
/-- a def's body, from its promise -/
theorem Call.body {K : PySem.W.Frag} {args : List Slot} {cl : List (Addr × Cell)} {ρ : Type} [Enc ρ] {post : ρ → List (Addr × Cell) → Prop} {xp : XD → List (Addr × Cell) → Prop} {us : List V} {H : Hp} {Q : VK} {E : XK} {N : List Str} {t : TS} {sl : List (Option Slot)} (h : Call K args cl post xp us H Q E)
    (hsl : sl = args.map some ++ List.replicate (N.length - args.length) none)
    (hd : ∀ (G0 H0 : Hp), Do { K := K, G0 := G0, H0 := H0, A0 := cl.map (·.1), W := fun cls d _ H => E cls d H, xr := fun x e => ∃ cl', cl'.Sublist e.cl ∧ xp x cl' } t ⟨sl, cl⟩
      ({ nx := fun e => ∃ r, (∀ K G, Enc.rep K G V.non r) ∧ ∃ cl', cl'.Sublist e.cl ∧ post r cl', rt := fun r e => ∃ cl', cl'.Sublist e.cl ∧ post r cl', bk := fun _ => False, ct := fun _ => False } : En ρ)) :
    t { nx := fun _ H' => Q .non H', rt := Q } (L2.start N us) H := by
  subst hsl
  obtain ⟨G, gh, r, nd, hc, hq, hx⟩ := h
  have hl := r.length
  have ok : Ok { K := K, G0 := G, H0 := H, A0 := cl.map (·.1), W := fun cls d _ H => E cls d H, xr := fun x e => ∃ cl', cl'.Sublist e.cl ∧ xp x cl' } G H (L2.start N us) ⟨args.map some ++ List.replicate (N.length - args.length) none, cl⟩ := by
    refine ⟨Same.refl _, gh, fun _ _ h _ => h, fun _ h => h, fun _ h => .inl h, ⟨?_, fun i s hs => ?_⟩, nd, fun p hp => ?_⟩
    · show (L2.start N us).length = (args.map some ++ List.replicate (N.length - args.length) none).length
      unfold L2.start
      rw [List.length_append, List.length_append, List.length_map, List.length_map, List.length_replicate, List.length_replicate, hl]
    · have hs : (args.map some ++ List.replicate (N.length - args.length) none)[i]? = some (some s) := hs
      by_cases hi : i < args.length
      · rw [List.getElem?_append_left (by rw [List.length_map]; exact hi), List.getElem?_map] at hs
        cases e : args[i]? with
        | none => rw [e] at hs; cases hs
        | some s' =>
          rw [e] at hs
          have e2 : s' = s := Option.some.inj (Option.some.inj hs)
          subst e2
          obtain ⟨u, h1, h2⟩ := reps_get r e
          exact ⟨u, start_get h1, h2⟩
      · rw [List.getElem?_append_right (by rw [List.length_map]; omega), List.getElem?_replicate] at hs
        split at hs
        · cases Option.some.inj hs
        · cases hs
    · obtain ⟨h1, h2, h3⟩ := hc p hp
      exact ⟨h2, by rw [if_neg (by rw [h1]; exact Bool.false_ne_true)]; exact List.mem_map.mpr ⟨p, hp, rfl⟩, h3⟩
  have aft : ∀ {σ : St} {G' H' : Hp} {e' : Ev1} {cl' : List (Addr × Cell)}, cl'.Sublist e'.cl → Ok { K := K, G0 := G, H0 := H, A0 := cl.map (·.1), W := fun cls d _ H => E cls d H, xr := fun x e => ∃ cl', cl'.Sublist e.cl ∧ xp x cl' } G' H' σ e' → After K G H cl G' H' cl' := fun {σ G' H' e' cl'} hs k => ⟨k.g0, k.gh, k.fr, k.al, k.nw, List.Nodup.sublist (hs.map _) k.cr.nd, fun p hp => k.cr.at_ p (hs.mem hp)⟩
  refine hd G H (L2.start N us) G H ok (fun d σ' G' H' e' x ⟨cl', hs, xr⟩ k s rx => hx d x cl' G' H' xr (aft hs k) rx) _ ⟨fun σ G' H' e' ⟨r, h1, cl', hs, h2⟩ k s => hq _ r cl' G' H' h2 (aft hs k) (h1 _ _), fun v r σ G' H' e' ⟨cl', hs, h1⟩ k s h2 => hq v r cl' G' H' h1 (aft hs k) h2, fun _ _ _ _ z => z.elim, fun _ _ _ _ z => z.elim⟩

section
variable {B : Bs} {e : Ev1} {α β γ ρ : Type} [Enc α] [Enc β] [Enc γ] [Enc ρ] {te tl ta : TE} {E : En ρ}
/-- behind a call that leaves its cells as they were -/
theorem after_ok {G H G' H' : Hp} {σ : St} {cl : List (Addr × Cell)} (ok : Ok B G H σ e) (hcl : ∀ p ∈ cl, ∃ c, (p.1, c) ∈ e.cl ∧ c.hp = p.2.hp) (a : After B.K G H cl G' H' cl) : Ok B G' H' σ e := by
  refine ⟨ok.g0.trans a.gg, a.gh, fun b o h hb => a.fr b o (ok.fr b o h hb) fun hm => ?_, fun b h => ok.al b (a.al b h), fun b h => ?_, ok.sr.mono a.gg, ok.cr.nd, fun c hc => ?_⟩
  · obtain ⟨p, hp, rfl⟩ := List.mem_map.mp hm
    obtain ⟨c, hc, _⟩ := hcl p hp
    obtain ⟨_, h2, _⟩ := ok.cr.at_ _ hc
    split at h2
    · have h2 : B.H0 p.1 = none := h2
      rw [h2] at h
      cases h
    · exact hb h2
  · rcases a.nw b h with h | h
    · exact ok.nw b h
    · exact .inr (ok.al b h)
  · obtain ⟨h1, h2, o, h3, h4⟩ := ok.cr.at_ c hc
    by_cases hm : c.1 ∈ cl.map (·.1)
    · obtain ⟨p, hp, e1⟩ := List.mem_map.mp hm
      obtain ⟨c', hc', e2⟩ := hcl p hp
      have e3 : (p.1, c') = c := by
        obtain ⟨i, hi, x1⟩ := List.mem_iff_getElem.mp hc'
        obtain ⟨j, hj, x2⟩ := List.mem_iff_getElem.mp hc
        have n1 : (e.cl.map (·.1))[i]? = some p.1 := by rw [List.getElem?_map, List.getElem?_eq_getElem hi, x1]; rfl
        have n2 : (e.cl.map (·.1))[j]? = some p.1 := by rw [List.getElem?_map, List.getElem?_eq_getElem hj, x2]; exact congrArg some e1.symm
        have e4 := nd_ix ok.cr.nd n1 n2
        subst e4
        exact x1.symm.trans x2
      subst e3
      obtain ⟨k1, _, o', k3, k4⟩ := a.at_ p hp
      exact ⟨k1, h2, o', k3, by show c'.hp B.K G' o'; rw [e2]; exact k4⟩
    · refine ⟨?_, h2, o, a.fr _ _ h3 hm, c.2.mono a.gg h4⟩
      cases q : G' c.1 with
      | none => rfl
      | some u =>
        rcases a.nw c.1 (by rw [q]; exact fun z => nomatch z) with z | z
        · exact absurd h1 z
        · rw [h3] at z
          cases z
/-- f(..) where cells stay as they are; W: any wish, where nothing is raised -/
theorem ev_call {sp : Sp} {W : WX} {t : TA} {P : List Slot → Prop} {P' : ρ → Prop} {cl : List (Addr × Cell)} (post : ρ → List (Addr × Cell) → Prop) (xp : XD → List (Addr × Cell) → Prop) (ha : EvA B t e P)
    (hs : ∀ ss, P ss → ∀ us H Q E, Call B.K ss cl post xp us H Q E → sp us H Q E) (nd : (cl.map (·.1)).Nodup) (hcl : ∀ p ∈ cl, p.2.lc = false ∧ ∃ c, (p.1, c) ∈ e.cl ∧ c.hp = p.2.hp)
    (hp : ∀ r cl', post r cl' → cl' = cl ∧ P' r) (hx : ∀ x cl', xp x cl' → cl' = cl ∧ W = B.W ∧ B.xr x e) : Ev B (tCallS sp (WE W) t) e P' := fun σ G H ok X Q q =>
  ha σ G H ok X _ fun us ss G1 H1 p ok1 s1 r1 => hs ss p us H1 Q _ ⟨G1, ok1.gh, r1, nd, fun c hc => by
      obtain ⟨h1, c', h2, h3⟩ := hcl c hc
      obtain ⟨k1, _, k3⟩ := ok1.cr.at_ _ h2
      exact ⟨h1, k1, by rw [← h3]; exact k3⟩,
    fun v r cl' G' H' pr a rv => by
      obtain ⟨rfl, pr'⟩ := hp r cl' pr
      exact q v r G' H' pr' (after_ok ok1 (fun c hc => (hcl c hc).2) a) (s1.trans a.gg) rv,
    fun d x cl' G' H' px a rx => by
      obtain ⟨rfl, hw, px'⟩ := hx x cl' px
      subst hw
      exact X d σ G' H' e x px' (after_ok ok1 (fun c hc => (hcl c hc).2) a) (s1.trans a.gg) rx⟩
theorem ev_callP {sp : Sp} {W : WX} {t : TA} {P : List Slot → Prop} {P' : ρ → Prop} (xp : XD → Prop) (ha : EvA B t e P)
    (hs : ∀ ss, P ss → ∀ us H Q E, Call B.K ss [] (fun (r : ρ) c => c = [] ∧ P' r) (fun x c => c = [] ∧ xp x) us H Q E → sp us H Q E) (hx : ∀ x, xp x → W = B.W ∧ B.xr x e) : Ev B (tCallS sp (WE W) t) e P' :=
  ev_call _ _ ha hs List.nodup_nil (fun _ h => nomatch h) (fun r cl' h => h) fun x cl' h => ⟨h.1, hx x h.2⟩
/-- one cell at a place, as it was -/
def prm (c : Cell) : Cell := ⟨false, c.hp, c.mono⟩
theorem ev_call1 {sp : Sp} {W : WX} {t : TA} {P : List Slot → Prop} {P' : ρ → Prop} {k : Nat} {a : Addr} {c c0 : Cell} (hc : e.cl[k]? = some (a, c0)) (e0 : c0.hp = c.hp) (hl : c.lc = false) (xp : XD → Prop) (ha : EvA B t e P)
    (hs : ∀ ss, P ss → ∀ us H Q E, Call B.K ss [(a, c)] (fun (r : ρ) cl => cl = [(a, c)] ∧ P' r) (fun x cl => cl = [(a, c)] ∧ xp x) us H Q E → sp us H Q E) (hx : ∀ x, xp x → W = B.W ∧ B.xr x e) : Ev B (tCallS sp (WE W) t) e P' :=
  ev_call _ _ ha hs (by simp) (fun p hp => by
    obtain rfl := List.mem_singleton.mp hp
    exact ⟨hl, c0, List.mem_of_getElem? hc, e0⟩) (fun r cl' h => h) fun x cl' h => ⟨h.1, hx x h.2⟩
end
end Fw

namespace Fw
open PySem L2

abbrev tl (s : Str) : List Nat := s.cps.toList
theorem szl {n : Nat} (h : n ≤ 10000000) : n ≤ sizeLine := by rw [sizeLine_eq]; omega
theorem szlt {n : Nat} (h : n ≤ 10000000) : n < sizeLine := by rw [sizeLine_eq]; omega

section
variable {B : Bs} {e : Ev1} {α β γ δ ρ : Type} [Enc α] [Enc β] [Enc γ] [Enc ρ] {ta tb te : TE} {t1 : TA} {tt tu : TT} {E : En ρ}
/-! ### by values -/
theorem r2_F {α β γ : Type} [EncF α] [EncF β] [EncF γ] {r : R2} {x : α} {y : β} {z : γ} (h : ∀ H (Q : VK), Q (EncF.toV z) H → r (EncF.toV x) (EncF.toV y) H Q) : R2V B e r x y (· = z) := fun σ G H ok v w rv rw Q q => by
  have e1 := EncF.repV.mp rv
  have e2 := EncF.repV.mp rw
  subst e1
  subst e2
  exact h H Q (q _ z G H rfl ok (Same.refl G) (EncF.repV.mpr rfl))
theorem rc_F1 {α γ : Type} [EncF α] [EncF γ] {r : List V → Hp → VK → Prop} {x : α} {z : γ} (h : ∀ H (Q : VK), Q (EncF.toV z) H → r [EncF.toV x] H Q) : RCV B e r [vs x] (· = z) := fun σ G H ok us ru Q q => by
  cases ru with
  | cons a b =>
    cases b
    have e1 := EncF.repV.mp (show Enc.rep B.K G _ x from a)
    subst e1
    exact h H Q (q _ z G H rfl ok (Same.refl G) (EncF.repV.mpr rfl))
theorem rc_F2 {α β γ : Type} [EncF α] [EncF β] [EncF γ] {r : List V → Hp → VK → Prop} {x : α} {y : β} {z : γ} (h : ∀ H (Q : VK), Q (EncF.toV z) H → r [EncF.toV x, EncF.toV y] H Q) : RCV B e r [vs x, vs y] (· = z) := fun σ G H ok us ru Q q => by
  cases ru with
  | cons a b =>
    cases b with
    | cons a2 b2 =>
      cases b2
      have e1 := EncF.repV.mp (show Enc.rep B.K G _ x from a)
      have e2 := EncF.repV.mp (show Enc.rep B.K G _ y from a2)
      subst e1
      subst e2
      exact h H Q (q _ z G H rfl ok (Same.refl G) (EncF.repV.mpr rfl))
/-! ### ints -/
theorem r2_add {i j : Int} : R2V B e (rI0 fun i j => .int (i + j)) i j (· = i + j) := r2_F fun H Q q => ⟨i, j, rfl, rfl, q⟩
theorem r2_sub {i j : Int} : R2V B e (rI0 fun i j => .int (i - j)) i j (· = i - j) := r2_F fun H Q q => ⟨i, j, rfl, rfl, q⟩
theorem r2_mul {i j : Int} (h : (-(2 ^ 64) < i ∧ i < 2 ^ 64) ∨ (-(2 ^ 64) < j ∧ j < 2 ^ 64)) : R2V B e (rI CMul fun i j => .int (i * j)) i j (· = i * j) := r2_F fun H Q q => ⟨i, j, rfl, rfl, h, q⟩
theorem r2_mod {i j : Int} (h : 0 < j) : R2V B e (rI (fun _ j => 0 < j) fun i j => .int (i % j)) i j (· = i % j) := r2_F fun H Q q => ⟨i, j, rfl, rfl, h, q⟩
theorem r2_fdiv {i j : Int} (h : 0 < j ∧ j < 1073741824) : R2V B e (rI CDiv fun i j => .int (i / j)) i j (· = i / j) := r2_F fun H Q q => ⟨i, j, rfl, rfl, h, q⟩
theorem r2_pow {i j : Int} (h : 0 ≤ j ∧ j ≤ 1000000 ∧ i.natAbs < 2 ^ 64) : R2V B e (rI CPow fun i j => .int (i ^ j.toNat)) i j (· = i ^ j.toNat) := r2_F fun H Q q => ⟨i, j, rfl, rfl, h, q⟩
theorem r2_lt {i j : Int} : R2V B e (rI0 fun i j => .bl (decide (i < j))) i j (· = decide (i < j)) := r2_F fun H Q q => ⟨i, j, rfl, rfl, q⟩
theorem r2_le {i j : Int} : R2V B e (rI0 fun i j => .bl (decide (i ≤ j))) i j (· = decide (i ≤ j)) := r2_F fun H Q q => ⟨i, j, rfl, rfl, q⟩
theorem r2_gt {i j : Int} : R2V B e (rI0 fun i j => .bl (decide (j < i))) i j (· = decide (j < i)) := r2_F fun H Q q => ⟨i, j, rfl, rfl, q⟩
theorem r2_ge {i j : Int} : R2V B e (rI0 fun i j => .bl (decide (j ≤ i))) i j (· = decide (j ≤ i)) := r2_F fun H Q q => ⟨i, j, rfl, rfl, q⟩
theorem r2_eqI {i j : Int} : R2V B e rEq i j (· = decide (i = j)) := r2_F fun H Q q => ⟨rfl, by
  have e1 : decide (V.int i = V.int j) = decide (i = j) := by rw [dec_int]; exact Bool.beq_eq_decide_eq i j
  show Q (.bl (decide (V.int i = V.int j))) H
  rw [e1]
  exact q⟩
theorem r2_neI {i j : Int} : R2V B e rNe i j (· = !decide (i = j)) := r2_F fun H Q q => ⟨rfl, by
  have e1 : decide (V.int i = V.int j) = decide (i = j) := by rw [dec_int]; exact Bool.beq_eq_decide_eq i j
  show Q (.bl (!decide (V.int i = V.int j))) H
  rw [e1]
  exact q⟩
theorem r2_eqS {i j : Str} : R2V B e rEq i j (· = decide (i = j)) := r2_F fun H Q q => ⟨rfl, by
  have e1 : decide (V.str i = V.str j) = decide (i = j) := by
    rw [Bool.eq_iff_iff]
    simp
  show Q (.bl (decide (V.str i = V.str j))) H
  rw [e1]
  exact q⟩
theorem r2_neS {i j : Str} : R2V B e rNe i j (· = !decide (i = j)) := r2_F fun H Q q => ⟨rfl, by
  have e1 : decide (V.str i = V.str j) = decide (i = j) := by
    rw [Bool.eq_iff_iff]
    simp
  show Q (.bl (!decide (V.str i = V.str j))) H
  rw [e1]
  exact q⟩
theorem r2_eqB {i j : Bool} : R2V B e rEq i j (· = decide (i = j)) := r2_F fun H Q q => ⟨rfl, by
  have e1 : decide (V.bl i = V.bl j) = decide (i = j) := by
    rw [Bool.eq_iff_iff]
    simp
  show Q (.bl (decide (V.bl i = V.bl j))) H
  rw [e1]
  exact q⟩
theorem r2_neB {i j : Bool} : R2V B e rNe i j (· = !decide (i = j)) := r2_F fun H Q q => ⟨rfl, by
  have e1 : decide (V.bl i = V.bl j) = decide (i = j) := by
    rw [Bool.eq_iff_iff]
    simp
  show Q (.bl (!decide (V.bl i = V.bl j))) H
  rw [e1]
  exact q⟩
theorem ev_un {r : V → Hp → VK → Prop} {P : α → Prop} {P' : γ → Prop} (h : Ev B ta e P) (hr : ∀ x, P x → ∀ σ G H, Ok B G H σ e → ∀ v, Enc.rep B.K G v x → ∀ Q : VK, (∀ u z G' H', P' z → Ok B G' H' σ e → Same G G' → Enc.rep B.K G' u z → Q u H') → r v H Q) : Ev B (tUn r ta) e P' := fun σ G H ok X Q q =>
  h σ G H ok X _ fun v x G1 H1 p ok1 s1 r1 => hr x p σ G1 H1 ok1 v r1 Q fun u z G2 H2 p2 ok2 s2 r2 => q u z G2 H2 p2 ok2 (s1.trans s2) r2
theorem ev_neg {i : Int} (h : EvD B ta e i) : EvD B (tUn (rU fun i => .int (-i)) ta) e (-i) := ev_un h fun x p σ G H ok v rv Q q => by
  subst p
  exact ⟨x, rv, q _ (-x) G H rfl ok (Same.refl G) rfl⟩
/-! ### texts -/
def sgn (s : Str) : Nat := s.cps.getD 0 0
def rAddS : R2 := fun x y H Q => ∃ i j : Str, x = .str i ∧ y = .str j ∧ i.length + j.length ≤ sizeLine ∧ Q (.str (i ++ j)) H
theorem op_addS {X : Cx} : OpR X (binaryOp .Add) rAddS := op_add_str
theorem r2_addS {i j : Str} (h : i.length + j.length ≤ 10000000) : R2V B e rAddS i j (· = i ++ j) := r2_F fun H Q q => ⟨i, j, rfl, rfl, szl h, q⟩
def rLtS : R2 := fun x y H Q => ∃ i j : Str, x = .str i ∧ y = .str j ∧ Q (.bl (decide (i.cps.toList < j.cps.toList))) H
def rLeS : R2 := fun x y H Q => ∃ i j : Str, x = .str i ∧ y = .str j ∧ Q (.bl (!decide (j.cps.toList < i.cps.toList))) H
def rGtS : R2 := fun x y H Q => ∃ i j : Str, x = .str i ∧ y = .str j ∧ Q (.bl (decide (j.cps.toList < i.cps.toList))) H
def rGeS : R2 := fun x y H Q => ∃ i j : Str, x = .str i ∧ y = .str j ∧ Q (.bl (!decide (i.cps.toList < j.cps.toList))) H
theorem op_ltS {X : Cx} : OpR X (compareOp .Lt) rLtS := op_lt_str
theorem op_leS {X : Cx} : OpR X (compareOp .LtE) rLeS := op_le_str
theorem op_gtS {X : Cx} : OpR X (compareOp .Gt) rGtS := op_gt_str
theorem op_geS {X : Cx} : OpR X (compareOp .GtE) rGeS := op_ge_str
theorem r2_ltS {i j : Str} : R2V B e rLtS i j (· = decide (tl i < tl j)) := r2_F fun H Q q => ⟨i, j, rfl, rfl, q⟩
theorem r2_leS {i j : Str} : R2V B e rLeS i j (· = !decide (tl j < tl i)) := r2_F fun H Q q => ⟨i, j, rfl, rfl, q⟩
theorem r2_gtS {i j : Str} : R2V B e rGtS i j (· = decide (tl j < tl i)) := r2_F fun H Q q => ⟨i, j, rfl, rfl, q⟩
theorem r2_geS {i j : Str} : R2V B e rGeS i j (· = !decide (tl i < tl j)) := r2_F fun H Q q => ⟨i, j, rfl, rfl, q⟩
def rInG : R2 := fun x y H Q => ∃ (c : Nat) (z : Str), x = .str ⟨#[c]⟩ ∧ y = .str z ∧ Q (.bl (decide (c ∈ z.cps.toList))) H
def rNiG : R2 := fun x y H Q => ∃ (c : Nat) (z : Str), x = .str ⟨#[c]⟩ ∧ y = .str z ∧ Q (.bl (!decide (c ∈ z.cps.toList))) H
theorem op_inG {X : Cx} : OpR X (compareOp .In) rInG := op_in_sign
theorem op_niG {X : Cx} : OpR X (compareOp .NotIn) rNiG := op_notIn_sign
theorem r2_inG {i j : Str} (h : i = ⟨#[sgn i]⟩) : R2V B e rInG i j (· = decide (sgn i ∈ tl j)) := r2_F fun H Q q => ⟨sgn i, j, congrArg V.str h, rfl, q⟩
theorem r2_niG {i j : Str} (h : i = ⟨#[sgn i]⟩) : R2V B e rNiG i j (· = !decide (sgn i ∈ tl j)) := r2_F fun H Q q => ⟨sgn i, j, congrArg V.str h, rfl, q⟩
def rLenT : List V → Hp → VK → Prop := fun xs H Q => ∃ z : Str, xs = [.str z] ∧ z.length ≤ sizeLine ∧ Q (.int z.length) H
theorem cr_lenT {X : Cx} : CallR X (.builtin "len") rLenT := call_len_str
theorem rc_lenT {z : Str} (h : z.length ≤ 10000000) : RCV B e rLenT [vs z] (· = (z.length : Int)) := rc_F1 fun H Q q => ⟨z, rfl, szl h, q⟩
theorem ixN_nn {n : Nat} {i : Int} (h0 : 0 ≤ i) (h1 : i < n) : ixN n i = some i.toNat := by
  unfold ixN
  rw [if_pos h0, if_pos h1]
theorem ixN_ng {n : Nat} {i : Int} (h0 : i < 0) (h1 : -(n : Int) ≤ i) : ixN n i = some (i + n).toNat := by
  unfold ixN
  rw [if_neg (by omega), if_pos h1]
/-- the sign at a place -/
def sgnAt (z : Str) (k : Nat) : Str := ⟨#[z.cps.getD k 0]⟩
theorem r2_ixS {z : Str} {i : Int} {k : Nat} (hz : z.length ≤ 10000000) (h : ixN z.length i = some k) : R2V B e rIxS z i (· = sgnAt z k) := r2_F fun H Q q => ⟨z, i, z.cps.getD k 0, rfl, rfl, szl hz, by
  have hk := (ixN_seq h).2.1
  have hk : k < z.cps.size := hk
  unfold atI
  rw [Array.length_toList]
  have h : ixN z.cps.size i = some k := h
  rw [h]
  show z.cps.toList[k]? = some (z.cps.getD k 0)
  rw [Array.getElem?_toList, Array.getElem?_eq_getElem hk]
  simp [Array.getD, hk], q⟩
/-! parts of a slice -/
def EvO (B : Bs) (to : TO) (e : Ev1) (o : Option Int) : Prop := ∀ σ G H, Ok B G H σ e → XOk B G → ∀ Q : Option Int → Hp → Prop, (∀ G' H', Ok B G' H' σ e → Same G G' → Q o H') → to σ H Q
theorem eo_none : EvO B tNoPart e none := fun σ G H ok X Q q => q G H ok (Same.refl G)
theorem eo_some {i : Int} (h : EvD B te e i) : EvO B (tPart te) e (some i) := fun σ G H ok X Q q => h σ G H ok X _ fun v x G' H' p ok' s r => ⟨x, r, by rw [p]; exact q G' H' ok' s⟩
theorem ev_slS {z : Str} {lo hi : Option Int} {t2 t3 : TO} (h : EvD B te e z) (h1 : EvO B t2 e lo) (h2 : EvO B t3 e hi) (hz : z.length ≤ 10000000) : EvD B (tSl rSlS te t2 t3) e (cutS z lo hi) := fun σ G H ok X Q q =>
  h σ G H ok X _ fun v x G1 H1 p ok1 s1 r1 => h1 σ G1 H1 ok1 (X.mono s1) _ fun G2 H2 ok2 s2 => h2 σ G2 H2 ok2 (X.mono (s1.trans s2)) _ fun G3 H3 ok3 s3 => by
    subst p
    exact ⟨x, r1, szl hz, q _ _ G3 H3 rfl ok3 ((s1.trans s2).trans s3) rfl⟩
/-! ### calls of built-ins on ints -/
def rAbs : List V → Hp → VK → Prop := fun xs H Q => ∃ i : Int, xs = [.int i] ∧ Q (.int (if i < 0 then -i else i)) H
theorem cr_abs {X : Cx} : CallR X (.builtin "abs") rAbs := call_abs
theorem rc_abs {i : Int} : RCV B e rAbs [vs i] (· = if i < 0 then -i else i) := rc_F1 fun H Q q => ⟨i, rfl, q⟩
def rMax2 : List V → Hp → VK → Prop := fun xs H Q => ∃ i j : Int, xs = [.int i, .int j] ∧ Q (.int (if j > i then j else i)) H
theorem cr_max2 {X : Cx} (hc : X.calm = true) : CallR X (.builtin "max") rMax2 := call_max2 hc
theorem rc_max2 {i j : Int} : RCV B e rMax2 [vs i, vs j] (· = if j > i then j else i) := rc_F2 fun H Q q => ⟨i, j, rfl, q⟩
def rMin2 : List V → Hp → VK → Prop := fun xs H Q => ∃ i j : Int, xs = [.int i, .int j] ∧ Q (.int (if j < i then j else i)) H
theorem cr_min2 {X : Cx} (hc : X.calm = true) : CallR X (.builtin "min") rMin2 := call_min2 hc
theorem rc_min2 {i j : Int} : RCV B e rMin2 [vs i, vs j] (· = if j < i then j else i) := rc_F2 fun H Q q => ⟨i, j, rfl, q⟩
def rInt1 : List V → Hp → VK → Prop := fun xs H Q => (∃ i : Int, xs = [.int i] ∧ Q (.int i) H) ∨ ∃ k : Bool, xs = [.bl k] ∧ Q (.int (if k then 1 else 0)) H
theorem cr_int1 {X : Cx} : CallR X (.type "int") rInt1 := call_int1
theorem rc_int1 {i : Int} : RCV B e rInt1 [vs i] (· = i) := rc_F1 fun H Q q => .inl ⟨i, rfl, q⟩
theorem rc_intb {k : Bool} : RCV B e rInt1 [vs k] (· = (if k = true then (1 : Int) else 0)) := rc_F1 fun H Q q => .inr ⟨k, rfl, q⟩
def rStrI : List V → Hp → VK → Prop := fun xs H Q => ∃ i : Int, xs = [.int i] ∧ i.natAbs.log2 < 1920 ∧ Q (.str (toString i)) H
theorem cr_strI {X : Cx} : CallR X (.type "str") rStrI := call_str_int
def strI (i : Int) : Str := toString i
theorem rc_strI {i : Int} (h : i.natAbs.log2 < 1920) : RCV B e rStrI [vs i] (· = strI i) := rc_F1 fun H Q q => ⟨i, rfl, h, q⟩
/-! ### len of sequences -/
def rLenQ (K : PySem.W.Frag) : List V → Hp → VK → Prop := fun xs H Q => ∃ p ys, xs = [.ref p] ∧ (SqL K H p ys ∨ SqT K H p ys) ∧ Q (.int ys.length) H
theorem cr_lenQ {X : Cx} : CallR X (.builtin "len") (rLenQ X.K) := call_len_seq
theorem rc_lenL {xs : List α} : RCV B e (rLenQ B.K) [vs xs] (· = (xs.length : Int)) := fun σ G H ok us ru Q q => by
  cases ru with
  | cons a b =>
    cases b
    obtain ⟨p, ws, rfl, h1, h2⟩ := (show Enc.rep B.K G _ xs from a)
    exact ⟨p, ws, rfl, .inl (.inl (.inl (ok.gh _ _ h1))), q _ _ G H rfl ok (Same.refl G) (by show V.int _ = V.int _; rw [h2.length])⟩
theorem rc_lenU {xs : Tup α} : RCV B e (rLenQ B.K) [vs xs] (· = (xs.l.length : Int)) := fun σ G H ok us ru Q q => by
  cases ru with
  | cons a b =>
    cases b
    obtain ⟨p, ws, rfl, h1, h2⟩ := (show Enc.rep B.K G _ xs from a)
    exact ⟨p, ws, rfl, .inr (same_t ok.gh h1), q _ _ G H rfl ok (Same.refl G) (by show V.int _ = V.int _; rw [h2.length])⟩
theorem rc_lenO {k : Nat} {a : Addr} {ys : List α} (hc : e.cl[k]? = some (a, ownL ys)) : RCV B e (rLenQ B.K) [vs (Adr.mk a)] (· = (ys.length : Int)) := fun σ G H ok us ru Q q => by
  cases ru with
  | cons ra b =>
    cases b
    obtain rfl := (show _ = V.ref a from ra)
    obtain ⟨_, _, o, h1, ws, rfl, h2⟩ := ok.cell hc
    exact ⟨a, ws, rfl, .inl (.inl (.inl h1)), q _ _ G H rfl ok (Same.refl G) (by show V.int _ = V.int _; rw [h2.length])⟩
/-! ### items -/
theorem atI_paired {K : PySem.W.Frag} {G : Hp} {ws : List V} {ys : List α} {i : Int} {k : Nat} {y : α} (h : Paired (Enc.rep K G) ws ys) (hi : ixN ys.length i = some k) (hy : ys[k]? = some y) : ∃ u, atI ws i = some u ∧ Enc.rep K G u y := by
  obtain ⟨u, h1, h2⟩ := paired_get h hy
  refine ⟨u, ?_, h2⟩
  unfold atI
  rw [h.length, hi]
  exact h1
theorem r2_ixL {ys : List α} {i : Int} {k : Nat} {y : α} (hi : ixN ys.length i = some k) (hy : ys[k]? = some y) : R2V B e (rIxL B.K) ys i (· = y) := fun σ G H ok v w rv rw Q q => by
  obtain ⟨p, ws, rfl, h1, h2⟩ := rv
  obtain rfl := (show w = V.int i from rw)
  obtain ⟨u, h3, h4⟩ := atI_paired h2 hi hy
  exact ⟨p, ws, i, u, rfl, rfl, .inl (.inl (ok.gh _ _ h1)), h3, q u y G H rfl ok (Same.refl G) h4⟩
theorem r2_ixU {ys : Tup α} {i : Int} {k : Nat} {y : α} (hi : ixN ys.l.length i = some k) (hy : ys.l[k]? = some y) : R2V B e (rIxT B.K) ys i (· = y) := fun σ G H ok v w rv rw Q q => by
  obtain ⟨p, ws, rfl, h1, h2⟩ := rv
  obtain rfl := (show w = V.int i from rw)
  obtain ⟨u, h3, h4⟩ := atI_paired h2 hi hy
  exact ⟨p, ws, i, u, rfl, rfl, same_t ok.gh h1, h3, q u y G H rfl ok (Same.refl G) h4⟩
theorem r2_ixO {j k : Nat} {a : Addr} {ys : List α} {i : Int} {y : α} (hc : e.cl[j]? = some (a, ownL ys)) (hi : ixN ys.length i = some k) (hy : ys[k]? = some y) : R2V B e (rIxL B.K) (Adr.mk a) i (· = y) := fun σ G H ok v w rv rw Q q => by
  obtain rfl := (show v = V.ref a from rv)
  obtain rfl := (show w = V.int i from rw)
  obtain ⟨_, _, o, h1, ws, rfl, h2⟩ := ok.cell hc
  obtain ⟨u, h3, h4⟩ := atI_paired h2 hi hy
  exact ⟨a, ws, i, u, rfl, rfl, .inl (.inl h1), h3, q u y G H rfl ok (Same.refl G) h4⟩
theorem r2_fst {x : α} {y : β} {i : Int} (hi : i = 0) : R2V B e (rIxT B.K) (x, y) i (· = x) := fun σ G H ok v w rv rw Q q => by
  obtain ⟨p, u1, u2, rfl, h1, h2, h3⟩ := rv
  obtain rfl := (show w = V.int i from rw)
  subst hi
  exact ⟨p, [u1, u2], 0, u1, rfl, rfl, same_t ok.gh h1, rfl, q u1 x G H rfl ok (Same.refl G) h2⟩
theorem r2_snd {x : α} {y : β} {i : Int} (hi : i = 1) : R2V B e (rIxT B.K) (x, y) i (· = y) := fun σ G H ok v w rv rw Q q => by
  obtain ⟨p, u1, u2, rfl, h1, h2, h3⟩ := rv
  obtain rfl := (show w = V.int i from rw)
  subst hi
  exact ⟨p, [u1, u2], 1, u2, rfl, rfl, same_t ok.gh h1, rfl, q u2 y G H rfl ok (Same.refl G) h3⟩
/-! ### tuples -/
theorem ev_pair {x : α} {y : β} (h : EvA B t1 e (· = [vs x, vs y])) : EvD B (tTup t1) e (x, y) := fun σ G H ok X Q q =>
  h σ G H ok X _ fun us ss G1 H1 p ok1 s1 r1 => by
    subst p
    cases r1 with
    | @cons u1 _ _ _ a b =>
      cases b with
      | @cons u2 _ _ _ a2 b2 =>
        cases b2
        refine ⟨by show 2 ≤ sizeLine; decide, fun p hp => ?_⟩
        have gp := ok1.gh.free hp
        have sg : Same G1 (upd G1 p (.tup [u1, u2])) := same_upd gp
        exact q (.ref p) (x, y) _ _ rfl (ok1.new hp) (s1.trans sg) ⟨p, u1, u2, rfl, .inl (.inl upd_same), Enc.mono sg a, Enc.mono sg a2⟩
theorem ev_tupU {xs : List α} (h : EvA B t1 e (· = xs.map vs)) (hl : xs.length ≤ 1000000) : EvD B (tTup t1) e (Tup.mk xs) := fun σ G H ok X Q q =>
  h σ G H ok X _ fun us ss G1 H1 p ok1 s1 r1 => by
    subst p
    have r2 := reps_list r1
    refine ⟨szl (by rw [r2.length]; omega), fun p hp => ?_⟩
    have gp := ok1.gh.free hp
    have sg : Same G1 (upd G1 p (.tup us)) := same_upd gp
    exact q (.ref p) (Tup.mk xs) _ _ rfl (ok1.new hp) (s1.trans sg) ⟨p, us, rfl, .inl (.inl upd_same), paired_mono sg r2⟩
def rTupOf (K : PySem.W.Frag) : List V → Hp → VK → Prop := fun xs H Q => ∃ p ys, xs = [.ref p] ∧ ((SqL K H p ys ∧ ∀ l, H l = none → Q (.ref l) (upd H l (.tup ys))) ∨ (SqT K H p ys ∧ Q (.ref p) H))
theorem cr_tupOf {X : Cx} : CallR X (.type "tuple") (rTupOf X.K) := call_tuple_of
theorem rc_tupL {xs : List α} : RCV B e (rTupOf B.K) [vs xs] (· = Tup.mk xs) := fun σ G H ok us ru Q q => by
  cases ru with
  | cons a b =>
    cases b
    obtain ⟨p, ws, rfl, h1, h2⟩ := (show Enc.rep B.K G _ xs from a)
    refine ⟨p, ws, rfl, .inl ⟨.inl (.inl (ok.gh _ _ h1)), fun l hl => ?_⟩⟩
    have gp := ok.gh.free hl
    have sg : Same G (upd G l (.tup ws)) := same_upd gp
    exact q (.ref l) (Tup.mk xs) _ _ rfl (ok.new hl) sg ⟨l, ws, rfl, .inl (.inl upd_same), paired_mono sg h2⟩
theorem rc_tupO {k : Nat} {a : Addr} {ys : List α} (hc : e.cl[k]? = some (a, ownL ys)) : RCV B e (rTupOf B.K) [vs (Adr.mk a)] (· = Tup.mk ys) := fun σ G H ok us ru Q q => by
  cases ru with
  | cons ra b =>
    cases b
    obtain rfl := (show _ = V.ref a from ra)
    obtain ⟨_, _, o, h1, ws, rfl, h2⟩ := ok.cell hc
    refine ⟨a, ws, rfl, .inl ⟨.inl (.inl h1), fun l hl => ?_⟩⟩
    have gp := ok.gh.free hl
    have sg : Same G (upd G l (.tup ws)) := same_upd gp
    exact q (.ref l) (Tup.mk ys) _ _ rfl (ok.new hl) sg ⟨l, ws, rfl, .inl (.inl upd_same), paired_mono sg h2⟩
/-! ### new lists -/
def rListOf (K : PySem.W.Frag) : List V → Hp → VK → Prop := fun xs H Q => ∃ p ys, xs = [.ref p] ∧ (SqL K H p ys ∨ SqT K H p ys) ∧ ∀ l, H l = none → Q (.ref l) (upd H l (.lst ys))
theorem cr_listOf {X : Cx} : CallR X (.type "list") (rListOf X.K) := call_list_of
theorem evl_cb {r : List V → Hp → VK → Prop} {ss : List Slot} {P : List α → Prop} (h : EvA B t1 e (· = ss))
    (hr : ∀ σ G H, Ok B G H σ e → ∀ us, Reps B.K G us ss → ∃ ws xs, P xs ∧ Paired (Enc.rep B.K G) ws xs ∧ ∀ Q : VK, (∀ l, H l = none → Q (.ref l) (upd H l (.lst ws))) → r us H Q) : EvL B (tCB r t1) e P := fun σ G H ok X Q q =>
  h σ G H ok X _ fun us ss' G1 H1 p ok1 s1 r1 => by
    subst p
    obtain ⟨ws, xs, px, hw, k⟩ := hr σ G1 H1 ok1 us r1
    exact k Q (newL ok1 px hw fun p us xs G' H' px ok' s' => q p us xs G' H' px ok' (s1.trans s'))
theorem evl_listL {xs : List α} (h : EvA B t1 e (· = [vs xs])) : EvL B (tCB (rListOf B.K) t1) e (· = xs) := evl_cb h fun σ G H ok us ru => by
  cases ru with
  | cons a b =>
    cases b
    obtain ⟨p, ws, rfl, h1, h2⟩ := (show Enc.rep B.K G _ xs from a)
    exact ⟨ws, xs, rfl, h2, fun Q q => ⟨p, ws, rfl, .inl (.inl (.inl (ok.gh _ _ h1))), q⟩⟩
theorem evl_listU {xs : Tup α} (h : EvA B t1 e (· = [vs xs])) : EvL B (tCB (rListOf B.K) t1) e (· = xs.l) := evl_cb h fun σ G H ok us ru => by
  cases ru with
  | cons a b =>
    cases b
    obtain ⟨p, ws, rfl, h1, h2⟩ := (show Enc.rep B.K G _ xs from a)
    exact ⟨ws, xs.l, rfl, h2, fun Q q => ⟨p, ws, rfl, .inr (same_t ok.gh h1), q⟩⟩
theorem evl_listO {k : Nat} {a : Addr} {ys : List α} (hc : e.cl[k]? = some (a, ownL ys)) (h : EvA B t1 e (· = [vs (Adr.mk a)])) : EvL B (tCB (rListOf B.K) t1) e (· = ys) := evl_cb h fun σ G H ok us ru => by
  cases ru with
  | cons ra b =>
    cases b
    obtain rfl := (show _ = V.ref a from ra)
    obtain ⟨_, _, o, h1, ws, rfl, h2⟩ := ok.cell hc
    exact ⟨ws, ys, rfl, h2, fun Q q => ⟨a, ws, rfl, .inl (.inl (.inl h1)), q⟩⟩
theorem paired_append {K : PySem.W.Frag} {G : Hp} : ∀ {us ws : List V} {xs ys : List α}, Paired (Enc.rep K G) us xs → Paired (Enc.rep K G) ws ys → Paired (Enc.rep K G) (us ++ ws) (xs ++ ys)
  | _, _, _, _, .nil, h => h
  | _, _, _, _, .cons a b, h => .cons a (paired_append b h)
theorem evl_op {r : R2} {x : α} {y : β} {P : List γ → Prop} (ha : EvD B ta e x) (hb : EvD B tb e y)
    (hr : ∀ σ G H, Ok B G H σ e → ∀ v w, Enc.rep B.K G v x → Enc.rep B.K G w y → ∃ ws xs, P xs ∧ Paired (Enc.rep B.K G) ws xs ∧ ∀ Q : VK, (∀ l, H l = none → Q (.ref l) (upd H l (.lst ws))) → r v w H Q) : EvL B (tOp r ta tb) e P := fun σ G H ok X Q q =>
  ha σ G H ok X _ fun v x' G1 H1 p ok1 s1 r1 => hb σ G1 H1 ok1 (X.mono s1) _ fun w y' G2 H2 p2 ok2 s2 r2 => by
    subst p
    subst p2
    obtain ⟨ws, xs, px, hw, k⟩ := hr σ G2 H2 ok2 v w (Enc.mono s2 r1) r2
    exact k Q (newL ok2 px hw fun p us xs G' H' px ok' s' => q p us xs G' H' px ok' ((s1.trans s2).trans s'))
theorem evl_cat {xs ys : List α} (ha : EvD B ta e xs) (hb : EvD B tb e ys) (hl : xs.length + ys.length ≤ 10000000) : EvL B (tOp rCat ta tb) e (· = xs ++ ys) := evl_op ha hb fun σ G H ok v w rv rw => by
  obtain ⟨p, us, rfl, h1, h2⟩ := rv
  obtain ⟨p', ws, rfl, h1', h2'⟩ := rw
  exact ⟨us ++ ws, _, rfl, paired_append h2 h2', fun Q q => ⟨p, p', us, ws, rfl, rfl, ok.gh _ _ h1, ok.gh _ _ h1', szl (by rw [h2.length, h2'.length]; exact hl), q⟩⟩
theorem paired_take {K : PySem.W.Frag} {G : Hp} : ∀ {us : List V} {xs : List α} (n : Nat), Paired (Enc.rep K G) us xs → Paired (Enc.rep K G) (us.take n) (xs.take n)
  | _, _, 0, _ => .nil
  | _, _, n + 1, .nil => .nil
  | _, _, n + 1, .cons a b => .cons a (paired_take n b)
theorem paired_drop {K : PySem.W.Frag} {G : Hp} : ∀ {us : List V} {xs : List α} (n : Nat), Paired (Enc.rep K G) us xs → Paired (Enc.rep K G) (us.drop n) (xs.drop n)
  | _, _, 0, h => h
  | _, _, n + 1, .nil => .nil
  | _, _, n + 1, .cons a b => paired_drop n b
def cutL (xs : List α) (lo hi : Option Int) : List α := (xs.drop (HT.sIx xs.length 0 lo)).take (HT.sIx xs.length xs.length hi - HT.sIx xs.length 0 lo)
theorem paired_cut {K : PySem.W.Frag} {G : Hp} {us : List V} {xs : List α} (lo hi : Option Int) (h : Paired (Enc.rep K G) us xs) : Paired (Enc.rep K G) (cutV us lo hi) (cutL xs lo hi) := by
  unfold cutV cutL
  rw [h.length]
  exact paired_take _ (paired_drop _ h)
theorem evl_slL {xs : List α} {lo hi : Option Int} {t2 t3 : TO} (h : EvD B te e xs) (h1 : EvO B t2 e lo) (h2 : EvO B t3 e hi) : EvL B (tSl (rSlL B.K) te t2 t3) e (· = cutL xs lo hi) := fun σ G H ok X Q q =>
  h σ G H ok X _ fun v x G1 H1 p ok1 s1 r1 => h1 σ G1 H1 ok1 (X.mono s1) _ fun G2 H2 ok2 s2 => h2 σ G2 H2 ok2 (X.mono (s1.trans s2)) _ fun G3 H3 ok3 s3 => by
    subst p
    obtain ⟨a, ws, rfl, k1, k2⟩ := Enc.mono (s2.trans s3) r1
    exact ⟨a, ws, rfl, .inl (.inl (ok3.gh _ _ k1)), newL (P := (· = cutL x lo hi)) ok3 rfl (paired_cut lo hi k2) fun p us xs G' H' px ok' s' => q p us xs G' H' px ok' (((s1.trans s2).trans s3).trans s')⟩
/-! ### any, all -/
theorem paired_bools {K : PySem.W.Frag} {G : Hp} : ∀ {us : List V} {xs : List Bool}, Paired (Enc.rep K G) us xs → us = xs.map V.bl
  | _, _, .nil => rfl
  | _, _, .cons a b => by
    rw [List.map_cons, ← paired_bools b]
    exact congrArg (· :: _) a
theorem paired_ints {K : PySem.W.Frag} {G : Hp} : ∀ {us : List V} {xs : List Int}, Paired (Enc.rep K G) us xs → us = xs.map V.int
  | _, _, .nil => rfl
  | _, _, .cons a b => by
    rw [List.map_cons, ← paired_ints b]
    exact congrArg (· :: _) a
theorem paired_strs {K : PySem.W.Frag} {G : Hp} : ∀ {us : List V} {xs : List Str}, Paired (Enc.rep K G) us xs → us = xs.map V.str
  | _, _, .nil => rfl
  | _, _, .cons a b => by
    rw [List.map_cons, ← paired_strs b]
    exact congrArg (· :: _) a
theorem rc_any {xs : List Bool} : RCV B e (rAny B.K) [vs xs] (· = xs.any id) := fun σ G H ok us ru Q q => by
  cases ru with
  | cons a b =>
    cases b
    obtain ⟨p, ws, rfl, h1, h2⟩ := (show Enc.rep B.K G _ xs from a)
    exact ⟨p, xs, rfl, .inl (.inl (by rw [← paired_bools h2]; exact ok.gh _ _ h1)), q _ _ G H rfl ok (Same.refl G) rfl⟩
theorem rc_all {xs : List Bool} : RCV B e (rAll B.K) [vs xs] (· = xs.all id) := fun σ G H ok us ru Q q => by
  cases ru with
  | cons a b =>
    cases b
    obtain ⟨p, ws, rfl, h1, h2⟩ := (show Enc.rep B.K G _ xs from a)
    exact ⟨p, xs, rfl, .inl (.inl (by rw [← paired_bools h2]; exact ok.gh _ _ h1)), q _ _ G H rfl ok (Same.refl G) rfl⟩
theorem rc_sum {xs : List Int} : RCV B e (rSum B.K) [vs xs] (· = xs.sum) := fun σ G H ok us ru Q q => by
  cases ru with
  | cons a b =>
    cases b
    obtain ⟨p, ws, rfl, h1, h2⟩ := (show Enc.rep B.K G _ xs from a)
    exact ⟨p, xs, rfl, .inl (.inl (by rw [← paired_ints h2]; exact ok.gh _ _ h1)), q _ _ G H rfl ok (Same.refl G) rfl⟩
/-! ### methods of texts -/
theorem ev_m1 {r : V → List V → Hp → VK → Prop} {K : PySem.W.Frag} {a b : Str} {z : γ} (ho : EvD B ta e a) (h : EvA B t1 e (· = [vs b])) (hr : ∀ σ G H, Ok B G H σ e → ∀ Q : VK, (∀ u G' H', Ok B G' H' σ e → Same G G' → Enc.rep B.K G' u z → Q u H') → r (.str a) [.str b] H Q) : EvD B (tBM K "str" r ta t1) e z := fun σ G H ok X Q q =>
  ho σ G H ok X _ fun v x G1 H1 p ok1 s1 r1 => by
    subst p
    obtain rfl := (show v = V.str x from r1)
    refine ⟨rfl, h σ G1 H1 ok1 (X.mono s1) _ fun us ss G2 H2 p2 ok2 s2 r2 => ?_⟩
    subst p2
    cases r2 with
    | cons c d =>
      cases d
      obtain rfl := (show _ = V.str b from c)
      exact hr σ G2 H2 ok2 Q fun u G' H' ok' s' ru => q u z G' H' rfl ok' ((s1.trans s2).trans s') ru
def rCountS : V → List V → Hp → VK → Prop := fun x xs H Q => ∃ a b : Str, x = .str a ∧ xs = [.str b] ∧ Q (.int (Txt.count a b)) H
theorem mt_countS {X : Cx} : MtR X "str.count" rCountS := mt_count
theorem ev_count {K : PySem.W.Frag} {a b : Str} (ho : EvD B ta e a) (h : EvA B t1 e (· = [vs b])) : EvD B (tBM K "str" rCountS ta t1) e (Txt.count a b : Int) := ev_m1 ho h fun σ G H ok Q q => ⟨a, b, rfl, rfl, q _ G H ok (Same.refl G) rfl⟩
theorem ev_index {K : PySem.W.Frag} {W : WX} {a b : Str} {k : Nat} (ho : EvD B ta e a) (h : EvA B t1 e (· = [vs b])) (hk : Txt.index0 a b = some k) : EvD B (tBMS K "str" (rIndexX W) ta t1) e ((k : Nat) : Int) := fun σ G H ok X Q q =>
  ho σ G H ok X _ fun v x G1 H1 p ok1 s1 r1 => by
    subst p
    obtain rfl := (show v = V.str x from r1)
    refine ⟨rfl, h σ G1 H1 ok1 (X.mono s1) _ fun us ss G2 H2 p2 ok2 s2 r2 => ?_⟩
    subst p2
    cases r2 with
    | cons c d =>
      cases d
      obtain rfl := (show _ = V.str b from c)
      exact ⟨x, b, rfl, rfl, fun j hj => by
        rw [hk] at hj
        cases hj
        exact q _ _ G2 H2 rfl ok2 (s1.trans s2) rfl, fun z => by rw [hk] at z; cases z⟩
end
end Fw

namespace FwE
open PySem
set_option maxHeartbeats 4000000 in
theorem meets_enum1 {v : Value} {o : Obj} {H : Heap → Prop} (B : Begins v o H) :
    Meets (Builtin.«enumerate.__new__» ⟨[.type "enumerate", v], []⟩) (fun _ R s => H s.heap ∧
      R (.ok (.ret (.ref (s.heap.push o).objs.size))) { s with heap := (s.heap.push o).push { cls := .type "enumerate", data := .fields #[.none, .bool false, .ref s.heap.objs.size, rawInt 0, .none, .none] } }) :=
  .of_wp fun prog w A R s h => by
    obtain ⟨hp, g, d, tk, os⟩ := s; obtain ⟨h1, h⟩ := h
    have hsub := sub_enumerate
    have q1 : ∀ {A' : Around} {E : Value → Shared → Prop} {Q : Value → Shared → Prop}, Q (.ref hp.objs.size) ⟨hp.push o, g, d, tk, os⟩ → wpAny (model prog w) A' (pyIter v) Q E ⟨hp, g, d, tk, os⟩ :=
      fun q => B.iter prog w _ _ ⟨hp, g, d, tk, os⟩ _ h1 q
    wp_walk using q1
    refine wpAny_stack_any fun st => wpAny_pure ?_
    split
    · rename_i c _ _ _ _ _
      cases (c == Value.type "enumerate")
      · wp_walk using q1
        exact ⟨_, rfl, h⟩
      · wp_walk using q1
        exact ⟨_, rfl, h⟩
    · wp_walk using q1
      exact ⟨_, rfl, h⟩
theorem enum_begins1 {prog : Program} {w : World} {A : Around} {E : Value → Shared → Prop} {s : Shared} {v : Value} {o : Obj} {H : Heap → Prop} {Q : Value → Shared → Prop} (B : Begins v o H) (h1 : H s.heap)
    (hc : checkTypeCall "enumerate" ⟨[v], []⟩ = pure ()) (hn : checkBuiltinCall "enumerate.__new__" ⟨[.type "enumerate", v], []⟩ = pure ())
    (h : ∀ h', IsEnum h' (s.heap.objs.size + 1) s.heap.objs.size 0 .none → h'.get? s.heap.objs.size = some o → h'.objs.size = s.heap.objs.size + 2 →
      (∀ b o, s.heap.get? b = some o → h'.get? b = some o) → Q (.ref (s.heap.objs.size + 1)) { s with heap := h' }) :
    wpAny (model prog w) A (call (.type "enumerate") [v]) Q E s := by
  refine callType_new F.called_enumerate (by decide) hc hn (fun obj => F.args_object_init_2 obj _) F.entry_enumerate_new
    (meets_enum1 B) ⟨h1, ?_⟩
  have hz : (s.heap.push o).objs.size = s.heap.objs.size + 1 := Heap.size_push ..
  show _ ∧ _
  rw [hz]
  have he : IsEnum ((s.heap.push o).push { cls := .type "enumerate", data := .fields #[.none, .bool false, .ref s.heap.objs.size, rawInt 0, .none, .none] }) (s.heap.objs.size + 1) s.heap.objs.size 0 .none := by
    have := Heap.get?_push_size (s.heap.push o) (o := { cls := .type "enumerate", data := .fields #[.none, .bool false, .ref s.heap.objs.size, rawInt 0, .none, .none] }) rfl
    rw [hz] at this; exact this
  refine ⟨⟨_, he, rfl⟩, h _ he (Heap.get?_push_of_some _ (Heap.get?_push_size _ B.free)) (by rw [Heap.size_push, hz]) fun b o x => Heap.get?_push_of_some _ (Heap.get?_push_of_some _ x)⟩
end FwE

namespace L2
open PySem PySem.Spec PyProof.Rows
/-! ### enumerate(text), enumerate(tuple) -/
theorem strIter_at {h h' : Heap} {it : Addr} {n : String} {x : Str} {t : Tok} {i : Nat} (hi : h.IsStrIter it n x t i) (k : ∀ o, h.get? it = some o → h'.get? it = some o) : h'.IsStrIter it n x t i := by
  obtain ⟨o, h1, h2⟩ := hi
  exact ⟨o, k o h1, h2⟩
def ItsE (x : Str) : It := ⟨fun i _ => i < x.cps.size, fun i H v H' => ∃ T c, v = .ref T ∧ H T = none ∧ H' = upd H T (.tup [.int (i : Nat), .str ⟨#[c]⟩]) ∧ x.cps[i]? = some c, fun i _ => x.cps.size ≤ i⟩
def ItuE (K : PySem.W.Frag) (a : Addr) (xs : List V) : It :=
  ⟨fun i H => SqT K H a xs ∧ i < xs.length, fun i H v H' => ∃ T x, v = .ref T ∧ H T = none ∧ H' = upd H T (.tup [.int (i : Nat), x]) ∧ xs[i]? = some x, fun i H => SqT K H a xs ∧ xs.length ≤ i⟩
theorem turn_enumS {P : Program} {w : World} {K : PySem.W.Frag} {elts : List Expr} {kk : Nat} {tpos : Pos} (e it : Addr) (x : Str) (t : Tok) :
    Turn P w K (.Tuple elts kk tpos) (ItsE x) [e, it] e (fun i h => i ≤ x.cps.size ∧ (∃ old, IsEnum h e it ((i : Nat) : Int) old) ∧ h.IsStrIter it (strIterType x) x t i ∧ e ≠ it) where
  mem := by simp
  obj := fun i h st b hb => by
    obtain ⟨_, ⟨old, he⟩, ⟨o, ho, hc, hd⟩, _⟩ := st
    have e' : b = e ∨ b = it := by simpa using hb
    rcases e' with z | z
    · rw [z]; exact ⟨_, he, fun v q => nomatch q⟩
    · rw [z]; exact ⟨o, ho, fun v q => by rw [hd] at q; cases q⟩
  keep := fun i h h' st k => let ⟨hi', ⟨old, he⟩, hi, hne⟩ := st; ⟨hi', ⟨old, k e (by simp) _ he⟩, strIter_at hi fun o q => k it (by simp) o q, hne⟩
  item := by
    intro X hP hw hK hc i pins s σ H E I hf st hg
    subst hP hw hK
    obtain ⟨_, ⟨old, he⟩, hit, hne⟩ := st
    have hg : i < x.cps.size := hg
    have hel : e < s.heap.objs.size := Heap.lt_size he
    have hil : it < s.heap.objs.size := by obtain ⟨_, q, _⟩ := hit; exact Heap.lt_size q
    have hh : X.A.in1.handled = none := I.ok.hd hc
    refine wpAny_pyNext_enum_itemD (Draws.text (A := X.A.in1) hh it x t) he hit hg hne (by simpa using hne) fun v h' tk hP ho hit' hT hsz hk => ?_
    obtain ⟨c, u, hx, rfl⟩ := hP
    refine ⟨_, rfl, wpAny_letOwnedTupleGo_enum (s := { s with heap := h', toks := tk + 1 }) ho fun h'' he' sb => ?_⟩
    have hT2 : h''.get? s.heap.objs.size = some { cls := .type "tuple", data := .seq #[.int i tk, .str ⟨#[c]⟩ u] } := (sb.2 _ (Nat.ne_of_gt hel)).trans hT
    have new : ObjOk X.prog X.w (upd H s.heap.objs.size (.tup [.int (i : Nat), .str ⟨#[c]⟩])) h'' s.heap.objs.size (.tup [.int (i : Nat), .str ⟨#[c]⟩]) :=
      ⟨by show 2 ≤ sizeLine; decide, [.int i tk, .str ⟨#[c]⟩ u], .cons ⟨_, rfl⟩ (.cons ⟨_, rfl⟩ .nil), ⟨_, hT2, rfl, _, rfl⟩⟩
    have I1 : Inv X pins σ (upd H s.heap.objs.size (.tup [.int (i : Nat), .str ⟨#[c]⟩])) { s with heap := h'', toks := tk + 1 } :=
      I.turnedNew (ch := [e, it]) (fun b ob hb q => (sb.2 b (fun z => hb (by simp [z]))).trans (hk b ob (fun z => hb (by simp [z])) (fun z => hb (by simp [z])) q)) hf (Nat.le_refl _) new
    refine ⟨.ref s.heap.objs.size, _, I1, rfl, ⟨_, c, rfl, I.hok.fresh (Nat.le_refl _), rfl, hx⟩, ⟨hg, ⟨.str ⟨#[c]⟩ u, ?_⟩, strIter_at hit' fun o q => (sb.2 it (Ne.symm hne)).trans q, hne⟩, fun b hb => ?_⟩
    · have e1 : ((i + 1 : Nat) : Int) = (i : Int) + 1 := by omega
      rw [e1]; exact he'
    · have hb' : b < s.heap.objs.size := by
        have e' : b = e ∨ b = it := by simpa using hb
        rcases e' with z | z
        · rw [z]; exact hel
        · rw [z]; exact hil
      rw [upd_ne (Nat.ne_of_lt hb')]
      exact (hf b hb).1
  done := by
    intro X hP hw hK hc i pins s σ H E I hf st hg
    subst hP hw hK
    obtain ⟨hi', ⟨old, he⟩, hit, hne⟩ := st
    have hg : x.cps.size ≤ i := hg
    have e2 : i = x.cps.size := Nat.le_antisymm hi' hg
    subst e2
    obtain ⟨f0, f1, f2, f3, f4, f5⟩ := hf it (by simp)
    have hh : X.A.in1.handled = none := I.ok.hd hc
    exact wpAny_pyNext_enum_endD (Draws.text (A := X.A.in1) hh it x t) he hit fun h' eb => ⟨rfl, I.turned (t' := s.toks) (fun b o hb q => eb b o hb q) f0 f1 f3 f4 f5⟩
  self := fun A i s Q E st h => let ⟨_, ⟨_, he⟩, _⟩ := st; wpAny_pyIter_enum he h
theorem turn_enumT {P : Program} {w : World} {K : PySem.W.Frag} {elts : List Expr} {kk : Nat} {tpos : Pos} (e it a : Addr) (xs : List V) (its : Array Value) (rv : Vals xs its.toList) (hei : e ≠ it) (hea : e ≠ a) (hai : a ≠ it) :
    Turn P w K (.Tuple elts kk tpos) (ItuE K a xs) [e, it] e (fun i h => i ≤ xs.length ∧ (∃ old, IsEnum h e it ((i : Nat) : Int) old) ∧ h.IsTupleIter it a i) where
  mem := by simp
  obj := fun i h st b hb => by
    obtain ⟨_, ⟨old, he⟩, ⟨o, ho, hc, hd⟩⟩ := st
    have e' : b = e ∨ b = it := by simpa using hb
    rcases e' with z | z
    · rw [z]; exact ⟨_, he, fun v q => nomatch q⟩
    · rw [z]; exact ⟨o, ho, fun v q => by rw [hd] at q; cases q⟩
  keep := fun i h h' st k => let ⟨hi', ⟨old, he⟩, hi⟩ := st; ⟨hi', ⟨old, k e (by simp) _ he⟩, hi.at fun o q => k it (by simp) o q⟩
  item := by
    intro X hP hw hK hc i pins s σ H E I hf st hg
    subst hP hw hK
    obtain ⟨_, ⟨old, he⟩, hit⟩ := st
    obtain ⟨hq, hg⟩ := hg
    obtain ⟨its', rv', p, hz⟩ := I.tuple hq
    have hel : e < s.heap.objs.size := Heap.lt_size he
    have hil : it < s.heap.objs.size := by obtain ⟨_, q, _⟩ := hit; exact Heap.lt_size q
    have hh : X.A.in1.handled = none := I.ok.hd hc
    have hl := rv'.length
    refine wpAny_pyNext_enum_itemD (Draws.tuple (A := X.A.in1) hh it a hai its'.toArray) he ⟨hit, p⟩ (by simp; omega) hei (by simp [hei, hea]) fun v h' tk hP ho hit' hT hsz hk => ?_
    have hx : xs[i]? = some xs[i] := List.getElem?_eq_getElem hg
    obtain ⟨u, hu, ru⟩ := rv'.get hx
    have hP : its'.toArray[i]? = some v := hP
    have e9 : u = v := by
      rw [List.getElem?_toArray, hu] at hP
      exact Option.some.inj hP
    subst e9
    refine ⟨_, rfl, wpAny_letOwnedTupleGo_enum (s := { s with heap := h', toks := tk + 1 }) ho fun h'' he' sb => ?_⟩
    have hT2 : h''.get? s.heap.objs.size = some { cls := .type "tuple", data := .seq #[.int i tk, u] } := (sb.2 _ (Nat.ne_of_gt hel)).trans hT
    have new : ObjOk X.prog X.w (upd H s.heap.objs.size (.tup [.int (i : Nat), xs[i]])) h'' s.heap.objs.size (.tup [.int (i : Nat), xs[i]]) :=
      ⟨by show 2 ≤ sizeLine; decide, [.int i tk, u], .cons ⟨_, rfl⟩ (.cons ru .nil), ⟨_, hT2, rfl, _, rfl⟩⟩
    have I1 : Inv X pins σ (upd H s.heap.objs.size (.tup [.int (i : Nat), xs[i]])) { s with heap := h'', toks := tk + 1 } :=
      I.turnedNew (ch := [e, it]) (fun b ob hb q => (sb.2 b (fun z => hb (by simp [z]))).trans (hk b ob (fun z => hb (by simp [z])) (fun z => hb (by simp [z])) q)) hf (Nat.le_refl _) new
    refine ⟨.ref s.heap.objs.size, _, I1, rfl, ⟨_, xs[i], rfl, I.hok.fresh (Nat.le_refl _), rfl, hx⟩, ⟨hg, ⟨u, ?_⟩, hit'.1.at fun o q => (sb.2 it (Ne.symm hei)).trans q⟩, fun b hb => ?_⟩
    · have e1 : ((i + 1 : Nat) : Int) = (i : Int) + 1 := by omega
      rw [e1]; exact he'
    · have hb' : b < s.heap.objs.size := by
        have e' : b = e ∨ b = it := by simpa using hb
        rcases e' with z | z
        · rw [z]; exact hel
        · rw [z]; exact hil
      rw [upd_ne (Nat.ne_of_lt hb')]
      exact (hf b hb).1
  done := by
    intro X hP hw hK hc i pins s σ H E I hf st hg
    subst hP hw hK
    obtain ⟨hi', ⟨old, he⟩, hit⟩ := st
    obtain ⟨hq, hg⟩ := hg
    obtain ⟨its', rv', p, hz⟩ := I.tuple hq
    have e2 : i = xs.length := Nat.le_antisymm hi' hg
    subst e2
    obtain ⟨f0, f1, f2, f3, f4, f5⟩ := hf it (by simp)
    have hh : X.A.in1.handled = none := I.ok.hd hc
    have hl := rv'.length
    exact wpAny_pyNext_enum_endD (Draws.tuple (A := X.A.in1) hh it a hai its'.toArray) he ⟨by rw [List.size_toArray, ← hl]; exact hit, p⟩ fun h' eb => ⟨rfl, I.turned (t' := s.toks) (fun b o hb q => eb b o hb q) f0 f1 f3 f4 f5⟩
  self := fun A i s Q E st h => let ⟨_, ⟨_, he⟩, _⟩ := st; wpAny_pyIter_enum he h
def iEnumS (ta : TA) : TI := fun σ H R => ta σ H fun vs H1 => ∃ x : Str, vs = [.str x] ∧ R (ItsE x) H1
def iEnumT (K : PySem.W.Frag) (ta : TA) : TI := fun σ H R => ta σ H fun vs H1 => ∃ a xs, vs = [.ref a] ∧ SqT K H1 a xs ∧ R (ItuE K a xs) H1
theorem pi_enumS {X : Cx} {e : Expr} {ta : TA} {p pos tpos : Pos} {elts : List Expr} {kk : Nat} (hg : Gl X "enumerate") (hm : X.mg "enumerate" = none) (ha : PA X [e] ta) (hs : starEach [e] X.env = [(false, eval e X.env)] := by rfl) :
    PI X (.Tuple elts kk tpos) (.Call (.Name "enumerate" p) [e] [] pos) (iEnumS ta) := by
  refine ⟨fun pins s σ H R I h => ?_⟩
  refine Call_ (ld_blt I hg hm boot_enumerate (PyProof.Rows.callWith_type1 (thn (ha.run pos pins s σ H _ I h) fun us s1 ⟨vs, H1, I1, r1, q1⟩ => ?_) hs rfl))
  obtain ⟨x, ex, q⟩ := q1
  subst ex
  cases r1 with
  | cons r rr =>
    cases rr
    obtain ⟨t, rfl⟩ := r
    refine call_enumerate_str fun h' he hit hsz hk => wpAny_pyIter_enum he ?_
    have I2 : Inv X pins σ H1 { s1 with heap := h' } := I1.kept (t' := s1.toks) hk
    refine ⟨s1.heap.objs.size + 1, [s1.heap.objs.size + 1, s1.heap.objs.size], _, _, H1, rfl, I2, turn_enumS (s1.heap.objs.size + 1) s1.heap.objs.size x t, ⟨Nat.zero_le _, ⟨.none, he⟩, hit, Nat.succ_ne_self _⟩, fun b hb => ?_, q⟩
    have e' : b = s1.heap.objs.size + 1 ∨ b = s1.heap.objs.size := by simpa using hb
    have hle : s1.heap.objs.size ≤ b := by
      rcases e' with z | z
      · rw [z]; exact Nat.le_add_right _ _
      · rw [z]; exact Nat.le_refl _
    exact I1.fpOk hle (I1.hok.fresh hle)
theorem pi_enumT {X : Cx} {e : Expr} {ta : TA} {p pos tpos : Pos} {elts : List Expr} {kk : Nat} (hg : Gl X "enumerate") (hm : X.mg "enumerate" = none) (ha : PA X [e] ta) (hs : starEach [e] X.env = [(false, eval e X.env)] := by rfl) :
    PI X (.Tuple elts kk tpos) (.Call (.Name "enumerate" p) [e] [] pos) (iEnumT X.K ta) := by
  refine ⟨fun pins s σ H R I h => ?_⟩
  refine Call_ (ld_blt I hg hm boot_enumerate (PyProof.Rows.callWith_type1 (thn (ha.run pos pins s σ H _ I h) fun us s1 ⟨vs, H1, I1, r1, q1⟩ => ?_) hs rfl))
  obtain ⟨a, xs, ex, hq, q⟩ := q1
  subst ex
  cases r1 with
  | cons r rr =>
    cases rr
    cases r
    obtain ⟨its, rv, p', hz⟩ := I1.tuple hq
    have hal : a < s1.heap.objs.size := by obtain ⟨_, q, _⟩ := p'; exact Heap.lt_size q
    refine FwE.enum_begins1 (begins_tuple a its.toArray) p' (by kernel_rfl) (by kernel_rfl) fun h' he hit hsz hk => wpAny_pyIter_enum he ?_
    have I2 : Inv X pins σ H1 { s1 with heap := h' } := I1.kept (t' := s1.toks) hk
    refine ⟨s1.heap.objs.size + 1, [s1.heap.objs.size + 1, s1.heap.objs.size], _, _, H1, rfl, I2, turn_enumT (s1.heap.objs.size + 1) s1.heap.objs.size a xs its.toArray (by simpa using rv) (Nat.succ_ne_self _) (Nat.ne_of_gt (Nat.lt_succ_of_lt hal)) (Nat.ne_of_lt hal), ⟨Nat.zero_le _, ⟨.none, he⟩, ⟨_, hit, rfl, rfl⟩⟩, fun b hb => ?_, q⟩
    have e' : b = s1.heap.objs.size + 1 ∨ b = s1.heap.objs.size := by simpa using hb
    have hle : s1.heap.objs.size ≤ b := by
      rcases e' with z | z
      · rw [z]; exact Nat.le_add_right _ _
      · rw [z]; exact Nat.le_refl _
    exact I1.fpOk hle (I1.hok.fresh hle)
end L2

namespace Fw
open PySem L2
abbrev dS : Str := ⟨#[]⟩

section
variable {B : Bs} {e : Ev1} {α β γ δ ρ : Type} [Enc α] [Enc β] [Enc γ] [Enc ρ] {te tl ta tb : TE} {t1 : TA} {tt tu : TT} {E : En ρ} {wi : TI} {g : TG} {r : R2}
theorem R2V.mono {x : α} {y : β} {P P' : γ → Prop} (h : R2V B e r x y P) (k : ∀ z, P z → P' z) : R2V B e r x y P' := fun σ G H ok v w rv rw Q q => h σ G H ok v w rv rw Q fun u z G' H' p => q u z G' H' (k z p)
theorem RCV.mono {r : List V → Hp → VK → Prop} {ss : List Slot} {P P' : γ → Prop} (h : RCV B e r ss P) (k : ∀ z, P z → P' z) : RCV B e r ss P' := fun σ G H ok vs rv Q q => h σ G H ok vs rv Q fun u z G' H' p => q u z G' H' (k z p)
theorem Call.imp {K : PySem.W.Frag} {args : List Slot} {cl : List (Addr × Cell)} {post post' : ρ → List (Addr × Cell) → Prop} {xp xp' : XD → List (Addr × Cell) → Prop} {us : List V} {H : Hp} {Q : VK} {E : XK} (h : Call K args cl post xp us H Q E)
    (h1 : ∀ r c, post' r c → post r c) (h2 : ∀ x c, xp' x c → xp x c) : Call K args cl post' xp' us H Q E := by
  obtain ⟨G, a, b, c, d, q, x⟩ := h
  exact ⟨G, a, b, c, d, fun v r cl' G' H' p => q v r cl' G' H' (h1 r cl' p), fun d x' cl' G' H' p => x d x' cl' G' H' (h2 x' cl' p)⟩
end

/-! ### a def that is called -/
structure Cal (P : Program) (w : World) (K : PySem.W.Frag) (mg : Str → Option Value) (base : Heap) (k : Nat) (f : Addr) (x : Str) (ps : List Str) (sp : Sp) : Prop where
  ex : ∃ fd, FnOk P w K mg base (L2.CX P w) k f fd ps sp ∧ Binds K fd ps []
  g : mg x = some (.ref f)
  kp : PySem.W.keepIn K (.ref f) = true
theorem pe_cal {X : Cx} {W : WX} {k : Nat} {f : Addr} {x : Str} {ps : List Str} {sp : Sp} {e : Expr} {es : List Expr} {t : TA} {p pos : Pos} (h : Cal X.prog X.w X.K X.mg X.base k f x ps sp) (hr : Room k X.A) (tk : Takes X W) (ha : PA X (e :: es) t) (hg : Gl X x := by rfl)
    (hdb : (x == ("__debug__" : Str)) = false := by decide) (he : starEach (e :: es) X.env = (false, eval e X.env) :: starEach es X.env := by rfl) (hpl : (backTo pos (starEach es X.env)).any (·.1) = false := by rfl) :
    PE X (.Call (.Name x p) (e :: es) [] pos) (tCallS sp (WE W) t) := by
  obtain ⟨fd, F, hb⟩ := h.ex
  exact pe_callS F hr hg h.g h.kp hb (fun σ => passAt tk σ) ha hdb he hpl

/-! ### raise X('m') -/
structure XcO (K : PySem.W.Frag) (mg : Str → Option Value) (x : Str) (C : Addr) : Prop where
  q : PySem.W.excIn K C [.type "ValueError", .type "Exception", .type "BaseException", .type "object"] "ValueError.__new__" = true
  g : mg x = some (.ref C)
  kp : PySem.W.keepIn K (.ref C) = true
  sb : PySem.W.subIn K (.ref C) (.type "BaseException") = some true
  ty : PySem.W.typeIn K (.ref C) = some (.type "type")
theorem ps_raiseO {X : Cx} {W : WX} {x m : Str} {C : Addr} {j : Nat} {p p2 pos pos' : Pos} (h : XcO X.K X.mg x C) (tk : Takes X W) (hc : X.calm = true := by rfl) (hg : Gl X x := by rfl) (hdb : (x == ("__debug__" : Str)) = false := by decide) :
    PS X (.Raise (some (.Call (.Name x p) [.Constant (.str m) j p2] [] pos)) none pos') (fun _ σ H => W (.ref C) none σ H) :=
  ps_raise hc tk (pmk_own F.excBase_ValueError h.q h.g h.kp (raises_own h.sb h.ty) hg hdb)
def xdP (C : Addr) : XD := ⟨.ref C, fun _ _ d => d = none⟩
/-- .. with fields -/
def xdF (C : Addr) (fs : List (Str × Slot)) : XD := ⟨.ref C, fun K H d => ∃ dd vs, d = some dd ∧ H dd = some (.xd vs) ∧ ∀ f s, fs.lookup f = some s → ∃ v, vs.lookup f = some v ∧ s.rp K H v⟩
section
variable {B : Bs} {e : Ev1} {α β γ δ ρ : Type} [Enc α] [Enc β] [Enc γ] [Enc ρ] {te tl ta tb : TE} {t1 : TA} {tt tu : TT} {E : En ρ} {wi : TI} {g : TG} {r : R2}
theorem do_raiseO {C : Addr} (h : B.xr (xdP C) e) : Do B (fun _ σ H => B.W (.ref C) none σ H) e E := fun σ G H ok X D m => X none σ G H e (xdP C) h ok (Same.refl G) rfl

/-! ### what is walked -/
theorem same_tup {K : PySem.W.Frag} {G H : Hp} {a : Addr} {xs : List V} (e : Same G H) (h : SqT K G a xs) : SqT K H a xs := same_t e h
theorem paired_ix {K : PySem.W.Frag} {G : Hp} {v : V} {y : α} : ∀ {us : List V} {ys : List α} {i : Nat}, Paired (Enc.rep K G) us ys → us[i]? = some v → ys[i]? = some y → Enc.rep K G v y
  | _, _, _, .nil, h1, _ => by simp at h1
  | _, _, 0, .cons a b, h1, h2 => by
    simp at h1 h2
    subst h1
    subst h2
    exact a
  | _, _, i + 1, .cons a b, h1, h2 => paired_ix (i := i) b (by simpa using h1) (by simpa using h2)
theorem ei_tup {xs : Tup α} (h : EvD B tl e xs) : EvI B (iTup B.K tl) e xs.l := fun σ G H ok X R q =>
  h σ G H ok X _ fun v y G1 H1 p ok1 s1 r1 => by
    subst p
    obtain ⟨a, us, rfl, h1, h2⟩ := r1
    refine ⟨a, rfl, ⟨us, same_t ok1.gh h1⟩, q _ G1 H1 ok1 s1 fun H2 s2 i => ?_⟩
    have hs : SqT B.K H2 a us := same_t s2 h1
    have hl := h2.length
    refine ⟨fun hi => ⟨us, us[i]'(by omega), hs, List.getElem?_eq_getElem (by omega)⟩, fun hi => ⟨us, hs, by omega⟩, fun y v H' hy hv => ?_⟩
    obtain ⟨rfl, hv⟩ := hv
    exact .inl ⟨rfl, paired_ix h2 (hv us hs) hy⟩
def enumI (xs : List α) : List (Int × α) := xs.zipIdx.map fun p => ((p.2 : Nat), p.1)
theorem enumI_len {xs : List α} : (enumI xs).length = xs.length := by simp [enumI]
theorem enumI_get {xs : List α} {i : Nat} {y : Int × α} (h : (enumI xs)[i]? = some y) : y.1 = (i : Int) ∧ xs[i]? = some y.2 := by
  unfold enumI at h
  rw [List.getElem?_map, List.getElem?_zipIdx] at h
  cases hx : xs[i]? with
  | none => rw [hx] at h; simp at h
  | some z =>
    rw [hx] at h
    have h : ((((0 + i : Nat) : Int), z) : Int × α) = y := by simpa using h
    subst h
    exact ⟨by simp, rfl⟩
theorem rep_pairI {K : PySem.W.Frag} {G1 : Hp} {T : Addr} {i : Nat} {u : V} {y : Int × α} (gT : G1 T = none) (h1 : y.1 = (i : Int)) (h2 : Enc.rep K G1 u y.2) : Enc.rep K (upd G1 T (.tup [.int (i : Nat), u])) (V.ref T) y :=
  ⟨T, .int (i : Nat), u, rfl, .inl (.inl upd_same), by show V.int _ = V.int _; rw [h1], Enc.mono (same_upd gT) h2⟩
theorem ei_enumS {x : Str} {ta : TA} (h : EvA B ta e (· = [vs x])) : EvI B (iEnumS ta) e (enumI (signs x)) := fun σ G H ok X R q =>
  h σ G H ok X _ fun us ss G1 H1 p ok1 s1 r1 => by
    subst p
    cases r1 with
    | cons a b =>
      cases b
      obtain rfl := (show _ = V.str x from a)
      refine ⟨x, rfl, q _ G1 H1 ok1 s1 fun H2 s2 i => ?_⟩
      have hl : (enumI (signs x)).length = x.cps.size := by
        rw [enumI_len]
        unfold signs
        rw [List.length_map, Array.length_toList]
      refine ⟨fun hi => by show i < x.cps.size; omega, fun hi => by show x.cps.size ≤ i; omega, fun y v H' hy hv => ?_⟩
      obtain ⟨T, c, rfl, hT, rfl, hc⟩ := hv
      obtain ⟨k1, k2⟩ := enumI_get hy
      refine .inr ⟨T, _, hT, rfl, rep_pairI (s2.free hT) k1 ?_⟩
      unfold signs at k2
      rw [List.getElem?_map, Array.getElem?_toList, hc] at k2
      have e2 : (⟨#[c]⟩ : Str) = y.2 := Option.some.inj k2
      show V.str _ = V.str _
      rw [e2]
theorem ei_enumL {xs : List α} {ta : TA} (h : EvA B ta e (· = [vs xs])) : EvI B (iEnum B.K ta) e (enumI xs) := fun σ G H ok X R q =>
  h σ G H ok X _ fun us ss G1 H1 p ok1 s1 r1 => by
    subst p
    cases r1 with
    | cons a b =>
      cases b
      obtain ⟨a', ws, rfl, h1, h2⟩ := (show Enc.rep B.K G1 _ xs from a)
      refine ⟨a', ws, rfl, .inl (.inl (ok1.gh _ _ h1)), q _ G1 H1 ok1 s1 fun H2 s2 i => ?_⟩
      have hs : SqL B.K H2 a' ws := .inl (.inl (s2 _ _ h1))
      have hl : (enumI xs).length = xs.length := enumI_len
      have hw := h2.length
      refine ⟨fun hi => ⟨ws, ws[i]'(by omega), hs, List.getElem?_eq_getElem (by omega)⟩, fun hi => ⟨ws, hs, by omega⟩, fun y v H' hy hv => ?_⟩
      obtain ⟨T, x, rfl, hT, rfl, hx⟩ := hv
      obtain ⟨k1, k2⟩ := enumI_get hy
      exact .inr ⟨T, _, hT, rfl, rep_pairI (s2.free hT) k1 (paired_ix h2 (hx ws hs) k2)⟩
theorem ei_enumT {xs : Tup α} {ta : TA} (h : EvA B ta e (· = [vs xs])) : EvI B (iEnumT B.K ta) e (enumI xs.l) := fun σ G H ok X R q =>
  h σ G H ok X _ fun us ss G1 H1 p ok1 s1 r1 => by
    subst p
    cases r1 with
    | cons a b =>
      cases b
      obtain ⟨a', ws, rfl, h1, h2⟩ := (show Enc.rep B.K G1 _ xs from a)
      refine ⟨a', ws, rfl, same_t ok1.gh h1, q _ G1 H1 ok1 s1 fun H2 s2 i => ?_⟩
      have hs : SqT B.K H2 a' ws := same_t s2 h1
      have hl : (enumI xs.l).length = xs.l.length := enumI_len
      have hw := h2.length
      refine ⟨fun hi => ⟨hs, by omega⟩, fun hi => ⟨hs, by omega⟩, fun y v H' hy hv => ?_⟩
      obtain ⟨T, x, rfl, hT, rfl, hx⟩ := hv
      obtain ⟨k1, k2⟩ := enumI_get hy
      exact .inr ⟨T, _, hT, rfl, rep_pairI (s2.free hT) k1 (paired_ix h2 hx k2)⟩

/-! ### places -/
theorem getD_some {l : List α} {k : Nat} {d : α} (h : k < l.length) : l[k]? = some (l.getD k d) := by
  rw [List.getElem?_eq_getElem h, List.getD_eq_getElem?_getD, List.getElem?_eq_getElem h]
  rfl
theorem r2_ixSp {z : Str} {i : Int} (hz : z.length ≤ 10000000) (h : 0 ≤ i ∧ i < z.length) : R2V B e rIxS z i (· = sgnAt z i.toNat) := r2_ixS hz (ixN_nn h.1 h.2)
theorem r2_ixSn {z : Str} {i : Int} (hz : z.length ≤ 10000000) (h : i < 0 ∧ -(z.length : Int) ≤ i) : R2V B e rIxS z i (· = sgnAt z (i + z.length).toNat) := r2_ixS hz (ixN_ng h.1 h.2)
theorem r2_ixLp {ys : List α} {i : Int} {d : α} (h : 0 ≤ i ∧ i < ys.length) : R2V B e (rIxL B.K) ys i (· = ys.getD i.toNat d) := r2_ixL (ixN_nn h.1 h.2) (getD_some (by omega))
theorem r2_ixLn {ys : List α} {i : Int} {d : α} (h : i < 0 ∧ -(ys.length : Int) ≤ i) : R2V B e (rIxL B.K) ys i (· = ys.getD (i + ys.length).toNat d) := r2_ixL (ixN_ng h.1 h.2) (getD_some (by omega))
theorem r2_ixUp {ys : Tup α} {i : Int} {d : α} (h : 0 ≤ i ∧ i < ys.l.length) : R2V B e (rIxT B.K) ys i (· = ys.l.getD i.toNat d) := r2_ixU (ixN_nn h.1 h.2) (getD_some (by omega))
theorem r2_ixUn {ys : Tup α} {i : Int} {d : α} (h : i < 0 ∧ -(ys.l.length : Int) ≤ i) : R2V B e (rIxT B.K) ys i (· = ys.l.getD (i + ys.l.length).toNat d) := r2_ixU (ixN_ng h.1 h.2) (getD_some (by omega))
theorem r2_ixOp {j : Nat} {a : Addr} {ys : List α} {i : Int} {d : α} (hc : e.cl[j]? = some (a, ownL ys)) (h : 0 ≤ i ∧ i < ys.length) : R2V B e (rIxL B.K) (Adr.mk a) i (· = ys.getD i.toNat d) := r2_ixO hc (ixN_nn h.1 h.2) (getD_some (by omega))
theorem r2_ixOn {j : Nat} {a : Addr} {ys : List α} {i : Int} {d : α} (hc : e.cl[j]? = some (a, ownL ys)) (h : i < 0 ∧ -(ys.length : Int) ≤ i) : R2V B e (rIxL B.K) (Adr.mk a) i (· = ys.getD (i + ys.length).toNat d) := r2_ixO hc (ixN_ng h.1 h.2) (getD_some (by omega))
theorem do_setLp {ti : TE} {k : Nat} {a : Addr} {ys : List α} {P : α → Prop} {i : Int} (hc : e.cl[k]? = some (a, ownL ys)) (h : Ev B te e P) (ho : EvD B ta e (Adr.mk a)) (hi : EvD B ti e i) (hj : 0 ≤ i ∧ i < ys.length) (q : ∀ y, P y → E.nx ⟨e.sl, e.cl.set k (a, ownL (ys.set i.toNat y))⟩) :
    Do B (tAsg te (gSub ta ti rSetL)) e E := do_setL hc h ho hi (ixN_nn hj.1 hj.2) q
/-- a list of things of different kinds -/
def ownS (lc : Bool) (ss : List Slot) : Cell := ⟨lc, fun K H o => ∃ us, o = .lst us ∧ Reps K H us ss, fun e ⟨us, h1, h2⟩ => ⟨us, h1, reps_mono e h2⟩⟩
theorem r2_ixOS {lc : Bool} {j k : Nat} {a : Addr} {ss : List Slot} {y : α} {i : Int} (hc : e.cl[j]? = some (a, ownS lc ss)) (hy : ss[k]? = some (vs y)) (hi : i = (k : Int)) : R2V B e (rIxL B.K) (Adr.mk a) i (· = y) := fun σ G H ok v w rv rw Q q => by
  obtain rfl := (show v = V.ref a from rv)
  obtain rfl := (show w = V.int i from rw)
  obtain ⟨_, _, o, h1, ws, rfl, h2⟩ := ok.cell hc
  obtain ⟨u, h3, h4⟩ := reps_get h2 hy
  have hk : k < ws.length := (List.getElem?_eq_some_iff.mp h3).1
  refine ⟨a, ws, i, u, rfl, rfl, .inl (.inl h1), ?_, q u y G H rfl ok (Same.refl G) h4⟩
  unfold atI
  rw [ixN_nn (by omega) (by omega)]
  have e1 : i.toNat = k := by omega
  rw [e1]
  exact h3
theorem reps_set {K : PySem.W.Frag} {G : Hp} {w : V} {y : Slot} (r : y.rp K G w) : ∀ {us : List V} {ys : List Slot} (j : Nat), Reps K G us ys → Reps K G (us.set j w) (ys.set j y)
  | _, _, _, .nil => .nil
  | _, _, 0, .cons _ t => .cons r t
  | _, _, j + 1, .cons a t => .cons a (reps_set r j t)
theorem do_setOS {lc : Bool} {ti : TE} {k j : Nat} {a : Addr} {ss : List Slot} {P : α → Prop} {i : Int} (hc : e.cl[k]? = some (a, ownS lc ss)) (h : Ev B te e P) (ho : EvD B ta e (Adr.mk a)) (hi : EvD B ti e i) (hj : i = (j : Int)) (hl : j < ss.length) (q : ∀ y, P y → E.nx ⟨e.sl, e.cl.set k (a, ownS lc (ss.set j (vs y)))⟩) :
    Do B (tAsg te (gSub ta ti rSetL)) e E := fun σ G H ok X D m =>
  h σ G H ok X _ fun w y G1 H1 py ok1 s1 r1 => ho σ G1 H1 ok1 (X.mono s1) _ fun v x G2 H2 p ok2 s2 r2 => hi σ G2 H2 ok2 (X.mono (s1.trans s2)) _ fun v3 x3 G3 H3 p3 ok3 s3 r3 => by
    subst p
    subst p3
    obtain rfl := (show v = V.ref a from r2)
    obtain rfl := (show v3 = V.int x3 from r3)
    obtain ⟨_, _, o, h1, us, rfl, hu⟩ := ok3.cell hc
    refine ⟨a, us, x3, j, rfl, rfl, h1, ?_, ?_⟩
    · rw [ixN_nn (by omega) (by rw [hu.length]; omega)]
      congr 1
      omega
    · exact m.nx σ G3 _ _ (q y py) (ok3.write (c' := ownS lc (ss.set j (vs y))) hc rfl ⟨us.set j w, rfl, reps_set (y := vs y) (Enc.mono (s2.trans s3) r1) j hu⟩) ((s1.trans s2).trans s3)
/-- another word about the cells -/
theorem Ok.cells {G H : Hp} {σ : St} (ok : Ok B G H σ e) {cl : List (Addr × Cell)} (hn : (cl.map (·.1)).Nodup) (h : ∀ p ∈ cl, ∃ c, (p.1, c) ∈ e.cl ∧ c.lc = p.2.lc ∧ ∀ K G o, c.hp K G o → p.2.hp K G o) : Ok B G H σ ⟨e.sl, cl⟩ :=
  ⟨ok.g0, ok.gh, ok.fr, ok.al, ok.nw, ok.sr, hn, fun p hp => by
    obtain ⟨c, hc, hl, k⟩ := h p hp
    obtain ⟨h1, h2, o, h3, h4⟩ := ok.cr.at_ _ hc
    exact ⟨h1, by rw [← hl]; exact h2, o, h3, k _ _ _ h4⟩⟩
theorem do_cells {t : TS} {sl : List (Option Slot)} {cl cl' : List (Addr × Cell)} (hn : (cl'.map (·.1)) = cl.map (·.1)) (h : ∀ p ∈ cl', ∃ c, (p.1, c) ∈ cl ∧ c.lc = p.2.lc ∧ ∀ K G o, c.hp K G o → p.2.hp K G o) (d : Do B t ⟨sl, cl'⟩ E) : Do B t ⟨sl, cl⟩ E :=
  fun σ G H ok X D m => d σ G H (ok.cells (cl := cl') (by rw [hn]; exact ok.cr.nd) h) X D m
/-- what a cell's word tells is opened -/
theorem do_open {t : TS} {sl : List (Option Slot)} {cl : List (Addr × Cell)} {a : Addr} {c : Cell} {ι : Type} {R : ι → Prop} {c' : ι → Cell} (h : ∀ K G o, c.hp K G o → ∃ i, R i ∧ (c' i).hp K G o) (hl : ∀ i, (c' i).lc = c.lc) (d : ∀ i, R i → Do B t ⟨sl, (a, c' i) :: cl⟩ E) : Do B t ⟨sl, (a, c) :: cl⟩ E :=
  fun σ G H ok X D m => by
    obtain ⟨h1, h2, o, h3, h4⟩ := ok.cr.at_ (a, c) List.mem_cons_self
    obtain ⟨i, ri, h5⟩ := h _ _ _ h4
    refine d i ri σ G H ⟨ok.g0, ok.gh, ok.fr, ok.al, ok.nw, ok.sr, ok.cr.nd, fun p hp => ?_⟩ X D m
    rcases List.mem_cons.mp hp with q | q
    · subst q
      exact ⟨h1, by rw [hl]; exact h2, o, h3, h5⟩
    · exact ok.cr.at_ p (List.mem_cons_of_mem _ q)

/-! ### targets -/
theorem do_asgG {js : List Nat} {f : α → List (Option Slot) → List (Option Slot)} {P : α → Prop} (h : Ev B te e P) (hg : EvG B g js f) (k : ∀ x, P x → E.nx ⟨f x e.sl, e.cl⟩) : Do B (tAsg te g) e E := fun σ G H ok X D m =>
  h σ G H ok X _ fun v x G' H' p ok' s r => hg σ G' H' e ok' v x r _ fun σ' ok2 _ => m.nx σ' G' H' _ (k x p) ok2 s
def rDivmod : List V → Hp → VK → Prop := fun xs H Q => ∃ i j, xs = [.int i, .int j] ∧ CDiv i j ∧ ∀ p, H p = none → Q (.ref p) (upd H p (.tup [.int (i / j), .int (i % j)]))
theorem cr_divmod {X : Cx} : CallR X (.builtin "divmod") rDivmod := call_divmod
theorem rc_divmod {i j : Int} (h : 0 < j ∧ j < 1073741824) : RCV B e rDivmod [vs i, vs j] (· = ((i / j, i % j) : Int × Int)) := fun σ G H ok us ru Q q => by
  cases ru with
  | cons a b =>
    cases b with
    | cons a2 b2 =>
      cases b2
      obtain rfl := (show _ = V.int i from a)
      obtain rfl := (show _ = V.int j from a2)
      refine ⟨i, j, rfl, h, fun p hp => ?_⟩
      have gp := ok.gh.free hp
      exact q (.ref p) _ (upd G p (.tup [.int (i / j), .int (i % j)])) _ rfl (ok.new hp) (same_upd gp) ⟨p, .int (i / j), .int (i % j), rfl, .inl (.inl upd_same), rfl, rfl⟩

/-! ### while -/
theorem do_whileD {c : TT} {tb : TS} {ι : Type} (st : ι → Ev1) (word : ι → Prop) (meas : ι → Nat) (i0 : ι) (h0 : word i0) (he : e = st i0)
    (hs : ∀ i, word i → ∃ b, EvTD B c (st i) b ∧ (b = true → Do B tb (st i) { nx := fun e' => ∃ i', word i' ∧ meas i' < meas i ∧ e' = st i', rt := E.rt, bk := E.nx, ct := fun e' => ∃ i', word i' ∧ meas i' < meas i ∧ e' = st i' }) ∧ (b = false → E.nx (st i))) :
    Do B (tWhile c tb) e E := fun σ G H ok X D m => by
  subst he
  refine ⟨fun n σ H => ∃ G' i, n = meas i ∧ word i ∧ Ok B G' H σ (st i) ∧ Same G G', ⟨meas i0, G, i0, rfl, h0, ok, Same.refl _⟩, ?_⟩
  rintro n σ2 H2 ⟨G2, i, rfl, hw, ok2, s2⟩
  obtain ⟨b, ev, h1, h2⟩ := hs i hw
  refine ev σ2 G2 H2 ok2 (X.mono s2) _ fun b' G3 H3 pb ok3 s3 => ?_
  subst pb
  cases b' with
  | false => exact iteF (m.nx σ2 G3 H3 _ (h2 rfl) ok3 (s2.trans s3))
  | true =>
    refine iteT ⟨fun σ H => ∃ G' i', word i' ∧ meas i' < meas i ∧ Ok B G' H σ (st i') ∧ Same G G', fun σ' H' ⟨G', i', a1, a2, a3, a4⟩ => ⟨meas i', a2, G', i', rfl, a1, a3, a4⟩, ?_⟩
    exact h1 rfl σ2 G3 H3 ok3 (X.mono (s2.trans s3)) _ ⟨fun σ5 G5 H5 e5 ⟨i', k1, k2, k3⟩ ok5 s5 => ⟨G5, i', k1, k2, k3 ▸ ok5, (s2.trans s3).trans s5⟩, fun v5 r5 σ5 G5 H5 e5 h5 ok5 s5 => m.rt v5 r5 σ5 G5 H5 e5 h5 ok5 ((s2.trans s3).trans s5),
      fun σ5 G5 H5 e5 h5 ok5 s5 => m.nx σ5 G5 H5 e5 h5 ok5 ((s2.trans s3).trans s5), fun σ5 G5 H5 e5 ⟨i', k1, k2, k3⟩ ok5 s5 => ⟨G5, i', k1, k2, k3 ▸ ok5, (s2.trans s3).trans s5⟩⟩

/-! ### in, ==, is, isinstance -/
theorem flat_strs (xs : List Str) : (xs.map V.str).all flatV = true := by simp [flatV]
theorem flat_ints (xs : List Int) : (xs.map V.int).all flatV = true := by simp [flatV]
theorem inV_strs (x : Str) (xs : List Str) : inV (.str x) (xs.map V.str) = decide (x ∈ xs) := by
  unfold inV
  induction xs with
  | nil => rfl
  | cons y r ih =>
    rw [List.map_cons, List.any_cons, ih]
    show ((y == x) || _) = _
    rw [Bool.eq_iff_iff]
    simp only [Bool.or_eq_true, beq_iff_eq, decide_eq_true_eq, List.mem_cons]
    exact ⟨fun h => h.imp Eq.symm id, fun h => h.imp Eq.symm id⟩
theorem inV_ints (x : Int) (xs : List Int) : inV (.int x) (xs.map V.int) = decide (x ∈ xs) := by
  unfold inV
  induction xs with
  | nil => rfl
  | cons y r ih =>
    rw [List.map_cons, List.any_cons, ih]
    show ((y == x) || _) = _
    rw [Bool.eq_iff_iff]
    simp only [Bool.or_eq_true, beq_iff_eq, decide_eq_true_eq, List.mem_cons]
    exact ⟨fun h => h.imp Eq.symm id, fun h => h.imp Eq.symm id⟩
theorem r2_inLS {x : Str} {xs : List Str} : R2V B e (rIn B.K false) x xs (· = decide (x ∈ xs)) := fun σ G H ok v w rv rw' Q q => by
  obtain ⟨p, ws, rfl, h1, h2⟩ := rw'
  obtain rfl := (show v = V.str x from rv)
  have e1 := paired_strs h2
  subst e1
  exact ⟨p, _, rfl, .inl (.inl (.inl (ok.gh _ _ h1))), rfl, flat_strs xs, q _ _ G H rfl ok (Same.refl G) (by show V.bl _ = V.bl _; rw [inV_strs]; rfl)⟩
theorem r2_niLS {x : Str} {xs : List Str} : R2V B e (rIn B.K true) x xs (· = !decide (x ∈ xs)) := fun σ G H ok v w rv rw' Q q => by
  obtain ⟨p, ws, rfl, h1, h2⟩ := rw'
  obtain rfl := (show v = V.str x from rv)
  have e1 := paired_strs h2
  subst e1
  exact ⟨p, _, rfl, .inl (.inl (.inl (ok.gh _ _ h1))), rfl, flat_strs xs, q _ _ G H rfl ok (Same.refl G) (by show V.bl _ = V.bl _; rw [inV_strs]; rfl)⟩
theorem r2_inLI {x : Int} {xs : List Int} : R2V B e (rIn B.K false) x xs (· = decide (x ∈ xs)) := fun σ G H ok v w rv rw' Q q => by
  obtain ⟨p, ws, rfl, h1, h2⟩ := rw'
  obtain rfl := (show v = V.int x from rv)
  have e1 := paired_ints h2
  subst e1
  exact ⟨p, _, rfl, .inl (.inl (.inl (ok.gh _ _ h1))), rfl, flat_ints xs, q _ _ G H rfl ok (Same.refl G) (by show V.bl _ = V.bl _; rw [inV_ints]; rfl)⟩
theorem r2_niLI {x : Int} {xs : List Int} : R2V B e (rIn B.K true) x xs (· = !decide (x ∈ xs)) := fun σ G H ok v w rv rw' Q q => by
  obtain ⟨p, ws, rfl, h1, h2⟩ := rw'
  obtain rfl := (show v = V.int x from rv)
  have e1 := paired_ints h2
  subst e1
  exact ⟨p, _, rfl, .inl (.inl (.inl (ok.gh _ _ h1))), rfl, flat_ints xs, q _ _ G H rfl ok (Same.refl G) (by show V.bl _ = V.bl _; rw [inV_ints]; rfl)⟩
/-- in an own list -/
theorem r2_niOS {k : Nat} {a : Addr} {x : Str} {xs : List Str} (hc : e.cl[k]? = some (a, ownL xs)) : R2V B e (rIn B.K true) x (Adr.mk a) (· = !decide (x ∈ xs)) := fun σ G H ok v w rv rw' Q q => by
  obtain rfl := (show w = V.ref a from rw')
  obtain rfl := (show v = V.str x from rv)
  obtain ⟨_, _, o, h1, ws, rfl, h2⟩ := ok.cell hc
  have e1 := paired_strs h2
  subst e1
  exact ⟨a, _, rfl, .inl (.inl (.inl h1)), rfl, flat_strs xs, q _ _ G H rfl ok (Same.refl G) (by show V.bl _ = V.bl _; rw [inV_strs]; rfl)⟩
theorem r2_inOS {k : Nat} {a : Addr} {x : Str} {xs : List Str} (hc : e.cl[k]? = some (a, ownL xs)) : R2V B e (rIn B.K false) x (Adr.mk a) (· = decide (x ∈ xs)) := fun σ G H ok v w rv rw' Q q => by
  obtain rfl := (show w = V.ref a from rw')
  obtain rfl := (show v = V.str x from rv)
  obtain ⟨_, _, o, h1, ws, rfl, h2⟩ := ok.cell hc
  have e1 := paired_strs h2
  subst e1
  exact ⟨a, _, rfl, .inl (.inl (.inl h1)), rfl, flat_strs xs, q _ _ G H rfl ok (Same.refl G) (by show V.bl _ = V.bl _; rw [inV_strs]; rfl)⟩
end
/-! ### data, for == -/
class PD (α : Type) [Enc α] where
  toD : α → PyData
  ok : α → Bool
  dep : Nat
  dp : ∀ {K : PySem.W.Frag} {H : Hp} {v : V} {x : α}, Enc.rep K H v x → Dp K H v (toD x)
  lay : ∀ x, ok x = true → (toD x).canLay0 = true
  dle : ∀ x, (toD x).depth ≤ dep
  eqv : ∀ x y, PyData.eqv (toD x) (toD y) = true ↔ x = y
instance : PD Int := { toD := .int, ok := fun _ => true, dep := 0, dp := fun {K H v x} h => by { obtain rfl := (show v = V.int x from h); exact .int x }, lay := fun _ _ => by simp [PyData.canLay0], dle := fun _ => by simp [PyData.depth], eqv := fun x y => by simp [PyData.eqv] }
instance : PD Bool := { toD := .bool, ok := fun _ => true, dep := 0, dp := fun {K H v x} h => by { obtain rfl := (show v = V.bl x from h); exact .bl x }, lay := fun _ _ => by simp [PyData.canLay0], dle := fun _ => by simp [PyData.depth], eqv := fun x y => by simp [PyData.eqv] }
instance : PD Str := { toD := .str, ok := fun x => x.cps.all (· < 0x110000), dep := 0, dp := fun {K H v x} h => by { obtain rfl := (show v = V.str x from h); exact .str x }, lay := fun _ h => by { show PyData.canLay0 (.str _) = true; rw [PyData.canLay0]; exact h }, dle := fun _ => by simp [PyData.depth], eqv := fun x y => by simp [PyData.eqv] }
section
variable {α β : Type} [Enc α] [Enc β] [PD α] [PD β]
theorem dp_all {K : PySem.W.Frag} {H : Hp} : ∀ {us : List V} {xs : List α}, Paired (Enc.rep K H) us xs → DpAll K H us (xs.map PD.toD)
  | _, _, .nil => .nil
  | _, _, .cons a b => .cons (PD.dp a) (dp_all b)
theorem lay_all : ∀ xs : List α, xs.all PD.ok = true → PyData.canLayAll0 (xs.map PD.toD) = true
  | [], _ => by simp [PyData.canLayAll0]
  | x :: xs, h => by
    rw [List.all_cons, Bool.and_eq_true] at h
    show PyData.canLayAll0 (PD.toD x :: xs.map PD.toD) = true
    rw [PyData.canLayAll0, lay_all xs h.2, PD.lay x h.1]
    rfl
theorem dep_all : ∀ xs : List α, PyData.depthAll (xs.map PD.toD) ≤ PD.dep α
  | [] => by simp [PyData.depthAll]
  | x :: xs => by
    have h1 := PD.dle x
    have h2 := dep_all xs
    show PyData.depthAll (PD.toD x :: xs.map PD.toD) ≤ _
    rw [PyData.depthAll]
    omega
theorem eqv_all : ∀ xs ys : List α, PyData.eqvAll (xs.map PD.toD) (ys.map PD.toD) = true ↔ xs = ys
  | [], [] => by simp [PyData.eqvAll]
  | [], y :: ys => by simp [PyData.eqvAll]
  | x :: xs, [] => by simp [PyData.eqvAll]
  | x :: xs, y :: ys => by
    show PyData.eqvAll (PD.toD x :: xs.map PD.toD) (PD.toD y :: ys.map PD.toD) = true ↔ _
    rw [PyData.eqvAll, Bool.and_eq_true, PD.eqv x y, eqv_all xs ys, List.cons.injEq]
end
instance {α : Type} [Enc α] [PD α] : PD (List α) where
  toD := fun xs => .list (xs.map PD.toD)
  ok := fun xs => xs.all PD.ok
  dep := PD.dep α + 1
  dp := fun h => by
    obtain ⟨a, us, rfl, h1, h2⟩ := h
    exact .lst (.inl (.inl h1)) (dp_all h2)
  lay := fun x h => by
    show PyData.canLay0 (.list _) = true
    simp only [PyData.canLay0]
    exact lay_all x h
  dle := fun x => by
    show PyData.depth (.list _) ≤ _
    simp only [PyData.depth]
    exact Nat.succ_le_succ (dep_all x)
  eqv := fun x y => by
    show PyData.eqv (.list _) (.list _) = true ↔ _
    simp only [PyData.eqv]
    exact eqv_all x y
instance {α : Type} [Enc α] [PD α] : PD (Tup α) where
  toD := fun xs => .tuple (xs.l.map PD.toD)
  ok := fun xs => xs.l.all PD.ok
  dep := PD.dep α + 1
  dp := fun h => by
    obtain ⟨a, us, rfl, h1, h2⟩ := h
    exact .tup h1 (dp_all h2)
  lay := fun x h => by
    show PyData.canLay0 (.tuple _) = true
    simp only [PyData.canLay0]
    exact lay_all x.l h
  dle := fun x => by
    show PyData.depth (.tuple _) ≤ _
    simp only [PyData.depth]
    exact Nat.succ_le_succ (dep_all x.l)
  eqv := fun x y => by
    show PyData.eqv (.tuple _) (.tuple _) = true ↔ _
    simp only [PyData.eqv]
    rw [eqv_all x.l y.l]
    exact ⟨fun h => by cases x; cases y; cases h; rfl, fun h => by rw [h]⟩
instance {α β : Type} [Enc α] [PD α] [Enc β] [PD β] : PD (α × β) where
  toD := fun x => .tuple [PD.toD x.1, PD.toD x.2]
  ok := fun x => PD.ok x.1 && PD.ok x.2
  dep := max (PD.dep α) (PD.dep β) + 1
  dp := fun h => by
    obtain ⟨a, u, w, rfl, h1, h2, h3⟩ := h
    exact .tup h1 (.cons (PD.dp h2) (.cons (PD.dp h3) .nil))
  lay := fun x h => by
    rw [Bool.and_eq_true] at h
    show PyData.canLay0 (.tuple _) = true
    simp only [PyData.canLay0, PyData.canLayAll0, PD.lay _ h.1, PD.lay _ h.2]
    rfl
  dle := fun x => by
    have h1 := PD.dle x.1
    have h2 := PD.dle x.2
    show PyData.depth (.tuple _) ≤ _
    simp only [PyData.depth, PyData.depthAll]
    omega
  eqv := fun x y => by
    show PyData.eqv (.tuple _) (.tuple _) = true ↔ _
    simp only [PyData.eqv, PyData.eqvAll, Bool.and_eq_true, PD.eqv, and_true]
    exact ⟨fun h => Prod.ext h.1 h.2, fun h => by rw [h]; exact ⟨rfl, rfl⟩⟩
section
variable {B : Bs} {e : Ev1} {α β γ δ ρ : Type} [Enc α] [Enc β] [Enc γ] [Enc ρ] {te tl ta tb : TE} {t1 : TA} {tt tu : TT} {E : En ρ} {wi : TI} {g : TG} {r : R2}
theorem pd_shaped [PD α] {x : α} (h : PD.ok x = true) (hd : PD.dep α ≤ 64) : SeqAt.shaped (PD.toD x) = true := by
  unfold SeqAt.shaped
  rw [PD.lay x h, Bool.true_and]
  exact decide_eq_true (Nat.le_trans (PD.dle x) hd)
theorem eqv_dec [PD α] [DecidableEq α] {x y : α} : PyData.eqv (PD.toD x) (PD.toD y) = decide (x = y) := by
  rw [Bool.eq_iff_iff, PD.eqv]
  exact decide_eq_true_iff.symm
theorem r2_eqP [PD α] [DecidableEq α] {x y : α} (hx : PD.ok x = true) (hy : PD.ok y = true) (hd : PD.dep α ≤ 64 := by decide) : R2V B e (rEqD B.K) x y (· = decide (x = y)) := fun σ G H ok v w rv rw' Q q =>
  ⟨PD.toD x, PD.toD y, PD.dp (Enc.mono ok.gh rv), PD.dp (Enc.mono ok.gh rw'), pd_shaped hx hd, pd_shaped hy hd, by rw [eqv_dec]; exact q _ _ G H rfl ok (Same.refl G) rfl⟩
theorem r2_neP [PD α] [DecidableEq α] {x y : α} (hx : PD.ok x = true) (hy : PD.ok y = true) (hd : PD.dep α ≤ 64 := by decide) : R2V B e (rNeD B.K) x y (· = !decide (x = y)) := fun σ G H ok v w rv rw' Q q =>
  ⟨PD.toD x, PD.toD y, PD.dp (Enc.mono ok.gh rv), PD.dp (Enc.mono ok.gh rw'), pd_shaped hx hd, pd_shaped hy hd, by rw [eqv_dec]; exact q _ _ G H rfl ok (Same.refl G) rfl⟩
/-! ### isinstance -/
theorem isi_F {α : Type} [EncF α] {x : α} {ty c : String} {b : Bool} (h : EvD B ta e x) (ht : ∀ H, TyOf B.K H (EncF.toV x) (.type ty)) (hk : kitB ty c = some b) : EvD B (tCB (rIsi B.K) (tCons ta (tCons (tC (.ty c)) tNil))) e b := fun σ G H ok X Q q =>
  h σ G H ok X _ fun v y G1 H1 p ok1 s1 r1 => by
    subst p
    have e1 := EncF.repV.mp r1
    subst e1
    exact ⟨_, _, .type ty, .type c, b, rfl, .ty c, .base (ht H1), kit_ty hk, q _ b G1 H1 rfl ok1 s1 rfl⟩
theorem isi_L {x : List α} {c : String} {b : Bool} (h : EvD B ta e x) (hk : kitB "list" c = some b) : EvD B (tCB (rIsi B.K) (tCons ta (tCons (tC (.ty c)) tNil))) e b := fun σ G H ok X Q q =>
  h σ G H ok X _ fun v y G1 H1 p ok1 s1 r1 => by
    subst p
    obtain ⟨a, us, rfl, h1, h2⟩ := r1
    exact ⟨_, _, .type "list", .type c, b, rfl, .ty c, .base (.lst (ok1.gh _ _ h1)), kit_ty hk, q _ b G1 H1 rfl ok1 s1 rfl⟩
theorem ty_tup {K : PySem.W.Frag} {H : Hp} {a : Addr} {us : List V} (h : SqT K H a us) : TyX K H (.ref a) (.type "tuple") := by
  rcases h with (h | ⟨o, h⟩) | ⟨o, its, n, h1, h2, _⟩
  · exact .base (.tup h)
  · exact .fTuple h
  · exact .kTuple h1 h2
theorem isi_U {x : Tup α} {c : String} {b : Bool} (h : EvD B ta e x) (hk : kitB "tuple" c = some b) : EvD B (tCB (rIsi B.K) (tCons ta (tCons (tC (.ty c)) tNil))) e b := fun σ G H ok X Q q =>
  h σ G H ok X _ fun v y G1 H1 p ok1 s1 r1 => by
    subst p
    obtain ⟨a, us, rfl, h1, h2⟩ := r1
    exact ⟨_, _, .type "tuple", .type c, b, rfl, .ty c, ty_tup (same_t ok1.gh h1), kit_ty hk, q _ b G1 H1 rfl ok1 s1 rfl⟩
theorem isi_O {k : Nat} {a : Addr} {ys : List α} {c : String} {b : Bool} (hc : e.cl[k]? = some (a, ownL ys)) (h : EvD B ta e (Adr.mk a)) (hk : kitB "list" c = some b) : EvD B (tCB (rIsi B.K) (tCons ta (tCons (tC (.ty c)) tNil))) e b := fun σ G H ok X Q q =>
  h σ G H ok X _ fun v y G1 H1 p ok1 s1 r1 => by
    subst p
    obtain rfl := (show v = V.ref a from r1)
    obtain ⟨_, _, o, h1, us, rfl, _⟩ := ok1.cell hc
    exact ⟨_, _, .type "list", .type c, b, rfl, .ty c, .base (.lst h1), kit_ty hk, q _ b G1 H1 rfl ok1 s1 rfl⟩
/-! ### text times int -/
def rRepS : R2 := fun x y H Q => ∃ (i : Str) (j : Int), x = .str i ∧ y = .int j ∧ -1000 ≤ j ∧ j ≤ 10000 ∧ i.length ≤ 1000 ∧ Q (.str (Txt.mul i j)) H
theorem op_repS {X : Cx} : OpR X (binaryOp .Mult) rRepS := by
  intro pins s σ H x y v u Q I rx ry h
  obtain ⟨i, j, rfl, rfl, h1, h2, h3, q⟩ := h
  obtain ⟨t, rfl⟩ := rx
  obtain ⟨t', rfl⟩ := ry
  refine PySem.SB.mul ⟨?_, fun _ _ => ?_, fun _ _ => ?_⟩ fun t' k => ⟨.str _, H, I.tok k, ⟨_, rfl⟩, q⟩
  · simp only [Bool.or_eq_false_iff, decide_eq_false_iff_not]
    omega
  · have hq : (10 ^ 3 : Int) ≤ (2 ^ 63 - 1) / j := by
      rw [Int.le_ediv_iff_mul_le (by omega)]
      omega
    omega
  · have : i.length * j.toNat ≤ 1000 * 10000 := Nat.mul_le_mul h3 (by omega)
    exact decide_eq_false (by rw [sizeLine_eq]; omega)
theorem r2_repS {i : Str} {j : Int} (h : -1000 ≤ j ∧ j ≤ 10000 ∧ i.length ≤ 1000) : R2V B e rRepS i j (· = Txt.mul i j) := r2_F (γ := Str) fun H Q q => ⟨i, j, rfl, rfl, h.1, h.2.1, h.2.2, q⟩
end
end Fw

namespace Fw
open PySem L2

section
variable {B : Bs} {e : Ev1} {α β γ δ ρ : Type} [Enc α] [Enc β] [Enc γ] [Enc ρ] {te tl ta tb : TE} {t1 : TA} {tt tu : TT} {E : En ρ} {wi : TI} {g : TG} {r : R2} {js : List Nat} {f : α → List (Option Slot) → List (Option Slot)}

/-! ### what is walked, some list; as long as the cells stand -/
def GivesC (B : Bs) (C : List (Addr × Cell)) (G1 : Hp) (J : It) (xs : List α) : Prop := ∀ G2 H cl, Same G1 G2 → Same G2 H → CR B G2 H cl → (∀ c ∈ C, c ∈ cl) → ∀ i : Nat,
  (i < xs.length → J.go i H) ∧ (xs.length ≤ i → J.stop i H) ∧ ∀ (y : α) v H', xs[i]? = some y → J.yld i H v H' → (H' = H ∧ Enc.rep B.K G2 v y) ∨ (∃ T o, H T = none ∧ H' = upd H T o ∧ Enc.rep B.K (upd G2 T o) v y)
def EvIC (B : Bs) (wi : TI) (e : Ev1) (P : List α → Prop) : Prop :=
  ∀ σ G H, Ok B G H σ e → XOk B G → ∀ R : It → Hp → Prop, (∀ J xs G' H', P xs → Ok B G' H' σ e → Same G G' → GivesC B e.cl G' J xs → R J H') → wi σ H R
theorem ei_c {xs : List α} (h : EvI B wi e xs) : EvIC B wi e (· = xs) := fun σ G H ok X R q =>
  h σ G H ok X R fun J G' H' ok' s' gv => q J xs G' H' rfl ok' s' fun G2 H2 cl s1 s2 _ _ i => by
    obtain ⟨g1, g2, g3⟩ := gv H2 (s1.trans s2) i
    refine ⟨g1, g2, fun y v H3 hy hv => ?_⟩
    rcases g3 y v H3 hy hv with ⟨a, b⟩ | ⟨T, o, a, b, c⟩
    · exact .inl ⟨a, Enc.mono s1 b⟩
    · exact .inr ⟨T, o, a, b, Enc.mono (same_upd2 s1) c⟩
/-- an own list is walked -/
theorem eic_own {k : Nat} {a : Addr} {xs : List α} (hc : e.cl[k]? = some (a, ownL xs)) (h : EvD B tl e (Adr.mk a)) : EvIC B (iList B.K tl) e (· = xs) := fun σ G H ok X R q =>
  h σ G H ok X _ fun v y G1 H1 p ok1 s1 r1 => by
    subst p
    obtain rfl := (show v = V.ref a from r1)
    obtain ⟨_, _, o, h1, us, rfl, hu⟩ := ok1.cell hc
    refine ⟨a, rfl, ⟨us, .inl (.inl h1)⟩, q _ xs G1 H1 rfl ok1 s1 fun G2 H2 cl s2 s3 cr hcl i => ?_⟩
    obtain ⟨_, _, o, h2, ws, rfl, hw⟩ := cr.at_ _ (hcl _ (List.mem_of_getElem? hc))
    have hl := hw.length
    have hs : SqL B.K H2 a ws := .inl (.inl h2)
    refine ⟨fun hi => ⟨ws, ws[i]'(by omega), hs, List.getElem?_eq_getElem (by omega)⟩, fun hi => ⟨ws, hs, by omega⟩, fun y v H' hy hv => ?_⟩
    obtain ⟨rfl, hv⟩ := hv
    exact .inl ⟨rfl, paired_ix hw (hv ws hs) hy⟩
theorem eic_rng1 {P : Int → Prop} (h : Ev B te e P) (hn : ∀ n, P n → n < 2 ^ 62 ∧ -(2 ^ 62) ≤ n) : EvIC B (iRng1 (tCons te tNil)) e (fun xs => ∃ n, P n ∧ xs = rngI 0 n.toNat) := fun σ G H ok X R q =>
  h σ G H ok X _ fun v n G1 H1 p ok1 s1 r1 => by
    obtain rfl := (show v = V.int n from r1)
    refine ⟨n, rfl, (hn n p).2, (hn n p).1, q _ _ G1 H1 ⟨n, p, rfl⟩ ok1 s1 fun G2 H2 cl s2 s3 _ _ i => ?_⟩
    obtain ⟨g1, g2, g3⟩ := gives_rng (K := B.K) (G := G1) (lo := 0) (n := n.toNat) H2 (s2.trans s3) i
    refine ⟨g1, g2, fun y v H3 hy hv => ?_⟩
    rcases g3 y v H3 hy hv with ⟨a, b⟩ | ⟨T, o, a, b, c⟩
    · exact .inl ⟨a, b⟩
    · exact .inr ⟨T, o, a, b, Enc.mono (same_upd2 s2) c⟩

/-! ### comprehensions once more -/
theorem evl_lcX {ws : List Nat} {Pxs : List α → Prop} (hi : EvIC B wi e Pxs) (hg : EvG B g js f) (hj : ∀ j ∈ js, j ∈ ws) (hl : ∀ xs, Pxs xs → xs.length ≤ 1000000) (I : List α → List β → Prop) (h0 : I [] []) (pt : α → Bool → Prop) (pe : α → β → Prop)
    (ht : ∀ xs pre x post, Pxs xs → xs = pre ++ x :: post → ∀ dc, EvT B tt ⟨f x (wipeE e.sl ws), e.cl ++ [dc]⟩ (pt x))
    (he : ∀ xs pre x post, Pxs xs → xs = pre ++ x :: post → pt x true → ∀ dc, Ev B te ⟨f x (wipeE e.sl ws), e.cl ++ [dc]⟩ (pe x))
    (hy : ∀ pre x ys y, I pre ys → pt x true → pe x y → I (pre ++ [x]) (ys ++ [y]))
    (hn : ∀ pre x ys, I pre ys → pt x false → I (pre ++ [x]) ys) : EvL B (tLc wi g tt te ws) e (fun ys => ∃ xs, Pxs xs ∧ I xs ys) := fun σ G H ok X Q q =>
  hi σ G H ok X _ fun J xs G1 H1 pxs ok1 s1 gv => fun D hD => by
    have hlx := hl xs pxs
    refine ⟨fun i n H => ∃ G2 ys, n = xs.length - i ∧ i ≤ xs.length ∧ ys.length ≤ i ∧ Ok B G2 H σ ⟨e.sl, e.cl ++ [(D, ownL ys)]⟩ ∧ B.H0 D = none ∧ Same G1 G2 ∧ I (xs.take i) ys, ⟨xs.length, G1, [], by simp, Nat.zero_le _, Nat.zero_le _, ?_, ok1.al D hD, Same.refl _, by rw [List.take_zero]; exact h0⟩, ?_⟩
    · exact (ok1.newH hD).addEnd (ok1.gh.free hD) upd_same (ok1.al D hD) (fun c hc => by
        obtain ⟨_, _, o', h3, _⟩ := ok1.cr.at_ c hc
        exact ne_of_none h3 hD) rfl ⟨[], rfl, .nil⟩
    rintro i n H2 ⟨G2, ys, rfl, hi2, hy2, ok2, hD0, s2, inv⟩
    obtain ⟨g1, g2, g3⟩ := gv G2 H2 _ s2 ok2.gh ok2.cr (fun c hc => List.mem_append_left _ hc) i
    by_cases hlt : i < xs.length
    · refine .inr ⟨g1 hlt, fun H => ∃ G2 ys, ys.length ≤ i + 1 ∧ Ok B G2 H σ ⟨e.sl, e.cl ++ [(D, ownL ys)]⟩ ∧ Same G1 G2 ∧ I (xs.take (i + 1)) ys, fun H' ⟨G', ys', k1, k2, k3, k4⟩ => ⟨xs.length - (i + 1), by omega, G', ys', rfl, hlt, k1, k2, hD0, k3, k4⟩, fun v H' hyl => ?_⟩
      have hx : xs[i]? = some xs[i] := List.getElem?_eq_getElem hlt
      have split : xs = xs.take i ++ xs[i] :: xs.drop (i + 1) := by rw [← List.drop_eq_getElem_cons hlt, List.take_append_drop]
      have tk1 : xs.take (i + 1) = xs.take i ++ [xs[i]] := by rw [List.take_add_one, hx]; rfl
      have fin : ∀ G3, Ok B G3 H' σ ⟨e.sl, e.cl ++ [(D, ownL ys)]⟩ → Same G1 G3 → Enc.rep B.K G3 v xs[i] → g v (wipe σ ws) H' fun σ2 H2 => wipe σ2 ws = wipe σ ws ∧ tt σ2 H2 fun b H3 =>
          if b = true then te σ2 H3 fun y H4 => ∃ acc, H4 D = some (.lst acc) ∧ acc.length < sizeLine ∧ (∃ G2 ys, ys.length ≤ i + 1 ∧ Ok B G2 (upd H4 D (.lst (acc ++ [y]))) σ ⟨e.sl, e.cl ++ [(D, ownL ys)]⟩ ∧ Same G1 G2 ∧ I (xs.take (i + 1)) ys)
          else ∃ G2 ys, ys.length ≤ i + 1 ∧ Ok B G2 H3 σ ⟨e.sl, e.cl ++ [(D, ownL ys)]⟩ ∧ Same G1 G2 ∧ I (xs.take (i + 1)) ys := fun G3 ok3 s13 r3 => by
        have ok3w : Ok B G3 H' (wipe σ ws) ⟨wipeE e.sl ws, e.cl ++ [(D, ownL ys)]⟩ := ⟨ok3.g0, ok3.gh, ok3.fr, ok3.al, ok3.nw, sr_wipe ok3.sr ws, ok3.cr⟩
        refine hg (wipe σ ws) G3 H' _ ok3w v _ r3 _ fun σ3 ok4 hw => ⟨by rw [hw ws hj, wipe_idem ws ws fun _ h => h], ?_⟩
        have back : ∀ {G5 H5 : Hp}, Ok B G5 H5 σ3 ⟨f xs[i] (wipeE e.sl ws), e.cl ++ [(D, ownL ys)]⟩ → Same G3 G5 → Ok B G5 H5 σ ⟨e.sl, e.cl ++ [(D, ownL ys)]⟩ := fun {G5 H5} k s5 => ⟨k.g0, k.gh, k.fr, k.al, k.nw, ok3.sr.mono s5, k.cr⟩
        refine ht xs _ _ _ pxs split (D, ownL ys) σ3 G3 H' ok4 (X.mono (s1.trans s13)) _ fun b G5 H5 pb ok5 s5 => ?_
        cases b with
        | false => exact iteF ⟨G5, ys, by omega, back ok5 s5, s13.trans s5, by rw [tk1]; exact hn _ _ _ inv pb⟩
        | true =>
          refine iteT (he xs _ _ _ pxs split pb (D, ownL ys) σ3 G5 H5 ok5 (X.mono ((s1.trans s13).trans s5)) _ fun y z G6 H6 pz ok6 s6 r6 => ?_)
          have k6 := back ok6 (s5.trans s6)
          have hcl : (⟨e.sl, e.cl ++ [(D, ownL ys)]⟩ : Ev1).cl[e.cl.length]? = some (D, ownL ys) := by
            show (e.cl ++ [(D, ownL ys)])[e.cl.length]? = _
            rw [List.getElem?_append_right (Nat.le_refl _), Nat.sub_self]
            rfl
          obtain ⟨_, _, o, ho, acc, rfl, hacc⟩ := k6.cell hcl
          refine ⟨acc, ho, ?_, G6, ys ++ [z], by rw [List.length_append]; show ys.length + 1 ≤ i + 1; omega, ?_, (s13.trans s5).trans s6, by rw [tk1]; exact hy _ _ _ _ inv pb pz⟩
          · rw [hacc.length, sizeLine_eq]
            omega
          · have w := k6.write (c' := ownL (ys ++ [z])) hcl rfl ⟨acc ++ [y], rfl, hacc.snoc r6⟩
            have e9 : (e.cl ++ [(D, ownL ys)]).set e.cl.length (D, ownL (ys ++ [z])) = e.cl ++ [(D, ownL (ys ++ [z]))] := by
              rw [List.set_append_right _ _ (Nat.le_refl _), Nat.sub_self]
              rfl
            exact e9 ▸ w
      rcases g3 _ v H' hx hyl with ⟨rfl, r⟩ | ⟨T, o, hT, rfl, r⟩
      · exact fin G2 ok2 s2 r
      · have gT : G2 T = none := ok2.gh.free hT
        exact fin (upd G2 T o) (ok2.new hT) (s2.trans (same_upd gT)) r
    · have e3 : i = xs.length := by omega
      subst e3
      rw [List.take_length] at inv
      have hcl : (⟨e.sl, e.cl ++ [(D, ownL ys)]⟩ : Ev1).cl[e.cl.length]? = some (D, ownL ys) := by
        show (e.cl ++ [(D, ownL ys)])[e.cl.length]? = _
        rw [List.getElem?_append_right (Nat.le_refl _), Nat.sub_self]
        rfl
      obtain ⟨gD, _, o, ho, acc, rfl, hacc⟩ := ok2.cell hcl
      exact .inl ⟨g2 (Nat.le_refl _), q D acc ys G2 H2 ⟨xs, pxs, inv⟩ ok2.dropEnd (s1.trans s2) ⟨_, ho, rfl⟩ gD hD0 ok2.endNe hacc⟩
/-- an element's value is told by a word -/
theorem evl_lcXN {ws : List Nat} {Pxs : List α → Prop} {pe : α → β → Prop} (hi : EvIC B wi e Pxs) (hg : EvG B g js f) (hj : ∀ j ∈ js, j ∈ ws) (hl : ∀ xs, Pxs xs → xs.length ≤ 1000000)
    (he : ∀ xs pre x post, Pxs xs → xs = pre ++ x :: post → ∀ dc, Ev B te ⟨f x (wipeE e.sl ws), e.cl ++ [dc]⟩ (pe x)) : EvL B (tLc wi g tYes te ws) e (fun ys => ∃ xs, Pxs xs ∧ Paired pe xs ys) :=
  evl_lcX hi hg hj hl (Paired pe) .nil (fun _ b => b = true) pe (fun _ _ _ _ _ _ _ => et_yes.mono fun _ h => h) (fun xs pre x post p s _ => he xs pre x post p s) (fun pre x ys y hI _ p => hI.snoc p) fun _ _ _ _ h => absurd h Bool.false_ne_true
theorem evl_lcN {ws : List Nat} {xs : List α} {pe : α → β → Prop} (hi : EvI B wi e xs) (hg : EvG B g js f) (hj : ∀ j ∈ js, j ∈ ws) (hl : xs.length ≤ 1000000)
    (he : ∀ pre x post, xs = pre ++ x :: post → ∀ dc, Ev B te ⟨f x (wipeE e.sl ws), e.cl ++ [dc]⟩ (pe x)) : EvL B (tLc wi g tYes te ws) e (Paired pe xs) :=
  (evl_lcXN (pe := pe) (ei_c hi) hg hj (fun _ h => by rw [h]; exact hl) fun ys pre x post h s => by subst h; exact he pre x post s).mono fun ys ⟨zs, h1, h2⟩ => by rw [← h1]; exact h2
/-- own list, decided -/
theorem evl_lcCD {ws : List Nat} {xs : List α} {p : α → Bool} {h : α → β} (hi : EvIC B wi e (· = xs)) (hg : EvG B g js f) (hj : ∀ j ∈ js, j ∈ ws) (hl : xs.length ≤ 1000000)
    (ht : ∀ pre x post, xs = pre ++ x :: post → ∀ dc, EvTD B tt ⟨f x (wipeE e.sl ws), e.cl ++ [dc]⟩ (p x))
    (he : ∀ pre x post, xs = pre ++ x :: post → p x = true → ∀ dc, EvD B te ⟨f x (wipeE e.sl ws), e.cl ++ [dc]⟩ (h x)) : EvL B (tLc wi g tt te ws) e (· = (xs.filter p).map h) :=
  (evl_lcX hi hg hj (fun _ h => by rw [h]; exact hl) (fun pre ys => ys = (pre.filter p).map h) rfl (fun x b => b = p x) (fun x y => y = h x) (fun zs pre x post h s => by subst h; exact ht pre x post s) (fun zs pre x post h s pb => by subst h; exact he pre x post s pb.symm)
    (fun pre x ys y hI pb py => by subst hI; subst py; rw [List.filter_append, List.map_append, List.filter_cons, if_pos pb.symm]; rfl)
    (fun pre x ys hI pb => by subst hI; rw [List.filter_append, List.map_append, List.filter_cons, if_neg (by rw [← pb]; exact Bool.false_ne_true)]; simp)).mono fun ys ⟨zs, h1, h2⟩ => by rw [← h1]; exact h2

/-! ### a new cell from a call; a new list of things of different kinds -/
theorem do_callNew {sp : Sp} {W : WX} {i : Nat} {c0 : Cell} {P : List Slot → Prop} (ha : EvA B t1 e P) (hl : c0.lc = true)
    (hs : ∀ ss, P ss → ∀ us H Q E, Call B.K ss [] (fun (r : Adr) c => c = [(r.a, c0)]) (fun _ _ => False) us H Q E → sp us H Q E) (k : ∀ a, E.nx ⟨e.sl.set i (va (Adr.mk a)), (a, c0) :: e.cl⟩) : Do B (tAsg (tCallS sp (WE W) t1) (gName i)) e E := fun σ G H ok X D m =>
  ha σ G H ok X _ fun us ss G1 H1 p ok1 s1 r1 => hs ss p us H1 _ _ ⟨G1, ok1.gh, r1, List.nodup_nil, fun _ h => (nomatch h), fun v r cl' G' H' pr a rv => by
    subst pr
    obtain rfl := (show v = V.ref r.a from rv)
    obtain ⟨h1, h2, h3⟩ := a.at_ (r.a, c0) List.mem_cons_self
    rw [if_pos hl] at h2
    have a0 : After B.K G1 H1 [] G' H' [] := ⟨a.gg, a.gh, a.fr, a.al, a.nw, List.nodup_nil, fun _ h => (nomatch h)⟩
    have ok2 : Ok B G' H' σ e := after_ok (cl := []) ok1 (fun _ h => absurd h (by simp)) a0
    have ne : ∀ c ∈ e.cl, c.1 ≠ r.a := fun c hc => by
      obtain ⟨_, _, o', k3, _⟩ := ok1.cr.at_ c hc
      exact ne_of_none k3 h2
    obtain ⟨o, h3, h4⟩ := h3
    have ok3 := ok2.addCell (c := c0) h1 h3 (ok1.al _ h2) ne hl h4
    exact m.nx _ G' H' _ (k r.a) (ok3.set i (v := .ref r.a) (s := vs (Adr.mk r.a)) rfl) (s1.trans a.gg), fun d x cl' G' H' z => z.elim⟩
theorem do_retS {E : En Adr} {c' : Cell} {ss : List Slot} (ha : EvA B t1 e (· = ss)) (hl : ss.length ≤ 1000) (hc : c'.lc = true) (hw : ∀ K G o, (ownS true ss).hp K G o → c'.hp K G o) (k : ∀ p, E.rt (Adr.mk p) ⟨e.sl, (p, c') :: e.cl⟩) : Do B (tRet (tLst t1)) e E := fun σ G H ok X D m =>
  ha σ G H ok X _ fun us ss' G1 H1 p ok1 s1 r1 => by
    subst p
    refine ⟨szl (by rw [r1.length]; omega), fun p hp => ?_⟩
    exact m.rt (.ref p) (Adr.mk p) σ G1 _ _ (k p) (ok1.newCell (c := c') hp hc (hw _ _ _ ⟨us, rfl, r1⟩)) s1 rfl
end
end Fw

namespace Fw
open PySem L2

/-! ### dicts with texts as keys -/
section
variable {B : Bs} {e : Ev1} {α β γ δ ρ : Type} [Enc α] [Enc β] [Enc γ] [Enc ρ] {te td ty ta tb : TE} {t1 : TA} {tt tu : TT} {E : En ρ}
abbrev DRel (K : PySem.W.Frag) (H : Hp) : List (Key × V) → List (Str × β) → Prop := Paired fun (p : Key × V) (q : Str × β) => p.1 = Sum.inr q.1 ∧ Enc.rep K H p.2 q.2
def ownD (d : List (Str × β)) : Cell := ⟨true, fun K H o => ∃ kvs, o = .dK kvs ∧ DRel K H kvs d, fun e ⟨kvs, h1, h2⟩ => ⟨kvs, h1, Paired.mapP h2 fun _ _ r => ⟨r.1, Enc.mono e r.2⟩⟩⟩
def putD (d : List (Str × β)) (k : Str) (v : β) : List (Str × β) := if (d.any fun q => decide (q.1 = k)) = true then d.map (fun q => if q.1 = k then (q.1, v) else q) else d ++ [(k, v)]
def keysD (d : List (Str × β)) : List Str := d.map (·.1)
theorem drel_any {K : PySem.W.Frag} {H : Hp} {k : Str} : ∀ {kvs : List (Key × V)} {d : List (Str × β)}, DRel K H kvs d → (kvs.any fun kv => decide (kv.1 = Sum.inr k)) = d.any fun q => decide (q.1 = k)
  | _, _, .nil => rfl
  | _, _, .cons (a := p) (b := q) h t => by
    rw [List.any_cons, List.any_cons, drel_any t, h.1]
    congr 1
    rw [Bool.eq_iff_iff]
    simp
theorem drel_map {K : PySem.W.Frag} {H : Hp} {k : Str} {v : V} {y : β} (rv : Enc.rep K H v y) : ∀ {kvs : List (Key × V)} {d : List (Str × β)}, DRel K H kvs d → DRel K H (kvs.map fun kv => if kv.1 = Sum.inr k then (kv.1, v) else kv) (d.map fun q => if q.1 = k then (q.1, y) else q)
  | _, _, .nil => .nil
  | _, _, .cons (a := p) (b := q) h t => by
    rw [List.map_cons, List.map_cons]
    refine .cons ?_ (drel_map rv t)
    obtain ⟨p1, p2⟩ := p
    obtain ⟨q1, q2⟩ := q
    obtain ⟨h1, h2⟩ := h
    have h1 : p1 = Sum.inr q1 := h1
    subst h1
    by_cases e : q1 = k
    · rw [if_pos (by show (Sum.inr q1 : Key) = Sum.inr k; rw [e]), if_pos e]
      exact ⟨rfl, rv⟩
    · rw [if_neg (fun z => e (Sum.inr.inj z)), if_neg e]
      exact ⟨rfl, h2⟩
theorem drel_put {K : PySem.W.Frag} {H : Hp} {k : Str} {v : V} {y : β} (rv : Enc.rep K H v y) {kvs : List (Key × V)} {d : List (Str × β)} (h : DRel K H kvs d) : DRel K H (putK kvs (Sum.inr k) v) (putD d k y) := by
  unfold putK putD
  rw [drel_any h]
  split
  · exact drel_map rv h
  · exact Paired.snoc h ⟨rfl, rv⟩
theorem do_dput {k : Nat} {a : Addr} {d : List (Str × β)} {P : β → Prop} {x : Str} (hc : e.cl[k]? = some (a, ownD d)) (h : Ev B te e P) (ho : EvD B td e (Adr.mk a)) (hi : EvD B ty e x) (hz : d.length ≤ 1000000) (q : ∀ y, P y → E.nx ⟨e.sl, e.cl.set k (a, ownD (putD d x y))⟩) : Do B (sDPut td ty te) e E := fun σ G H ok X D m =>
  h σ G H ok X _ fun w y G1 H1 py ok1 s1 r1 => ho σ G1 H1 ok1 (X.mono s1) _ fun v z G2 H2 p ok2 s2 r2 => hi σ G2 H2 ok2 (X.mono (s1.trans s2)) _ fun v3 x3 G3 H3 p3 ok3 s3 r3 => by
    subst p
    subst p3
    obtain rfl := (show v = V.ref a from r2)
    obtain rfl := (show v3 = V.str x3 from r3)
    obtain ⟨_, _, o, h1, kvs, rfl, hu⟩ := ok3.cell hc
    exact ⟨a, _, rfl, DPut.k (k := Sum.inr x3) h1 (by rw [Paired.length hu, sizeLine_eq]; omega), m.nx σ G3 _ _ (q y py) (ok3.write (c' := ownD (putD d x3 y)) hc rfl ⟨_, rfl, drel_put (Enc.mono (s2.trans s3) r1) hu⟩) ((s1.trans s2).trans s3)⟩
theorem do_dnew {i : Nat} (β : Type) [Enc β] (k : ∀ a, E.nx ⟨e.sl.set i (va (Adr.mk a)), (a, ownD ([] : List (Str × β))) :: e.cl⟩) : Do B (tAsg tDNewK (gName i)) e E := fun σ G H ok X D m => fun p hp =>
  m.nx _ G _ _ (k p) ((ok.newCell (c := ownD ([] : List (Str × β))) hp rfl ⟨[], rfl, .nil⟩).set i (v := .ref p) (s := vs (Adr.mk p)) rfl) (Same.refl G)
theorem do_dnew1 {i : Nat} {β : Type} [EncF β] {x : Str} {y : β} (k : ∀ a, E.nx ⟨e.sl.set i (va (Adr.mk a)), (a, ownD [(x, y)]) :: e.cl⟩) : Do B (tAsg (tDisp [(tC (.str x), tC (EncF.toV y))]) (gName i)) e E := fun σ G H ok X D m => fun p hp => by
  refine ⟨upd_same, [(Sum.inr x, EncF.toV y)], rfl, by simp, ?_⟩
  have e1 : upd (upd H p (.dK [])) p (.dK (mergeK [] [(Sum.inr x, EncF.toV y)])) = upd H p (.dK [(Sum.inr x, EncF.toV y)]) := by
    funext b
    by_cases hb : b = p
    · subst hb
      rw [upd_same, upd_same]
      rfl
    · rw [upd_ne hb, upd_ne hb, upd_ne hb]
  show D.nx _ (upd (upd H p (.dK [])) p (.dK (mergeK [] [(Sum.inr x, EncF.toV y)])))
  rw [e1]
  exact m.nx _ G _ _ (k p) ((ok.newCell (c := ownD [(x, y)]) hp rfl ⟨_, rfl, .cons ⟨rfl, EncF.repV.mpr rfl⟩ .nil⟩).set i (v := .ref p) (s := vs (Adr.mk p)) rfl) (Same.refl G)
theorem keys_paired {K : PySem.W.Frag} {H G : Hp} : ∀ {kvs : List (Key × V)} {d : List (Str × β)}, DRel K H kvs d → Paired (Enc.rep K G) (kvs.map fun kv => kV kv.1) (keysD d)
  | _, _, .nil => .nil
  | _, _, .cons (a := p) (b := q) h t => by
    refine .cons ?_ (keys_paired t)
    show kV p.1 = V.str q.1
    rw [h.1]
    rfl
theorem evl_listD {k : Nat} {a : Addr} {d : List (Str × β)} (hc : e.cl[k]? = some (a, ownD d)) (h : EvA B t1 e (· = [vs (Adr.mk a)])) : EvL B (tCB rListD t1) e (· = keysD d) := evl_cb h fun σ G H ok us ru => by
  cases ru with
  | cons ra b =>
    cases b
    obtain rfl := (show _ = V.ref a from ra)
    obtain ⟨_, _, o, h1, kvs, rfl, h2⟩ := ok.cell hc
    exact ⟨_, keysD d, rfl, keys_paired h2, fun Q q => ⟨a, kvs, rfl, h1, q⟩⟩
end

/-! ### sorted -/
def wLe (a b : Str) : Bool := decide (a.length < b.length ∨ (a.length = b.length ∧ a.cps.toList ≤ b.cps.toList))
def pLe (a b : Int × Str) : Bool := decide (a.1 < b.1 ∨ (a.1 = b.1 ∧ a.2.cps.toList ≤ b.2.cps.toList))
def sortW (xs : List Str) : List Str := xs.mergeSort wLe
def sortP (xs : List (Int × Str)) : List (Int × Str) := xs.mergeSort pLe
theorem str_eq_iff {a b : Str} : a.cps.toList = b.cps.toList ↔ a = b := by
  constructor
  · intro h
    cases a
    cases b
    congr 1
    exact Array.toList_inj.mp h
  · intro h
    rw [h]
theorem dataLe_is {β : Type} (x : β → Int) (y : β → Str) : PySem.W.dataLe false (fun b => .tuple [.int (x b), .str (y b)]) = fun p q => decide (x p < x q ∨ (x p = x q ∧ (y p).cps.toList ≤ (y q).cps.toList)) := by
  funext p q
  show (!PySem.W.dataLt (.tuple [.int (x q), .str (y q)]) (.tuple [.int (x p), .str (y p)])) = _
  rw [PySem.W.dataLt_pair (by simp [PySem.W.alike]) (by simp [PySem.W.alike]), PySem.W.dataLt_int, PySem.W.dataLt_str]
  simp only [PyData.eqv, beq_iff_eq]
  by_cases h1 : x q = x p
  · rw [if_pos h1]
    by_cases h2 : y q = y p
    · rw [if_pos h2]
      have h3 : (y p).cps.toList ≤ (y q).cps.toList := by rw [h2]; exact List.le_refl _
      simp [h1, h3]
    · rw [if_neg h2]
      by_cases h3 : (y q).cps.toList < (y p).cps.toList
      · have h4 : ¬ (y p).cps.toList ≤ (y q).cps.toList := fun r => List.not_lt.mpr r h3
        simp [h1, h3, h4]
      · have h4 : (y p).cps.toList ≤ (y q).cps.toList := List.not_lt.mp h3
        simp [h1, h3, h4]
  · rw [if_neg h1]
    by_cases h2 : x q < x p
    · have h3 : ¬ x p < x q := by omega
      have h4 : ¬ x p = x q := by omega
      simp [h2, h3, h4]
    · have h3 : x p < x q := by omega
      simp [h2, h3]
theorem dataLe_W : PySem.W.dataLe false (fun b : Str => .tuple [.int b.length, .str b]) = wLe := by
  rw [dataLe_is (fun b : Str => (b.length : Int)) (fun b => b)]
  funext p q
  unfold wLe
  have e : (((p.length : Nat) : Int) < (q.length : Int) ∨ (((p.length : Nat) : Int) = (q.length : Int) ∧ p.cps.toList ≤ q.cps.toList)) ↔ (p.length < q.length ∨ (p.length = q.length ∧ p.cps.toList ≤ q.cps.toList)) := by
    rw [Int.ofNat_lt, Int.ofNat_inj]
  exact decide_eq_decide.mpr e
theorem dataLe_P : PySem.W.dataLe false (fun b : Int × Str => .tuple [.int b.1, .str b.2]) = pLe := dataLe_is (fun b : Int × Str => b.1) (fun b => b.2)
open PySem.W in
theorem alike_is {β : Type} (x : β → Int) (y : β → Str) (bs : List β) : AllAlike (bs.map fun b => PyData.tuple [.int (x b), .str (y b)]) := AllAlike.of fun _ _ => by simp [alike, alikeAll]
theorem depth_is (x : Int) (y : Str) : (PyData.tuple [.int x, .str y]).depth = 1 := by simp [PyData.depth, PyData.depthAll]
abbrev PrV (K : PySem.W.Frag) (H : Hp) (u : V) (k : Int × Str) : Prop := ∃ T, u = .ref T ∧ SqT K H T [.int k.1, .str k.2]
def rSortPr (K : PySem.W.Frag) : List V → Hp → VK → Prop := fun vs H Q => ∃ a ws ks G, vs = [.ref a] ∧ SqL K H a ws ∧ Same G H ∧ Paired (PrV K G) ws ks ∧ ks.length ≤ 1000000 ∧ ∀ p ws', H p = none → Paired (PrV K G) ws' (sortP ks) → Q (.ref p) (upd H p (.lst ws'))
section
variable {X : Cx}
theorem vals_each {β : Type} {R : V → β → Prop} : ∀ {ws : List V} {us : List Value} {bs : List β}, Vals ws us → Paired R ws bs → PySem.W.EachIs (fun v b => ∃ u, RelV u v ∧ R u b) us bs
  | _, _, _, .nil, .nil => .nil
  | _, _, _, .cons r t, .cons a b => .cons ⟨_, r, a⟩ (vals_each t b)
theorem each_vals {β : Type} {R : V → β → Prop} : ∀ {us : List Value} {bs : List β}, PySem.W.EachIs (fun v b => ∃ u, RelV u v ∧ R u b) us bs → ∃ ws, Vals ws us ∧ Paired R ws bs
  | _, _, .nil => ⟨[], .nil, .nil⟩
  | _, _, .cons ⟨u, h1, h2⟩ t => by
    obtain ⟨ws, k1, k2⟩ := each_vals t
    exact ⟨u :: ws, .cons h1 k1, .cons h2 k2⟩
theorem cr_sortedPr (hu : X.A.units + 64 < cLine) : CallR X (.builtin "sorted") (rSortPr X.K) := by
  intro pins s σ H vs us Q I r h
  obtain ⟨a, ws, ks, G, rfl, hs, sg, hp, hl, q⟩ := h
  obtain rfl := Vals.ref1 r
  obtain ⟨its, rv, pl, hz⟩ := I.list hs
  have er : PySem.W.EachIs (fun v b => ∃ as, Reads s.heap v ((fun b : Int × Str => PyData.tuple [.int b.1, .str b.2]) b) as) its ks := (vals_each rv hp).mono fun v b ⟨u, ru, T, hu', hT⟩ => by
    subst hu'
    exact Dp.reads I _ _ _ (.tup (same_t sg hT) (.cons (.int _) (.cons (.str _) .nil))) ru
  refine PySem.W.sorted_data (R := fun v b => ∃ u, RelV u v ∧ PrV X.K G u b) (enc := fun b : Int × Str => PyData.tuple [.int b.1, .str b.2]) pl.isList (vals_each rv hp) er (alike_is (fun b : Int × Str => b.1) (fun b => b.2) ks) (PySem.W.Sortable.tuples fun _ => ⟨_, _, rfl⟩) (by rw [sizeLine_eq]; omega) (fun b _ => by rw [depth_is]; omega) fun out ho eo => ?_
  rw [dataLe_P] at eo
  obtain ⟨ws', k1, k2⟩ := each_vals eo
  obtain ⟨ep, he'⟩ := PyProof.Rows.sortedAll_at s.heap its out.toArray
  have hlen : ws'.length ≤ sizeLine := by rw [k1.length, ho, sizeLine_eq]; omega
  exact ⟨.ref _, upd H (s.heap.objs.size + 1) (.lst ws'), I.laid (t' := s.toks) (fun _ _ => PyProof.Rows.sortedAll_old) (Nat.le_succ _) ⟨hlen, out, ep, k1, he'⟩, rfl, q _ ws' (I.hok.fresh (Nat.le_succ _)) k2⟩

/-! sorted(xs, key=f), f(word) = (len(word), word) -/
theorem key_body {X : Cx} {pins : List (Addr × Obj)} {σ : St} {H : Hp} {s : Shared} (I : Inv X pins σ H s) {E : Value → Shared → Prop} {p1 p2 p3 p4 p5 p6 : Pos} {kk : Nat} {z : Str} (hN : X.N[0]? = some ("word" : Str)) (hσ : σ[0]? = some (some (.str z))) (lw : X.env.scope.names.lookup ("word" : Str) = some NameKind.local)
    (hg : Gl X "len") (hm : X.mg "len" = none) (hz : z.length ≤ sizeLine) (h1 : starEach [Expr.Name "word" p2] X.env = [(false, eval (.Name "word" p2) X.env)])
    (h2 : starEach [Expr.Call (.Name "len" p1) [.Name "word" p2] [] p3, .Name "word" p4] X.env = [(false, eval (.Call (.Name "len" p1) [.Name "word" p2] [] p3) X.env), (false, eval (.Name "word" p4) X.env)]) :
    wpAny (model X.prog X.w) X.A (execs [.Return (some (.Tuple [.Call (.Name "len" p1) [.Name "word" p2] [] p3, .Name "word" p4] kk p5)) p6] X.env) (fun fl s' => ∃ u, fl = .ret u ∧ PySem.W.KeyPure (.tuple [.int z.length, .str z]) s u s') E s := by
  obtain ⟨m, hn, hl'⟩ := I.loc
  obtain ⟨u, ⟨t', ru⟩, l⟩ := hl' 0 "word" (.str z) hN hσ (.inl lw)
  subst ru
  obtain ⟨hp, g, d, tk, os⟩ := s
  have rd : ∀ {tk' : Nat} {pos : Pos} {Q : Value → Shared → Prop}, Q (.str z t') ⟨hp, g, d, tk', os⟩ → wpAny (model X.prog X.w) X.A (eval (.Name "word" pos) X.env) Q E ⟨hp, g, d, tk', os⟩ := fun {tk' pos Q} q => by
    rcases l with ⟨hk, hm⟩ | ⟨hk, _⟩
    · exact wpAny_Name (wpAny_loadName_local I.ok.kind hk hn hm q) (by decide)
    · have hk : X.env.scope.names.lookup ("word" : Str) = some NameKind.cell ∨ X.env.scope.names.lookup ("word" : Str) = some NameKind.free := hk
      rw [lw] at hk
      rcases hk with hk | hk <;> cases hk
  refine wpAny_execs_cons (wpAny_Return_some (wpAny_Tuple_spliced ?_))
  rw [h2]
  show wpAny _ _ (PySem.spliced ((false, _) :: backTo p5 [(false, _)])) _ _ _
  refine Calls.spliced_cons (wpAny_Call_Name_kw (ld_blt I hg hm boot_len ?_ (by decide) (by decide)))
  rw [h1]
  have hn63 := line63
  refine PySem.callWith_builtin1 (rd (PySem.P.len_str (by omega) ?_))
  refine Calls.spliced_cons (rd (Calls.spliced_nil ⟨by show 2 ≤ sizeLine; decide, _, rfl, _, _, rfl, fun b o e => Heap.get?_push_of_some _ e, ?_⟩))
  exact .tuple (as := [] ++ ([] ++ [])) (Heap.get?_push_size _ rfl) rfl rfl (.cons (.int _ _) (.cons (.str _ _) .nil))
/-- what is known of such a key -/
structure KeyF (P : Program) (w : World) (K : PySem.W.Frag) (mg : Str → Option Value) (base : Heap) (f : Addr) : Prop where
  turn : ∀ {A : Around} {outer : List Env} {s : Shared} {H : Hp} {z : Str} {t : Tok}, Room 2 A → Env0 P w K mg base A outer s H → z.length ≤ sizeLine → wpAny (model P w) A (call (.ref f) [.str z t]) (PySem.W.KeyPure (.tuple [.int z.length, .str z]) s) (fun _ _ => False) s
theorem key_turn {P : Program} {w : World} {K : PySem.W.Frag} {mg : Str → Option Value} {base : Heap} {x qual : Str} {st : Stmt} {f : Addr} {fd : FuncData} (F : Fun K x qual st f fd) (S : FnScope [("word" : Str)] [("word" : Str)] (defScope st))
    {p1 p2 p3 p4 p5 p6 : Pos} {kk : Nat} (hb : defBody st = [.Return (some (.Tuple [.Call (.Name "len" p1) [.Name "word" p2] [] p3, .Name "word" p4] kk p5)) p6]) (hl : mg "len" = none) (gl : ∀ n cdv, (PyProof.Rows.envOfC qual (defScope st) n f cdv).kindOf "len" = some NameKind.globalImplicit)
    (hbd : Binds K fd [("word" : Str)] []) (lw : (defScope st).names.lookup ("word" : Str) = some NameKind.local)
    (q1 : ∀ n cdv, starEach [Expr.Name "word" p2] (PyProof.Rows.envOfC qual (defScope st) n f cdv) = [(false, eval (.Name "word" p2) (PyProof.Rows.envOfC qual (defScope st) n f cdv))] := by intros; rfl)
    (q2 : ∀ n cdv, starEach [Expr.Call (.Name "len" p1) [.Name "word" p2] [] p3, .Name "word" p4] (PyProof.Rows.envOfC qual (defScope st) n f cdv) = [(false, eval (.Call (.Name "len" p1) [.Name "word" p2] [] p3) (PyProof.Rows.envOfC qual (defScope st) n f cdv)), (false, eval (.Name "word" p4) (PyProof.Rows.envOfC qual (defScope st) n f cdv))] := by intros; rfl) : KeyF P w K mg base f := by
  refine ⟨fun {A outer s H z t} hr e0 hz => ?_⟩
  have KX : K.In s.heap := e0.mod.kin.keeps fun b o e => (e0.bs b o e).1
  have bt := hbd s [.str z t] KX rfl
  obtain ⟨oc, od, kV, doc, pm, an, cdv, ct, osl, rfl, lk, hcd⟩ := F.ex
  have lim : s.heap.NoLimit := e0.mod.nolimit.keeps fun b o e => (e0.bs b o e).1
  refine wpAny_call (codeAny_call_function hr.depth (KX _ _ lk) rfl S.co S.gen rfl (PySem.W.codeRec_of KX hcd) (bt _ _ _ _ ?_))
  refine wpAny_newFunctionEnv_cells S.kind (fun y hy => .inl ?_) fun env he s1 x => ?_
  · rcases List.mem_cons.mp hy with h | h
    · rw [h]
      exact lw
    · exact absurd h (by simp)
  subst he
  refine ⟨lim.keeps x.toInCall.keep, codeAny_func ?_⟩
  have I : Inv (cxOf (L2.CX P w) P w K mg base [("word" : Str)] qual (defScope st) f cdv A outer s H (fun _ _ _ => True)) [] (L2.start [("word" : Str)] [V.str z]) H s1 := inv_start S hr.hd e0 rfl (.cons ⟨t, rfl⟩ .nil) x
  obtain ⟨h1, tk, rfl, hk⟩ := x.done
  have kb := key_body (E := fun _ _ => False) (p1 := p1) (p2 := p2) (p3 := p3) (p4 := p4) (p5 := p5) (p6 := p6) (kk := kk) I rfl rfl lw (gl _ _) hl hz (q1 _ _) (q2 _ _)
  rw [← hb] at kb
  refine wpAny_mono kb (fun fl s' ⟨u, hf, hp⟩ => ?_) fun e s' z => z.elim
  subst hf
  obtain ⟨h', tk', e1, e2, e3⟩ := hp
  exact ⟨h', tk', e1, fun b o q => e2 b o (hk b o q), e3⟩
def rSortKy (f : Addr) : List V → List V → Hp → VK → Prop := fun vs zs H Q => ∃ a xs, vs = [V.ref a] ∧ zs = [V.ref f] ∧ H a = some (.lst (xs.map V.str)) ∧ xs.length ≤ 1000000 ∧ (∀ x ∈ xs, x.length ≤ sizeLine) ∧ ∀ p, H p = none → Q (.ref p) (upd H p (.lst ((sortW xs).map V.str)))
theorem cr_sortedKy {f : Addr} (kf : KeyF X.prog X.w X.K X.mg X.base f) (hr : Room 4 X.A) : CallRK X (.builtin "sorted") [Str.ofString "key"] (rSortKy f) := by
  intro pins s σ H vs zs us ws Q I r rz h
  obtain ⟨a, xs, rfl, rfl, hs, hl, hx, q⟩ := h
  obtain rfl := Vals.ref1 r
  obtain rfl := Vals.ref1 rz
  obtain ⟨its, rv, pl, hz⟩ := I.list (.inl (.inl hs))
  have ev : PySem.W.EachIs (fun (v : Value) (b : Str) => ∃ t, v = .str b t) its xs := by
    clear hl hx q hs pl hz
    induction xs generalizing its with
    | nil =>
      cases rv
      exact .nil
    | cons x xs ih =>
      cases rv with
      | cons a b => exact .cons a (ih _ b)
  have hu := hr.un
  refine PySem.W.sorted_key_data (R := fun (v : Value) (b : Str) => ∃ t, v = .str b t) (b := false) (fun b : Str => .tuple [.int b.length, .str b]) pl.isList ev (alike_is (fun b : Str => (b.length : Int)) (fun b => b) xs) (PySem.W.Sortable.tuples fun _ => ⟨_, _, rfl⟩) (by rw [sizeLine_eq]; omega) (fun b _ => by rw [depth_is]; omega) (PyProof.Rows.ksk_s1 _ _) (fun _ => PyProof.Rows.ksk_l1 _ _) (fun _ => PyProof.Rows.ksk_t1 _ _)
    (fun v b ⟨t, hv⟩ hb h tk kp => ?_) fun out c h' tk kp hn hD ho eo => ?_
  · subst hv
    have I2 : Inv X pins σ H { s with heap := h, toks := tk } := I.kept (t' := tk) kp
    exact kf.turn (hr.in1.in1) I2.env0.in1.in1 (hx b hb)
  · rw [dataLe_W] at eo
    have rv' : Vals ((sortW xs).map V.str) out := by
      have key : ∀ {us : List Value} {bs : List Str}, PySem.W.EachIs (fun (v : Value) (b : Str) => ∃ t, v = .str b t) us bs → Vals (bs.map V.str) us := by
        intro us bs h
        induction h with
        | nil => exact .nil
        | cons a _ ih => exact .cons a ih
      exact key eo
    have hlen : ((sortW xs).map V.str).length ≤ sizeLine := by rw [rv'.length, ho, sizeLine_eq]; omega
    exact ⟨.ref _, upd H (s.heap.objs.size + 1) (.lst ((sortW xs).map V.str)), I.laid (t' := tk) kp (Nat.le_succ _) ⟨hlen, out, c, rv', hD⟩, rfl, q _ (I.hok.fresh (Nat.le_succ _))⟩
theorem pe_sortedK {f : Addr} {x : Str} {e : Expr} {ta : TE} {p p' kpos pos : Pos} (hr : Room 4 X.A) (kf : KeyF X.prog X.w X.K X.mg X.base f) (gx : X.mg x = some (.ref f)) (hm : X.mg "sorted" = none) (ha : PE X e ta) (hg : Gl X "sorted" := by rfl) (hgx : Gl X x := by rfl)
    (hdb : (x == ("__debug__" : Str)) = false := by decide) (hv : bootBuiltins "sorted" = some (.builtin "sorted") := by decide +kernel)
    (hs : starEach [e] X.env = (false, eval e X.env) :: starEach [] X.env := by rfl)
    (he : backTo pos (starEach [e] X.env) = (false, eval e X.env) :: backTo pos (starEach [] X.env) := by rfl) (hpl : (backTo pos (starEach [e] X.env)).any (·.1) = false := by rfl)
    (hall : (backToKw pos (keywordEach [⟨some "key", .Name x p', kpos⟩] X.env)).all (·.1.isSome) = true := by rfl) (hnone : (backToKw pos (keywordEach [⟨some "key", .Name x p', kpos⟩] X.env)).any (·.1.isNone) = false := by rfl) (hks : (backToKw pos (keywordEach [⟨some "key", .Name x p', kpos⟩] X.env)).filterMap (·.1) = [Str.ofString "key"] := by rfl) :
    PE X (.Call (.Name "sorted" p) [e] [⟨some "key", .Name x p', kpos⟩] pos) (tCKw (rSortKy f) (tCons ta tNil) (tCons (tC (.ref f)) tNil)) :=
  pe_callBK (cr_sortedKy kf hr) hg hm hv (pa_cons ha pa_nil hs) (pk_cons (pe_glob hgx gx rfl hdb) pk_nil) (by decide) (by decide) he hpl hall hnone hks
end
section
variable {B : Bs} {e : Ev1} {α β γ δ ρ : Type} [Enc α] [Enc β] [Enc γ] [Enc ρ] {te td ty ta tb : TE} {t1 : TA} {tt tu : TT} {E : En ρ}
theorem evl_sortedK {f : Addr} {xs : List Str} (h : EvD B ta e xs) (hl : xs.length ≤ 1000000) (hx : ∀ x ∈ xs, x.length ≤ 10000000) : EvL B (tCKw (rSortKy f) (tCons ta tNil) (tCons (tC (.ref f)) tNil)) e (· = sortW xs) := fun σ G H ok X Q q =>
  h σ G H ok X _ fun v y G1 H1 p ok1 s1 r1 => by
    subst p
    obtain ⟨a, us, rfl, h1, h2⟩ := r1
    have e1 := paired_strs h2
    subst e1
    have h3 : Paired (Enc.rep B.K G1) ((sortW y).map V.str) (sortW y) := by
      generalize sortW y = zs
      induction zs with
      | nil => exact .nil
      | cons z zs ih => exact .cons rfl ih
    exact ⟨a, y, rfl, rfl, ok1.gh _ _ h1, hl, fun x hx' => szl (hx x hx'), newL (P := (· = sortW y)) ok1 rfl h3 fun p us xs G' H' px ok' s' => q p us xs G' H' px ok' (s1.trans s')⟩
theorem prv_of {K : PySem.W.Frag} {G : Hp} : ∀ {ws : List V} {ks : List (Int × Str)}, Paired (Enc.rep K G) ws ks → Paired (PrV K G) ws ks := fun {ws ks} h => Paired.mapP h fun v x r => by
  obtain ⟨a, u, w, h1, h2, h3, h4⟩ := r
  have h3 : u = V.int _ := h3
  have h4 : w = V.str _ := h4
  subst h3
  subst h4
  exact ⟨a, h1, h2⟩
theorem of_prv {K : PySem.W.Frag} {G : Hp} : ∀ {ws : List V} {ks : List (Int × Str)}, Paired (PrV K G) ws ks → Paired (Enc.rep K G) ws ks := fun {ws ks} h => Paired.mapP h fun v x r => by
  obtain ⟨a, h1, h2⟩ := r
  exact ⟨a, _, _, h1, h2, rfl, rfl⟩
theorem evl_sortedP {xs : List (Int × Str)} (h : EvA B t1 e (· = [vs xs])) (hl : xs.length ≤ 1000000) : EvL B (tCB (rSortPr B.K) t1) e (· = sortP xs) := fun σ G H ok X Q q =>
  h σ G H ok X _ fun us ss G1 H1 p ok1 s1 r1 => by
    subst p
    cases r1 with
    | cons ra b =>
      cases b
      obtain ⟨a, ws, rfl, h1, h2⟩ := (show Enc.rep B.K G1 _ xs from ra)
      exact ⟨a, ws, xs, G1, rfl, .inl (.inl (ok1.gh _ _ h1)), ok1.gh, prv_of h2, hl, fun p ws' hp hw => newL (P := (· = sortP xs)) ok1 rfl (of_prv hw) (fun p us xs G' H' px ok' s' => q p us xs G' H' px ok' (s1.trans s')) p hp⟩
end
end Fw

namespace FwX
open PySem L2 PySem.W PySem.Spec PyProof.Rows NdefX

/-- what is known of an exception class with an own __init__ that calls super().__init__ -/
structure XcI (P : Program) (K : Frag) (C cc cda : Addr) (F : NF) : Prop where
  T : OexC K C
  cl : F.cl = [(("__class__" : Str), cc)]
  cell : ∃ c d sl, K.lookup cc = some ⟨c, d, .cell (some (.ref C)), sl⟩
  cde : F.c = cda
  code : ∃ c d vs sl file tf, K.lookup cda = some ⟨c, d, .fields vs, sl⟩ ∧ vs[2]? = some (.str file tf) ∧ ((P.main.file : Str) == file) = true
  clsd : ∃ cd, clsIn K C = some cd
  sub : mroIn K C (.ref C) = some true
  sup : ks_superIn K C C "__init__" = some (some (.builtin "ValueError.__init__"))
  isV : subIn K (.ref C) (.type "ValueError") = some true
  opq : nsIn K cStatics "thirdparty.any" = some none
  ini : excInitIn K C [.type "ValueError", .type "Exception", .type "BaseException", .type "object"] "ValueError.__new__" = true
  top : (P.main.scope.names.lookup ("super" : Str)).isSome = false

section
variable {P : Program} {w : World} {K : Frag} {mg : Str → Option Value} {base : Heap} {CXx : CXT} {k : Nat} {C cc cda f a : Addr} {F : NF} {ps : List Str} {E : Value → Shared → Prop}
/-- super().__init__(text), evaluated; nothing that is tracked is touched -/
theorem super_init {X : Cx} {pins : List (Addr × Obj)} {σ : L2.St} {H : Hp} {s : Shared} {L : Addr} {body : List Stmt} {p0 p1 p2 p3 p4 : Pos} {msg : Str} {j : Nat} {fd : FuncData} {ar : Arg} {of : Obj} {Q : Value → Shared → Prop}
    (I : L2.Inv X pins σ H s) (XI : XcI X.prog X.K C cc cda F) (henv : X.env = envX F.qual F.scope L f (.ref F.c) F.cl) (hf : s.heap.get? f = some of) (hfd : of.data = .func fd) (hp : (fd.params.posonlyargs ++ fd.params.args).head? = some ar)
    (hN : X.N[0]? = some ar.arg) (hσ : σ[0]? = some (some (.ref a))) (lw : F.scope.names.lookup ar.arg = some NameKind.local) (hks : F.scope.names.lookup ("super" : Str) = some .globalImplicit) (hkc : F.scope.names.lookup ("__class__" : Str) = some .free)
    (hk : F.scope.kind = .function) (hm : X.mg "super" = none) (ha : H a = some (exo a C none))
    {pl : Sem Bool} (he : eval (.Call (.Attribute (.Call (.Name "super" p0) [] [] p1) "__init__" p2) [.Constant (.str msg) j p3] [] p4) X.env = (do
      let ov ← attributeBase (.Call (.Name "super" p0) [] [] p1) "__init__" X.env (eval (.Call (.Name "super" p0) [] [] p1) X.env)
      standAt p2.atName
      let (f, first) ← holding [ov] (getMethod ov "__init__" pl)
      callWith p4 f first (backTo p4 (starEach [.Constant (.str msg) j p3] X.env)) []))
    (hst : starEach [.Constant (.str msg) j p3] X.env = [(false, eval (.Constant (.str msg) j p3) X.env)])
    (q : ∀ s', L2.Inv X pins σ H s' → Q .none s') :
    PySem.wpAt (model X.prog X.w) X.A (.func body X.env) (eval (.Call (.Attribute (.Call (.Name "super" p0) [] [] p1) "__init__" p2) [.Constant (.str msg) j p3] [] p4) X.env) Q E s := by
  have KX := I.kIn
  obtain ⟨m, hn, hl'⟩ := I.loc
  obtain ⟨u, ru, l⟩ := hl' 0 ar.arg (.ref a) hN hσ (.inl (by rw [henv]; exact lw))
  have ru : u = Value.ref a := ru
  subst ru
  obtain ⟨cd, hcd⟩ := XI.clsd
  obtain ⟨oc, odc, osl, hcell⟩ := XI.cell
  obtain ⟨ccl, cdd, cvs, csl, file, tf, hcda, hvs, hfile⟩ := XI.code
  obtain ⟨oD, hD1, hD2⟩ : ∃ oD, s.heap.get? C = some oD ∧ oD.data = .cls cd := by
    unfold clsIn at hcd
    split at hcd
    · rename_i c d cd' sl ho
      cases hcd
      exact ⟨_, KX _ _ ho, rfl⟩
    · cases hcd
  obtain ⟨t1, hx⟩ := exo_at I.hok ha
  have ek : X.env.kindOf "super" = some .globalImplicit := by rw [henv]; exact hks
  have ec : X.env.kindOf "__class__" = some .free := by rw [henv]; exact hkc
  have hcl : X.env.cells.lookup ("__class__" : Str) = some cc := by
    rw [henv]
    show F.cl.lookup _ = _
    rw [XI.cl]
    rfl
  refine ks_wpAt_MethodCall (ks_wpAt_super_base ek ec (by decide) (by rw [henv]) hf hfd hp (by rw [henv, XI.cde]) (KX _ _ hcda) rfl hvs hfile XI.top ?_) he
  have hkk : X.env.scope.kind = .function := by rw [henv]; exact hk
  obtain ⟨mb, b1, b2⟩ := I.mod.blt
  refine ks_loadName_global hkk ek (Calls.loadGlobal_builtin (by rw [I.ok.glob]; exact I.mod.glob.keeps I.bk) hm (by rw [I.ok.blt]; exact b1.keeps I.bk) ((b2 _ (by decide)).trans (show bootBuiltins "super" = some (.type "super") by decide +kernel)) ⟨rfl, ?_⟩)
  refine wpAny_loadName_free hkk ec hcl ⟨_, KX _ _ hcell, rfl⟩ ?_
  have rd : ∀ {Q' : Value → Shared → Prop}, Q' (.ref a) s → wpAny (model X.prog X.w) X.A (loadName X.env ar.arg) Q' E s := fun {Q'} qq => by
    rcases l with ⟨hk2, hm2⟩ | ⟨hk2, _⟩
    · exact wpAny_loadName_local hkk hk2 hn hm2 qq
    · exfalso
      have lw2 : X.env.scope.names.lookup ar.arg = some NameKind.local := by rw [henv]; exact lw
      have hk2 : X.env.scope.names.lookup ar.arg = some NameKind.cell ∨ X.env.scope.names.lookup ar.arg = some NameKind.free := hk2
      rw [lw2] at hk2
      rcases hk2 with hk2 | hk2 <;> cases hk2
  refine rd ?_
  obtain ⟨hh, g, d, t, os⟩ := s
  refine ks_wpAny_isType_cls hD1 hD2 ⟨rfl, ?_⟩
  refine ks_wpAny_call_super hD1 hD2 hx rfl (fun c e => by cases e) (looks_mroIn KX XI.sub) (fun h1 e1 k1 => ?_)
  have K1 : X.K.In h1 := KX.keeps k1
  have I1 : InstAt h1 a ({ cls := .ref C, dict := none, data := .fields #[.ref t1, .none, .none, .none, .bool false, .none] } : Obj) C none := ⟨k1 _ _ hx, rfl, rfl, trivial⟩
  have hm1 := XI.sup
  unfold ks_superIn at hm1
  rw [hcd] at hm1
  refine kxs_getMethod kxs_ValueError e1 (looks_opaque K1 XI.opq) (l₀ := cd.mro) (fun A Q E s k q => wpAny_bind ((looks_clsIn K1 hcd) A _ E s k (wpAny_pure q))) rfl K1 hm1 (I1.type.andThen (looks_subIn K1 XI.isV)) (ks_ne K1 I1 hcd) (by decide) ?_
  rw [hst]
  refine kxs_callWith (i := "ValueError.__init__") (x := a) rfl (Calls.evalArgs_plain ?_)
  show wpAny _ _ (PySem.spliced ((false, eval (.Constant (.str msg) j p3) X.env) :: backTo p4 [])) _ _ _
  refine Calls.spliced_cons (Calls.Constant_str (Calls.spliced_nil ?_))
  obtain ⟨nm, N', qn, bs, bm, hdct, sn, sub, ab, col, dd, k0, k2, k3, k4, k5, hC, hT⟩ := excInit_of K1 XI.ini
  have up : ∀ b o, h1.get? b = some o → (h1.push (kxs_mw "ValueError.__init__" a)).get? b = some o := fun b o e => Heap.get?_push_of_some _ e
  have hu : (h1.push (kxs_mw "ValueError.__init__" a)).get? h1.objs.size = some (kxs_mw "ValueError.__init__" a) := Heap.get?_push_at rfl rfl
  refine ⟨hu, ?_⟩
  show wpAny _ _ (call (.ref h1.objs.size) [.str msg _]) _ _ _
  refine wpAny_call (codeAny_of_tree ?_)
  show wpAny _ X.A.in1 (callAny (.ref h1.objs.size) ⟨[.str msg _], []⟩) _ _ _
  simp only [callAny]
  refine wpAny_bind (wpAny_load hu ?_)
  simp only [kxs_mw, show (Value.type "method-wrapper" == Value.type "method" || Value.type "method-wrapper" == Value.type "builtin_function_or_method" || Value.type "method-wrapper" == Value.type "method-wrapper") = true by decide, if_true]
  refine KFB.if_so (by decide) ?_
  refine wpAny_bind (check_bound_init PySem.F.excBase_ValueError.toExcCallFacts (up _ _ hC) (up _ _ (k1 _ _ hx)) rfl ?_)
  refine wpAny_bind (wpAny_pure (wpAny_pure ?_))
  refine ⟨plainId_quiet PySem.F.excBase_ValueError.init.plain _, codeAny_builtin PySem.F.excBase_ValueError.initEntry ?_⟩
  refine exc_init_tree (cls := .ref C) (t0 := t1) (dv := none) (c2 := .none) (c3 := .none) (b4 := .bool false) (up _ _ (k1 _ _ hx)) (by show 1 ≤ sizeLine; decide) (fun h' k' e' _ => ?_)
  have J0 : L2.Inv X pins σ H ⟨hh, g, d, t, os⟩ := I
  have J := I.write (t' := t + 1 + 1) (x := a) (e := a) (o := exo a C none) (h' := h') (by rw [ha]; exact True.intro) (.inl rfl) (fun b o hb e => k' b o hb (up _ _ (k1 _ _ e))) ⟨_, e'⟩ (exo_ok e')
  have eu : upd H a (exo a C none) = H := by
    funext b
    by_cases hb : b = a
    · rw [hb, upd_same, ha]
    · rw [upd_ne hb]
  rw [eu] at J
  exact q _ J
/-- the call super().__init__('..') of a text -/
abbrev supCall (p0 p1 p2 p3 p4 : Pos) (msg : Str) (j : Nat) : Expr := .Call (.Attribute (.Call (.Name "super" p0) [] [] p1) "__init__" p2) [.Constant (.str msg) j p3] [] p4
/-- what is seen of the text alone -/
structure SupTx (F : NF) (fI : Addr) (p0 p1 p2 p3 p4 p5 : Pos) (msg : Str) (j : Nat) (pl : Sem Bool) : Prop where
  he : ∀ L, eval (supCall p0 p1 p2 p3 p4 msg j) (envF F fI L) = (do
      let ov ← attributeBase (.Call (.Name "super" p0) [] [] p1) "__init__" (envF F fI L) (eval (.Call (.Name "super" p0) [] [] p1) (envF F fI L))
      standAt p2.atName
      let (f, first) ← holding [ov] (getMethod ov "__init__" pl)
      callWith p4 f first (backTo p4 (starEach [.Constant (.str msg) j p3] (envF F fI L))) [])
  st : ∀ L, starEach [.Constant (.str msg) j p3] (envF F fI L) = [(false, eval (.Constant (.str msg) j p3) (envF F fI L))]
  hi : ∀ L, interactive (envF F fI L) = false
  hs : ∀ L, swapsWith (supCall p0 p1 p2 p3 p4 msg j) none p5.line (envF F fI L) = pure false
theorem fn_exc {N : List Str} {sp : Sp} {fI : Addr} {oc doc pm ct : Value} {od : Option Addr} {osl : Array (Option Value)} {p0 p1 p2 p3 p4 p5 : Pos} {msg : Str} {j : Nat} {rest : List Stmt} {ar : Arg} {pl : Sem Bool}
    (lk : K.lookup fI = some ⟨oc, od, .func (F.fd doc pm ct), osl⟩) (hcd : codeIn K (.ref F.c) F.qual = true) (S : NScope N ps [("__class__" : Str)] F.scope) (XI : XcI P K C cc cda F)
    (hb : F.body = .Expr (supCall p0 p1 p2 p3 p4 msg j) p5 :: rest) (len : ∀ vs H Q E, sp vs H Q E → vs.length = ps.length) (hself : ∀ vs H Q E, sp vs H Q E → ∃ a r, vs = .ref a :: r ∧ H a = some (exo a C none))
    (hm : mg "super" = none) (hks : F.scope.names.lookup ("super" : Str) = some .globalImplicit) (hp : (F.params.posonlyargs ++ F.params.args).head? = some ar) (h0 : ps[0]? = some ar.arg) (tx : SupTx F fI p0 p1 p2 p3 p4 p5 msg j pl)
    (hbody : ∀ (A : Around) (outer : List Env) (s : Shared) (H : Hp) (vs : List V) (Q : VK) (E : XK), Room k (A.deeper (envF F fI s.heap.objs.size)) → sp vs H Q E →
      ∃ t, PSs (ncx CXx P w K mg base N F fI A outer s H E) rest t ∧ t { nx := fun _ H' => Q .non H', rt := Q } (startF N vs [some (.ref C)]) H) :
    FnOk P w K mg base CXx (k + 1) fI (F.fd doc pm ct) ps sp := by
  refine ⟨len, fun A outer s H args us vs Q E hr e0 hbt r hsp => ?_⟩
  have KX : K.In s.heap := e0.mod.kin.keeps fun b o e => (e0.bs b o e).1
  have hl := len _ _ _ _ hsp
  have lim : s.heap.NoLimit := e0.mod.nolimit.keeps fun b o e => (e0.bs b o e).1
  obtain ⟨cl, cld, csl, hcell⟩ := XI.cell
  have C0 : CellsAt F.cl [("__class__" : Str)] [some (.ref C)] s.heap H := by
    have hc0 := e0.bs cc _ (e0.mod.kin _ _ hcell)
    rw [XI.cl]
    refine ⟨rfl, fun y c e => ?_, fun x y c e1 e2 => ?_, fun i y hi => ?_⟩
    · have e' : c = cc := by
        have := PySem.mem_of_lookup e
        simp at this
        exact this.2
      subst e'
      exact ⟨hc0.2, _, ⟨_, hc0.1, rfl⟩⟩
    · have q1 := PySem.mem_of_lookup e1
      have q2 := PySem.mem_of_lookup e2
      simp at q1 q2
      rw [q1.1, q2.1]
    · cases i with
      | zero =>
        simp at hi
        subst hi
        exact ⟨cc, rfl, fun v hv => by
          simp at hv
          subst hv
          exact ⟨.ref C, rfl, ⟨_, hc0.1, rfl⟩⟩⟩
      | succ i => simp at hi
  refine ks_codeAny_call_defAt (fd := F.fd doc pm ct) (body := F.body) (binds := ps.zip us) hr.depth (KX _ _ lk) rfl lim (PySem.W.codeRec_of KX hcd) rfl hbt S.nocell (fun ⟨n, _⟩ hy => S.par n (List.of_mem_zip hy).1) (fun h₁ hns kp => ?_) S.co S.gen S.kind
  have I : L2.Inv (ncx CXx P w K mg base N F fI A outer s H E) [] (startF N vs [some (.ref C)]) H { s with heap := h₁, toks := s.toks + (ps.zip us).length } := inv_startN S hr.hd e0 hl r C0 hns kp
  obtain ⟨a, rv, ev, ha⟩ := hself _ _ _ _ hsp
  obtain ⟨t, ht, hq⟩ := hbody A outer s H vs Q E (hr.deeper _) hsp
  have hpl : ps.length ≤ N.length := by
    have q := congrArg List.length S.pre
    rw [List.length_take, List.length_append] at q
    omega
  have hps : 0 < ps.length := (List.getElem?_eq_some_iff.mp h0).1
  have hN : N[0]? = some ar.arg := by
    have q : (N.take (ps.length + [("__class__" : Str)].length))[0]? = some ar.arg := by
      rw [S.pre, List.getElem?_append_left hps]
      exact h0
    rw [List.getElem?_take_of_lt (by omega)] at q
    exact q
  have hσ : (startF N vs [some (.ref C)])[0]? = some (some (.ref a)) := by
    subst ev
    rfl
  rw [hb]
  refine ks_wpAt_execs_cons (ks_wpAt_Expr_any (super_init (X := ncx CXx P w K mg base N F fI A outer s H E) (f := fI) I XI rfl (kp _ _ (KX _ _ lk)) rfl hp hN hσ (S.par _ (List.mem_of_getElem? h0)) hks (S.frk _ (by simp)) S.kind hm ha (tx.he _) (tx.st _) (fun s' J => ?_)) (tx.hi _) (tx.hs _))
  refine PySem.wpAt_of_wpAny (wpAny_mono (ht.run [] s' (startF N vs [some (.ref C)]) H _ J hq) (fun fl s'' hs => ?_) fun e s' hs => hs)
  have fin : ∀ {σ' : L2.St} {H' : Hp} {v : V} {u : Value}, L2.Inv (ncx CXx P w K mg base N F fI A outer s H E) [] σ' H' s'' → L2.RelV v u → Q v H' → CE outer P w H s Q u s'' :=
    fun {σ' H' v u} J rv q => ⟨v, H', J.os, J.bare, J.base, J.hok, rv, q⟩
  cases fl with
  | ret u =>
    obtain ⟨v, σ', H', J, rv, q⟩ := hs
    exact fin J rv q
  | next =>
    obtain ⟨σ', H', J, q⟩ := hs
    exact fin (v := V.non) (u := Value.none) J rfl q
  | brk =>
    obtain ⟨_, _, _, q⟩ := hs
    exact False.elim q
  | cont =>
    obtain ⟨_, _, _, q⟩ := hs
    exact False.elim q
end
end FwX

namespace Fw
open PySem L2

/-! ### an exception with fields is made and raised -/
/-- what __init__(self, ..) of such a class promises: the fields, by their names -/
def spI (C : Addr) (names : List Str) : Sp := fun us H Q _ => ∃ a vals, us = .ref a :: vals ∧ vals.length = names.length ∧ H a = some (exo a C none) ∧
  ∀ dx H2, H dx = none → dx ≠ a → H2 a = some (exo a C (some dx)) → H2 dx = some (exd dx (names.zip vals).reverse) → (∀ b, b ≠ a → b ≠ dx → H2 b = H b) → Q .non H2
theorem spI_len {C : Addr} {names : List Str} {us : List V} {H : Hp} {Q : VK} {E : XK} (h : spI C names us H Q E) : us.length = names.length + 1 := by
  obtain ⟨a, vals, rfl, h, _⟩ := h
  rw [List.length_cons, h]
structure CalX (P : Program) (w : World) (K : PySem.W.Frag) (mg : Str → Option Value) (base : Heap) (k : Nat) (C : Addr) (x : Str) (names : List Str) : Prop where
  T : OexC K C
  ex : ∃ fI fd ps, PySem.W.findIn K (.ref C) "__init__" = some (some (.ref fI)) ∧ PySem.W.typeIn K (.ref fI) = some (.type "function") ∧ FnOk P w K mg base (L2.CX P w) k fI fd ps (spI C names) ∧ Binds K fd ps []
  g : mg x = some (.ref C)
theorem ps_raiseF {X : Cx} {W : WX} {k : Nat} {x : Str} {C : Addr} {names : List Str} {e : Expr} {es : List Expr} {ta : TA} {p pos pos' : Pos} (h : CalX X.prog X.w X.K X.mg X.base k C x names) (hr : Room (k + 1) X.A) (tk : Takes X W) (ha : PA X (e :: es) ta) (hc : X.calm = true := by rfl) (hg : Gl X x := by rfl)
    (hdb : (x == ("__debug__" : Str)) = false := by decide) (he : starEach (e :: es) X.env = (false, eval e X.env) :: starEach es X.env := by rfl) (hpl : (backTo pos (starEach es X.env)).any (·.1) = false := by rfl) :
    PS X (.Raise (some (.Call (.Name x p) (e :: es) [] pos)) none pos') (fun _ σ H => tMkO C (spI C names) [] ta σ H fun cls d H' => W cls d σ H') := by
  obtain ⟨fI, fd, ps, h1, h2, F1, hb⟩ := h.ex
  exact ps_raise hc tk (pmk_oex h.T h1 h2 F1 hr hb .nil passL hg h.g ha hdb he hpl)
section
variable {B : Bs} {e : Ev1} {α β γ δ ρ : Type} [Enc α] [Enc β] [Enc γ] [Enc ρ] {te tl ta tb : TE} {t1 : TA} {tt tu : TT} {E : En ρ}
theorem zip_lookup {K : PySem.W.Frag} {G : Hp} : ∀ {names : List Str} {us : List V} {ss : List Slot} {f : Str} {s : Slot}, Reps K G us ss → (names.zip ss).lookup f = some s → ∃ v, (names.zip us).lookup f = some v ∧ s.rp K G v
  | [], _, _, _, _, _, h => by simp at h
  | _ :: _, _, _, _, _, .nil, h => by simp at h
  | n :: names, _, _, f, s, .cons (a := u) (b := t) a r, h => by
    rw [List.zip_cons_cons, List.lookup_cons] at h
    rw [List.zip_cons_cons, List.lookup_cons]
    cases e : (f == n) with
    | true =>
      rw [e] at h
      have h : t = s := Option.some.inj h
      subst h
      exact ⟨u, rfl, a⟩
    | false =>
      rw [e] at h
      exact zip_lookup r h
theorem rev_lookup : ∀ {l : List (Str × V)} {f : Str}, (l.map (·.1)).Nodup → l.reverse.lookup f = l.lookup f
  | [], _, _ => rfl
  | (n, u) :: l, f, nd => by
    rw [List.map_cons, List.nodup_cons] at nd
    rw [List.reverse_cons, List.lookup_append, rev_lookup nd.2, List.lookup_cons]
    cases e : (f == n) with
    | true =>
      have e' : f = n := by simpa using e
      subst e'
      have hn : l.lookup f = none := by
        cases q : l.lookup f with
        | none => rfl
        | some v => exact absurd (List.mem_map_of_mem (f := (·.1)) (PySem.mem_of_lookup q)) nd.1
      rw [hn]
      simp [List.lookup]
    | false =>
      have e2 : ((n, u) :: l).lookup f = l.lookup f := by rw [List.lookup_cons, e]
      rw [e2]
      cases l.lookup f <;> rfl
theorem zip_names : ∀ {names : List Str} {us : List V}, us.length = names.length → (names.zip us).map (·.1) = names
  | [], _, _ => by simp
  | _ :: _, [], h => by simp at h
  | n :: names, u :: us, h => by
    rw [List.zip_cons_cons, List.map_cons, zip_names (by simpa using h)]
theorem do_raiseF {C : Addr} {names : List Str} {ss : List Slot} (ha : EvA B t1 e (· = ss)) (hl : ss.length = names.length) (hn : names.Nodup) (hz : names.length ≤ 1000) (hx : B.xr (xdF C (names.zip ss)) e) :
    Do B (fun _ σ H => tMkO C (spI C names) [] t1 σ H fun cls d H' => B.W cls d σ H') e E := fun σ G H ok X D m =>
  ha σ G H ok X _ fun us ss' G1 H1 p ok1 s1 r1 => by
    subst p
    have hul : us.length = names.length := by rw [r1.length, hl]
    refine ⟨by omega, fun a h1a => ⟨a, us ++ [], rfl, by rw [List.append_nil, hul], upd_same, fun dx H2 hd ne h2a h2d hb => ?_⟩⟩
    rw [List.append_nil] at h2d
    have h1d : H1 dx = none := by
      rw [upd_ne ne] at hd
      exact hd
    refine ⟨rfl, dx, _, h2a, h2d, h1d, ?_⟩
    have eq : upd (del H2 a) dx (.xd (names.zip us).reverse) = upd H1 dx (.xd (names.zip us).reverse) := by
      funext b
      by_cases h1 : b = dx
      · subst h1
        rw [upd_same, upd_same]
      · rw [upd_ne h1, upd_ne h1]
        by_cases h2 : b = a
        · subst h2
          rw [del_same, h1a]
        · rw [del_ne h2, hb b h2 h1, upd_ne h2]
    rw [eq]
    have gd := ok1.gh.free h1d
    have sg : Same G1 (upd G1 dx (.xd (names.zip us).reverse)) := same_upd gd
    refine X (some dx) σ (upd G1 dx (.xd (names.zip us).reverse)) _ e (xdF C (names.zip ss')) hx (ok1.new h1d) (s1.trans sg) ⟨dx, _, rfl, upd_same, fun f s hs => ?_⟩
    obtain ⟨v, hv, rv⟩ := zip_lookup r1 hs
    exact ⟨v, by rw [rev_lookup (by rw [zip_names hul]; exact hn)]; exact hv, s.mono sg rv⟩
end

/-! ### try: .. except C as n: .. -/
/-- a caught exception as a value -/
structure Exn where
  a : Addr
  d : Option Addr
  x : XD
instance : Enc Exn where
  rep := fun K H v z => v = .ref z.a ∧ ∃ H0, Same H0 H ∧ z.x.rp K H0 z.d
  mono := fun e ⟨h1, H0, h2, h3⟩ => ⟨h1, H0, h2.trans e, h3⟩
section
variable {B : Bs} {e : Ev1} {α β γ δ ρ : Type} [Enc α] [Enc β] [Enc γ] [Enc ρ] {te tl ta tb : TE} {t1 : TA} {tt tu : TT} {E : En ρ}
theorem do_try_as {c : Value} {i : Nat} {ts : Addr → Value → Option Addr → TS} {tbody : WX → TS} {Wout : WX} (xr : XD → Ev1 → Prop) (hb : ∀ W, Do { B with W := W, xr := xr } (tbody W) e E)
    (hs : ∀ x e', xr x e' → ∃ b, PySem.W.exmOne B.K x.cls c = some b ∧
      (b = true → ∀ a d, Do B (ts a x.cls d) ⟨e'.sl.set i (va (Exn.mk a d x)), e'.cl⟩ { nx := fun e'' => E.nx ⟨e''.sl.set i none, e''.cl⟩, rt := E.rt, bk := fun e'' => E.bk ⟨e''.sl.set i none, e''.cl⟩, ct := fun e'' => E.ct ⟨e''.sl.set i none, e''.cl⟩ }) ∧
      (b = false → B.xr x e' ∧ Wout = B.W)) :
    Do B (fun D σ H => tbody (wAs B.K c i ts Wout D) D σ H) e E := fun σ G H ok X D m => by
  have ok' : Ok { B with W := wAs B.K c i ts Wout D, xr := xr } G H σ e := ⟨ok.g0, ok.gh, ok.fr, ok.al, ok.nw, ok.sr, ok.cr.nd, ok.cr.at_⟩
  have back : ∀ {G' H' : Hp} {σ' : L2.St} {e' : Ev1}, Ok { B with W := wAs B.K c i ts Wout D, xr := xr } G' H' σ' e' → Ok B G' H' σ' e' := fun {G' H' σ' e'} k => ⟨k.g0, k.gh, k.fr, k.al, k.nw, k.sr, k.cr.nd, k.cr.at_⟩
  refine hb (wAs B.K c i ts Wout D) σ G H ok' (fun d σ' G' H' e' x hx okx sx rx => ?_) D ⟨fun σ' G' H' e' h k s => m.nx σ' G' H' e' h (back k) s, fun v r σ' G' H' e' h k s rv => m.rt v r σ' G' H' e' h (back k) s rv, fun σ' G' H' e' h k s => m.bk σ' G' H' e' h (back k) s, fun σ' G' H' e' h k s => m.ct σ' G' H' e' h (back k) s⟩
  obtain ⟨b, h1, h2, h3⟩ := hs x e' hx
  refine ⟨b, h1, fun hb a ha => ?_, fun hb => ?_⟩
  · have k := (back okx).set i (v := .ref a) (s := vs (Exn.mk a d x)) ⟨rfl, G', Same.refl _, rx⟩
    exact h2 hb a d _ G' H' k (X.mono sx) _ ⟨fun σ5 G5 H5 e5 h5 k5 s5 => m.nx _ G5 H5 _ h5 (k5.setNo i none) (sx.trans s5), fun v5 r5 σ5 G5 H5 e5 h5 k5 s5 rv => m.rt v5 r5 σ5 G5 H5 e5 h5 k5 (sx.trans s5) rv,
      fun σ5 G5 H5 e5 h5 k5 s5 => m.bk _ G5 H5 _ h5 (k5.setNo i none) (sx.trans s5), fun σ5 G5 H5 e5 h5 k5 s5 => m.ct _ G5 H5 _ h5 (k5.setNo i none) (sx.trans s5)⟩
  · obtain ⟨hx', hw⟩ := h3 hb
    subst hw
    exact X d σ' G' H' e' x hx' (back okx) sx rx
/-- .. except C: .. -/
theorem do_try_only {c : Value} {ts : Addr → Value → Option Addr → TS} {tbody : WX → TS} {Wout : WX} (xr : XD → Ev1 → Prop) (hb : ∀ W, Do { B with W := W, xr := xr } (tbody W) e E)
    (hs : ∀ x e', xr x e' → ∃ b, PySem.W.exmOne B.K x.cls c = some b ∧ (b = true → ∀ a d, Do B (ts a x.cls d) e' E) ∧ (b = false → B.xr x e' ∧ Wout = B.W)) :
    Do B (fun D σ H => tbody (wOnly B.K c ts Wout D) D σ H) e E := fun σ G H ok X D m => by
  have ok' : Ok { B with W := wOnly B.K c ts Wout D, xr := xr } G H σ e := ⟨ok.g0, ok.gh, ok.fr, ok.al, ok.nw, ok.sr, ok.cr.nd, ok.cr.at_⟩
  have back : ∀ {G' H' : Hp} {σ' : L2.St} {e' : Ev1}, Ok { B with W := wOnly B.K c ts Wout D, xr := xr } G' H' σ' e' → Ok B G' H' σ' e' := fun {G' H' σ' e'} k => ⟨k.g0, k.gh, k.fr, k.al, k.nw, k.sr, k.cr.nd, k.cr.at_⟩
  refine hb (wOnly B.K c ts Wout D) σ G H ok' (fun d σ' G' H' e' x hx okx sx rx => ?_) D ⟨fun σ' G' H' e' h k s => m.nx σ' G' H' e' h (back k) s, fun v r σ' G' H' e' h k s rv => m.rt v r σ' G' H' e' h (back k) s rv, fun σ' G' H' e' h k s => m.bk σ' G' H' e' h (back k) s, fun σ' G' H' e' h k s => m.ct σ' G' H' e' h (back k) s⟩
  obtain ⟨b, h1, h2, h3⟩ := hs x e' hx
  refine ⟨b, h1, fun hb a ha => h2 hb a d σ' G' H' (back okx) (X.mono sx) D (m.mono sx), fun hb => ?_⟩
  obtain ⟨hx', hw⟩ := h3 hb
  subst hw
  exact X d σ' G' H' e' x hx' (back okx) sx rx
end

/-! ### isinstance(e, C), e.field -/
structure XkC (K : PySem.W.Frag) (D : Addr) : Prop where
  cl : (PySem.W.clsIn K D).isSome = true
  ga : PySem.W.findIn K (.ref D) "__getattribute__" = some (some (.builtin "BaseException.__getattribute__"))
  gg : PySem.W.findIn K (.ref D) "__getattr__" = some none
  sb : PySem.W.subIn K (.ref D) (.type "BaseException") = some true
  ca : PySem.W.findIn K (.ref D) "__class__" = some (some (.builtin "object.__class__"))
  cn : PySem.W.specialIn K (.builtin "object.__class__") "__get__" = some (some (.builtin "getset_descriptor.__get__"))
  ct : PySem.W.takesIn K (.builtin "object.__class__") = some true
  cm : PySem.W.mroIn K D (.type "object") = some true
  hd : PySem.W.hasDictIn K D = true
def DictOk (H : Hp) : Option Addr → Prop
  | none => True
  | some dd => ∃ fs, H dd = some (.xd fs)
def rIsX (K : PySem.W.Frag) (D a : Addr) (d : Option Addr) : List V → Hp → VK → Prop := fun xs H Q => ∃ (c : V) (cv : Value) (b : Bool), xs = [.ref a, c] ∧ (∀ u, RelV c u → u = cv) ∧ DictOk H d ∧ PySem.W.kitOne K (.ref D) cv = some b ∧ Q (.bl b) H
theorem call_isX {X : Cx} {a D : Addr} {d : Option Addr} {oe : Obj} {pn : List (Addr × Obj)} (C : XkC X.K D) (hz : Zc (.ref D) d oe) (hf : ∃ vs, oe.data = .fields vs) : CallR (X.suite a ((a, oe) :: pn)) (.builtin "isinstance") (rIsX X.K D a d) := by
  intro pins s σ H xs us Q I r h
  obtain ⟨c, cv, b, rfl, hcv, hdk, e, q⟩ := h
  cases r with
  | cons rx rr =>
    cases rr with
    | cons rt rr =>
      cases rr
      cases rx
      have ec := hcv _ rt
      subst ec
      obtain ⟨hget, _⟩ := I.pin (a, oe) (List.mem_append.mpr (.inl List.mem_cons_self))
      obtain ⟨vs, hv⟩ := hf
      have J : ∃ od, PySem.W.InstAt s.heap a oe D od := by
        cases d with
        | none =>
          refine ⟨none, ?_⟩
          obtain ⟨oc, od, oda, osl⟩ := oe
          obtain ⟨h1, h2⟩ := hz
          dsimp only at h1 h2 hv
          subst h1 h2 hv
          exact ⟨hget, rfl, rfl, trivial⟩
        | some dd =>
          obtain ⟨fs, ea⟩ := hdk
          have hx : ObjOk X.prog X.w H s.heap dd (.xd fs) := I.hok dd _ ea
          obtain ⟨mA, hns, hr⟩ := hx
          obtain ⟨od, ho, hl⟩ := lookIn_ns hns
          exact ⟨some od, hget, hz.1, by unfold PySem.W.notCls; rw [hv] <;> rfl, by rw [hz.2]; exact ho⟩
      obtain ⟨od, J⟩ := J
      exact PySem.W.kia_one (PySem.W.kitx_exc C.cl C.ga C.gg C.sb C.ca C.cn C.ct C.cm) I.kIn J e (fun z => nomatch z) fun tk => ⟨.bl b, H, I.kept (t' := tk) fun _ _ z => z, rfl, q⟩
section
variable {B : Bs} {e : Ev1} {α β γ δ ρ : Type} [Enc α] [Enc β] [Enc γ] [Enc ρ] {te tl ta tb : TE} {t1 : TA} {tt tu : TT} {E : En ρ}
theorem rp_dict {K : PySem.W.Frag} {H0 H : Hp} {C : Addr} {fs : List (Str × Slot)} {d : Option Addr} (s : Same H0 H) (h : (xdF C fs).rp K H0 d) : DictOk H d := by
  obtain ⟨dd, vs, rfl, h1, _⟩ := h
  exact ⟨vs, s _ _ h1⟩
/-- the class is written -/
theorem ev_isX {D C a : Addr} {d : Option Addr} {x : XD} {b : Bool} (h : EvD B te e (Exn.mk a d x)) (hk : PySem.W.kitOne B.K (.ref D) (.ref C) = some b) (hd : x = xdP D ∨ ∃ fs, x = xdF D fs) : EvD B (tCB (rIsX B.K D a d) (tCons te (tCons (tC (.ref C)) tNil))) e b := fun σ G H ok X Q q =>
  h σ G H ok X _ fun v y G1 H1 p ok1 s1 r1 => by
    subst p
    obtain ⟨e1, H0, s0, r0⟩ := r1
    have e1 : v = V.ref a := e1
    subst e1
    refine ⟨.ref C, .ref C, b, rfl, fun u hu => hu, ?_, hk, q _ b G1 H1 rfl ok1 s1 rfl⟩
    rcases hd with rfl | ⟨fs, rfl⟩
    · have r0 : d = none := r0
      subst r0
      trivial
    · exact rp_dict (s0.trans ok1.gh) r0
theorem ev_xf {D a : Addr} {d : Option Addr} {fs : List (Str × Slot)} {f : Str} {y : α} (h : EvD B te e (Exn.mk a d (xdF D fs))) (hf : fs.lookup f = some (vs y)) : EvD B (tXf a (.ref D) d D f te) e y := fun σ G H ok X Q q =>
  h σ G H ok X _ fun v z G1 H1 p ok1 s1 r1 => by
    subst p
    obtain ⟨e1, H0, s0, dd, ws, e2, h1, h2⟩ := r1
    have e1 : v = V.ref a := e1
    subst e1
    have e2 : d = some dd := e2
    subst e2
    obtain ⟨u, h3, h4⟩ := h2 f _ hf
    exact ⟨rfl, rfl, dd, ws, u, rfl, ok1.gh _ _ (s0 _ _ h1), h3, q u y G1 H1 rfl ok1 s1 (Enc.mono s0 h4)⟩
end
end Fw

namespace Fw
open PySem L2 NdefX
/-- self.n1 = n1 -/
theorem init_read1 {K : PySem.W.Frag} {C : Addr} {n1 : Str} {us : List V} {ws : List (Option V)} {H : Hp} {Q : VK} {E : XK} {N : List Str} (h : spI C [n1] us H Q E) (T : OexC K C) (f1 : PySem.W.findIn K (.ref C) n1 = some none) :
    tOst K n1 (tVar 0) (tVar 1) { nx := fun _ H' => Q .non H', rt := Q } (startF N us ws) H := by
  obtain ⟨a, vals, rfl, hl, ha, q⟩ := h
  match vals, hl with
  | [v1], _ =>
    refine ⟨v1, rfl, .ref a, rfl, a, C, rfl, T, f1, .inl ⟨ha, fun dx hd ne => ?_⟩⟩
    exact q dx _ hd ne (by rw [upd_same]) (by rw [upd_ne ne, upd_same]; rfl) fun b h1 h2 => by rw [upd_ne h1, upd_ne h2]
/-- self.n1 = n1; self.n2 = n2 -/
theorem init_read2 {K : PySem.W.Frag} {C : Addr} {n1 n2 : Str} {us : List V} {ws : List (Option V)} {H : Hp} {Q : VK} {E : XK} {N : List Str} (h : spI C [n1, n2] us H Q E) (T : OexC K C) (f1 : PySem.W.findIn K (.ref C) n1 = some none) (f2 : PySem.W.findIn K (.ref C) n2 = some none) :
    tSeq (tOst K n1 (tVar 0) (tVar 1)) (tOst K n2 (tVar 0) (tVar 2)) { nx := fun _ H' => Q .non H', rt := Q } (startF N us ws) H := by
  obtain ⟨a, vals, rfl, hl, ha, q⟩ := h
  match vals, hl with
  | [v1, v2], _ =>
    refine ⟨v1, rfl, .ref a, rfl, a, C, rfl, T, f1, .inl ⟨ha, fun dx hd ne => ?_⟩⟩
    have e1 : (upd (upd H dx (exd dx [(n1, v1)])) a (exo a C (some dx))) dx = some (exd dx [(n1, v1)]) := by rw [upd_ne ne, upd_same]
    refine ⟨v2, rfl, .ref a, rfl, a, C, rfl, T, f2, .inr ⟨dx, [(n1, v1)], by rw [upd_same], e1, by show 1 ≤ 900; omega, ?_⟩⟩
    exact q dx _ hd ne (by rw [upd_ne (Ne.symm ne), upd_same]) (by rw [upd_same]; rfl) fun b h1 h2 => by rw [upd_ne h2, upd_ne h1, upd_ne h2]
end Fw

namespace Fw
open PySem L2
/-- fewer slots are told -/
def WkL : List (Option Slot) → List (Option Slot) → Prop
  | [], [] => True
  | a :: r, b :: r' => (b = none ∨ a = b) ∧ WkL r r'
  | _, _ => False
theorem WkL.len : ∀ {l l' : List (Option Slot)}, WkL l l' → l'.length = l.length
  | [], [], _ => rfl
  | _ :: _, _ :: _, h => by rw [List.length_cons, List.length_cons, WkL.len h.2]
  | [], _ :: _, h => h.elim
  | _ :: _, [], h => h.elim
theorem WkL.get : ∀ {l l' : List (Option Slot)}, WkL l l' → ∀ (i : Nat) (s : Slot), l'[i]? = some (some s) → l[i]? = some (some s)
  | [], [], _, _, _, h => by simp at h
  | a :: r, b :: r', ⟨h, t⟩, 0, s, e => by
    simp at e ⊢
    rcases h with h | h
    · rw [h] at e; cases e
    · rw [h]; exact e
  | a :: r, b :: r', ⟨h, t⟩, i + 1, s, e => by
    simp at e ⊢
    exact WkL.get t i s e
  | [], _ :: _, h, _, _, _ => h.elim
  | _ :: _, [], h, _, _, _ => h.elim
theorem WkL.refl : ∀ l : List (Option Slot), WkL l l
  | [] => trivial
  | _ :: r => ⟨.inr rfl, WkL.refl r⟩
def Wk (e e0 : Ev1) : Prop := WkL e.sl e0.sl ∧ e.cl = e0.cl
section
variable {B : Bs} {e : Ev1} {α β γ ρ : Type} [Enc α] [Enc β] [Enc γ] [Enc ρ] {te tl ta : TE} {tt c : TT} {t u tb : TS} {E : En ρ} {wi : TI} {g : TG} {js : List Nat} {f : α → List (Option Slot) → List (Option Slot)} {xs : List α}
theorem Ok.wk {G H : Hp} {σ : L2.St} {e e0 : Ev1} (ok : Ok B G H σ e) (h : Wk e e0) : Ok B G H σ e0 := by
  obtain ⟨h1, h2⟩ := h
  obtain ⟨sl, cl⟩ := e
  obtain ⟨sl0, cl0⟩ := e0
  have h2 : cl = cl0 := h2
  subst h2
  exact ok.weak (WkL.len h1) (WkL.get h1)
theorem do_wk {e0 : Ev1} (h : Wk e e0) (d : Do B t e0 E) : Do B t e E := fun σ G H ok X D m => d σ G H (ok.wk h) X D m
theorem do_forW (hi : EvI B wi e xs) (hg : EvG B g js f) (Inv : List α → Ev1 → Prop) (h0 : ∃ e0, Wk e e0 ∧ Inv [] e0)
    (hs : ∀ pre x post e', xs = pre ++ x :: post → Inv pre e' → Do B tb ⟨f x e'.sl, e'.cl⟩ { nx := fun e1 => ∃ e0, Wk e1 e0 ∧ Inv (pre ++ [x]) e0, rt := E.rt, bk := E.nx, ct := fun e1 => ∃ e0, Wk e1 e0 ∧ Inv (pre ++ [x]) e0 })
    (hd : ∀ e', Inv xs e' → E.nx e') : Do B (tFor wi g tb) e E := fun σ G H ok X D m =>
  hi σ G H ok X _ fun J G1 H1 ok1 s1 gv => by
    obtain ⟨ei, wki, invi⟩ := h0
    refine ⟨fun i n σ H => ∃ G e', n = xs.length - i ∧ i ≤ xs.length ∧ Ok B G H σ e' ∧ Same G1 G ∧ Inv (xs.take i) e', ⟨xs.length, G1, ei, by simp, Nat.zero_le _, ok1.wk wki, Same.refl _, by rw [List.take_zero]; exact invi⟩, ?_⟩
    rintro i n σ2 H2 ⟨G2, e2, rfl, hi2, ok2, s2, inv⟩
    obtain ⟨g1, g2, g3⟩ := gv H2 (s2.trans ok2.gh) i
    by_cases hlt : i < xs.length
    · refine .inr ⟨g1 hlt, fun σ H => ∃ G e', Ok B G H σ e' ∧ Same G1 G ∧ Inv (xs.take (i + 1)) e', fun σ' H' ⟨G', e', k1, k2, k3⟩ => ⟨xs.length - (i + 1), by omega, G', e', rfl, hlt, k1, k2, k3⟩, fun v H' hy => ?_⟩
      have hx : xs[i]? = some xs[i] := List.getElem?_eq_getElem hlt
      have split : xs = xs.take i ++ xs[i] :: xs.drop (i + 1) := by rw [← List.drop_eq_getElem_cons hlt, List.take_append_drop]
      have tk1 : xs.take (i + 1) = xs.take i ++ [xs[i]] := by rw [List.take_add_one, hx]; rfl
      have fin : ∀ G3, Ok B G3 H' σ2 e2 → Same G1 G3 → Same G2 G3 → Enc.rep B.K G3 v xs[i] → g v σ2 H' fun σ3 H3 => tb { D with nx := fun σ H => ∃ G e', Ok B G H σ e' ∧ Same G1 G ∧ Inv (xs.take (i + 1)) e', ct := fun σ H => ∃ G e', Ok B G H σ e' ∧ Same G1 G ∧ Inv (xs.take (i + 1)) e', bk := D.nx } σ3 H3 := fun G3 ok3 s13 s23 r3 =>
        hg σ2 G3 H' e2 ok3 v _ r3 _ fun σ3 ok4 _ => by
          refine hs (xs.take i) xs[i] (xs.drop (i + 1)) e2 split inv σ3 G3 H' ok4 (X.mono (s1.trans s13)) _ ⟨fun σ5 G5 H5 e5 ⟨e0, w5, h5⟩ ok5 s5 => ⟨G5, e0, ok5.wk w5, s13.trans s5, by rw [tk1]; exact h5⟩, fun v5 r5 σ5 G5 H5 e5 h5 ok5 s5 => m.rt v5 r5 σ5 G5 H5 e5 h5 ok5 ((s1.trans s13).trans s5),
            fun σ5 G5 H5 e5 h5 ok5 s5 => m.nx σ5 G5 H5 e5 h5 ok5 ((s1.trans s13).trans s5), fun σ5 G5 H5 e5 ⟨e0, w5, h5⟩ ok5 s5 => ⟨G5, e0, ok5.wk w5, s13.trans s5, by rw [tk1]; exact h5⟩⟩
      rcases g3 _ v H' hx hy with ⟨rfl, r⟩ | ⟨T, o, hT, rfl, r⟩
      · exact fin G2 ok2 s2 (Same.refl _) (Enc.mono s2 r)
      · have gT : G2 T = none := ok2.gh.free hT
        exact fin (upd G2 T o) (ok2.new hT) (s2.trans (same_upd gT)) (same_upd gT) (Enc.mono (same_upd2 s2) r)
    · have e3 : i = xs.length := by omega
      subst e3
      rw [List.take_length] at inv
      exact .inl ⟨g2 (Nat.le_refl _), m.nx σ2 G2 H2 e2 (hd e2 inv) ok2 (s1.trans s2)⟩
theorem do_whileW {c : TT} {tb : TS} {ι : Type} (st : ι → Ev1) (word : ι → Prop) (meas : ι → Nat) (i0 : ι) (h0 : word i0) (he : Wk e (st i0))
    (hs : ∀ i, word i → ∃ b, EvTD B c (st i) b ∧ (b = true → Do B tb (st i) { nx := fun e' => ∃ i', word i' ∧ meas i' < meas i ∧ Wk e' (st i'), rt := E.rt, bk := E.nx, ct := fun e' => ∃ i', word i' ∧ meas i' < meas i ∧ Wk e' (st i') }) ∧ (b = false → E.nx (st i))) :
    Do B (tWhile c tb) e E := fun σ G H ok X D m => by
  refine ⟨fun n σ H => ∃ G' i, n = meas i ∧ word i ∧ Ok B G' H σ (st i) ∧ Same G G', ⟨meas i0, G, i0, rfl, h0, ok.wk he, Same.refl _⟩, ?_⟩
  rintro n σ2 H2 ⟨G2, i, rfl, hw, ok2, s2⟩
  obtain ⟨b, ev, h1, h2⟩ := hs i hw
  refine ev σ2 G2 H2 ok2 (X.mono s2) _ fun b' G3 H3 pb ok3 s3 => ?_
  subst pb
  cases b' with
  | false => exact iteF (m.nx σ2 G3 H3 _ (h2 rfl) ok3 (s2.trans s3))
  | true =>
    refine iteT ⟨fun σ H => ∃ G' i', word i' ∧ meas i' < meas i ∧ Ok B G' H σ (st i') ∧ Same G G', fun σ' H' ⟨G', i', a1, a2, a3, a4⟩ => ⟨meas i', a2, G', i', rfl, a1, a3, a4⟩, ?_⟩
    exact h1 rfl σ2 G3 H3 ok3 (X.mono (s2.trans s3)) _ ⟨fun σ5 G5 H5 e5 ⟨i', k1, k2, k3⟩ ok5 s5 => ⟨G5, i', k1, k2, ok5.wk k3, (s2.trans s3).trans s5⟩, fun v5 r5 σ5 G5 H5 e5 h5 ok5 s5 => m.rt v5 r5 σ5 G5 H5 e5 h5 ok5 ((s2.trans s3).trans s5),
      fun σ5 G5 H5 e5 h5 ok5 s5 => m.nx σ5 G5 H5 e5 h5 ok5 ((s2.trans s3).trans s5), fun σ5 G5 H5 e5 ⟨i', k1, k2, k3⟩ ok5 s5 => ⟨G5, i', k1, k2, ok5.wk k3, (s2.trans s3).trans s5⟩⟩
end
end Fw

namespace Fw
open PySem L2
section
variable {B : Bs} {e : Ev1} {α β γ ρ : Type} [Enc α] [Enc β] [Enc γ] [Enc ρ] {te tl ta : TE} {tt tu : TT} {t u tb : TS} {E : En ρ}
/-- a test: what is known where it holds, what where it fails -/
def EvTX (B : Bs) (tt : TT) (e : Ev1) (Pt Pf : Prop) : Prop := EvT B tt e (fun b => (b = true → Pt) ∧ (b = false → Pf))
theorem etx_leaf {P : Bool → Prop} {Pt Pf : Prop} (h : EvT B tt e P) (h1 : P true → Pt) (h2 : P false → Pf) : EvTX B tt e Pt Pf := h.mono fun b p => ⟨fun q => h1 (q ▸ p), fun q => h2 (q ▸ p)⟩
theorem etx_or {Pt Pf Qt Qf : Prop} (h1 : EvTX B tt e Pt Pf) (h2 : Pf → EvTX B tu e Qt Qf) : EvTX B (tOr tt tu) e (Pt ∨ Qt) (Pf ∧ Qf) :=
  et_or h1 (fun p => h2 (p.2 rfl)) (fun p => ⟨fun _ => .inl (p.1 rfl), fun q => absurd q.symm Bool.false_ne_true⟩) fun p b q => ⟨fun hb => .inr (q.1 hb), fun hb => ⟨p.2 rfl, q.2 hb⟩⟩
theorem etx_and {Pt Pf Qt Qf : Prop} (h1 : EvTX B tt e Pt Pf) (h2 : Pt → EvTX B tu e Qt Qf) : EvTX B (tAnd tt tu) e (Pt ∧ Qt) (Pf ∨ Qf) :=
  et_and h1 (fun p => h2 (p.1 rfl)) (fun p => ⟨fun q => absurd q Bool.false_ne_true, fun _ => .inl (p.2 rfl)⟩) fun p b q => ⟨fun hb => ⟨p.1 rfl, q.1 hb⟩, fun hb => .inr (q.2 hb)⟩
theorem etx_not {Pt Pf : Prop} (h : EvTX B tt e Pt Pf) : EvTX B (tNot tt) e Pf Pt := (et_not h).mono fun b p => ⟨fun q => p.2 (by rw [q]; rfl), fun q => p.1 (by rw [q]; rfl)⟩
theorem do_ifX {Pt Pf : Prop} (h : EvTX B tt e Pt Pf) (h1 : Pt → Do B t e E) (h2 : Pf → Do B u e E) : Do B (tIfS tt t u) e E := do_if h (fun p => h1 (p.1 rfl)) fun p => h2 (p.2 rfl)

/-- a word between two statements -/
theorem do_seqJ (M : Ev1 → Prop) (h : Do B t e { E with nx := fun e1 => ∃ e0, Wk e1 e0 ∧ M e0 }) (k : ∀ e0, M e0 → Do B u e0 E) : Do B (tSeq t u) e E :=
  do_seq (h.mono (fun _ ⟨e0, w, m⟩ => do_wk w (k e0 m)) (fun _ _ q => q) (fun _ q => q) (fun _ q => q))

/-! ### a text's sign at any place -/
def ixAny (n : Nat) (i : Int) : Nat := if 0 ≤ i then i.toNat else (i + n).toNat
theorem ixN_any {n : Nat} {i : Int} (h : -(n : Int) ≤ i ∧ i < n) : ixN n i = some (ixAny n i) := by
  unfold ixAny
  by_cases h0 : 0 ≤ i
  · rw [if_pos h0]
    exact ixN_nn h0 h.2
  · rw [if_neg h0]
    exact ixN_ng (by omega) h.1
theorem r2_ixSg {z : Str} {i : Int} (hz : z.length ≤ 10000000) (h : -(z.length : Int) ≤ i ∧ i < z.length) : R2V B e rIxS z i (· = sgnAt z (ixAny z.length i)) := r2_ixS hz (ixN_any h)

/-! ### [e for x in xs for y in ys] -/
variable {wi wi1 : TI} {g g1 : TG} {js js1 : List Nat} {f : α → List (Option Slot) → List (Option Slot)} {f1 : β → List (Option Slot) → List (Option Slot)} {xs : List α}
theorem sub_mem {vs1 ws : List Nat} (h : ∀ j ∈ vs1, j ∈ ws) : ∀ j ∈ vs1, j ∈ ws := h
theorem evl_lc2D {ws vs1 : List Nat} {ys : α → List β} {h : α → β → γ} (hi : EvI B wi e xs) (hg : EvG B g js f) (hj : ∀ j ∈ js, j ∈ ws) (hv : ∀ j ∈ vs1, j ∈ ws) (hg1 : EvG B g1 js1 f1) (hj1 : ∀ j ∈ js1, j ∈ vs1)
    (hl : ∀ n, n ≤ xs.length → ((xs.take n).flatMap fun x => (ys x).map (h x)).length ≤ 1000000) (hl1 : ∀ x ∈ xs, (ys x).length ≤ 1000000)
    (hi1 : ∀ pre x post, xs = pre ++ x :: post → ∀ dc, EvI B wi1 ⟨f x (wipeE e.sl ws), e.cl ++ [dc]⟩ (ys x))
    (he : ∀ pre x post, xs = pre ++ x :: post → ∀ pre1 y post1, ys x = pre1 ++ y :: post1 → ∀ dc, EvD B te ⟨f1 y (wipeE (f x (wipeE e.sl ws)) vs1), e.cl ++ [dc]⟩ (h x y)) :
    EvL B (tLc2 wi g tYes wi1 g1 tYes te ws vs1) e (· = xs.flatMap fun x => (ys x).map (h x)) := fun σ G H ok X Q q =>
  hi σ G H ok X _ fun J G1 H1 ok1 s1 gv => fun D hD => by
    have ak : ∀ {G H : Hp} {zs : List γ}, Ok B G H σ ⟨e.sl, e.cl ++ [(D, ownL zs)]⟩ → (⟨e.sl, e.cl ++ [(D, ownL zs)]⟩ : Ev1).cl[e.cl.length]? = some (D, ownL zs) := fun _ => by
      show (e.cl ++ [(D, ownL _)])[e.cl.length]? = _
      rw [List.getElem?_append_right (Nat.le_refl _), Nat.sub_self]
      rfl
    refine ⟨fun i n H => ∃ G2, n = xs.length - i ∧ i ≤ xs.length ∧ Ok B G2 H σ ⟨e.sl, e.cl ++ [(D, ownL ((xs.take i).flatMap fun x => (ys x).map (h x)))]⟩ ∧ B.H0 D = none ∧ Same G1 G2, ⟨xs.length, G1, by simp, Nat.zero_le _, ?_, ok1.al D hD, Same.refl _⟩, ?_⟩
    · exact (ok1.newH hD).addEnd (ok1.gh.free hD) upd_same (ok1.al D hD) (fun c hc => by
        obtain ⟨_, _, o', h3, _⟩ := ok1.cr.at_ c hc
        exact ne_of_none h3 hD) rfl ⟨[], rfl, .nil⟩
    rintro i n H2 ⟨G2, rfl, hi2, ok2, hD0, s2⟩
    obtain ⟨g1', g2', g3'⟩ := gv H2 (s2.trans ok2.gh) i
    by_cases hlt : i < xs.length
    · refine .inr ⟨g1' hlt, fun H => ∃ G2, Ok B G2 H σ ⟨e.sl, e.cl ++ [(D, ownL ((xs.take (i + 1)).flatMap fun x => (ys x).map (h x)))]⟩ ∧ Same G1 G2, fun H' ⟨G', k1, k2⟩ => ⟨xs.length - (i + 1), by omega, G', rfl, hlt, k1, hD0, k2⟩, fun v H' hyl => ?_⟩
      have hx : xs[i]? = some xs[i] := List.getElem?_eq_getElem hlt
      have split : xs = xs.take i ++ xs[i] :: xs.drop (i + 1) := by rw [← List.drop_eq_getElem_cons hlt, List.take_append_drop]
      have tk1 : (xs.take (i + 1)).flatMap (fun x => (ys x).map (h x)) = (xs.take i).flatMap (fun x => (ys x).map (h x)) ++ (ys xs[i]).map (h xs[i]) := by
        rw [List.take_add_one, hx, List.flatMap_append]
        show _ ++ (([xs[i]] : List α).flatMap _) = _
        rw [List.flatMap_cons, List.flatMap_nil, List.append_nil]
      have fin : ∀ G3, Ok B G3 H' σ ⟨e.sl, e.cl ++ [(D, ownL ((xs.take i).flatMap fun x => (ys x).map (h x)))]⟩ → Same G1 G3 → Enc.rep B.K G3 v xs[i] → g v (wipe σ ws) H' fun σ2 H2 => wipe σ2 ws = wipe σ ws ∧ tYes σ2 H2 fun b H3 =>
          if b = true then wi1 σ2 H3 fun J1 H4 => ∃ W1 : Nat → Nat → Hp → Prop, (∃ m, W1 0 m H4) ∧ ∀ j k H, W1 j k H →
            (J1.stop j H ∧ (∃ G2, Ok B G2 H σ ⟨e.sl, e.cl ++ [(D, ownL ((xs.take (i + 1)).flatMap fun x => (ys x).map (h x)))]⟩ ∧ Same G1 G2)) ∨ (J1.go j H ∧ ∃ Nx1 : Hp → Prop, (∀ H', Nx1 H' → ∃ k', k' < k ∧ W1 (j + 1) k' H') ∧ ∀ x H', J1.yld j H x H' → g1 x (wipe σ2 vs1) H' fun σ3 H5 => wipe σ3 vs1 = wipe σ2 vs1 ∧ tYes σ3 H5 fun b H6 =>
              if b = true then te σ3 H6 fun y H7 => ∃ acc, H7 D = some (.lst acc) ∧ acc.length < sizeLine ∧ Nx1 (upd H7 D (.lst (acc ++ [y]))) else Nx1 H6)
          else (∃ G2, Ok B G2 H3 σ ⟨e.sl, e.cl ++ [(D, ownL ((xs.take (i + 1)).flatMap fun x => (ys x).map (h x)))]⟩ ∧ Same G1 G2) := fun G3 ok3 s13 r3 => by
        have ok3w : Ok B G3 H' (wipe σ ws) ⟨wipeE e.sl ws, e.cl ++ [(D, ownL ((xs.take i).flatMap fun x => (ys x).map (h x)))]⟩ := ⟨ok3.g0, ok3.gh, ok3.fr, ok3.al, ok3.nw, sr_wipe ok3.sr ws, ok3.cr⟩
        refine hg (wipe σ ws) G3 H' _ ok3w v _ r3 _ fun σ3 ok4 hw => ⟨by rw [hw ws hj, wipe_idem ws ws fun _ h => h], ?_⟩
        unfold tYes
        show (if true = true then _ else _)
        rw [if_pos rfl]
        refine hi1 _ _ _ split (D, ownL ((xs.take i).flatMap fun x => (ys x).map (h x))) σ3 G3 H' ok4 (X.mono (s1.trans s13)) _ fun J1 G4 H4 ok5 s4 gv1 => ?_
        have back : ∀ {G5 H5 : Hp} {σ' : L2.St} {sl : List (Option Slot)} {cl : List (Addr × Cell)}, Ok B G5 H5 σ' ⟨sl, cl⟩ → Same G3 G5 → Ok B G5 H5 σ ⟨e.sl, cl⟩ := fun {G5 H5 σ' sl cl} k s5 => ⟨k.g0, k.gh, k.fr, k.al, k.nw, ok3.sr.mono s5, k.cr⟩
        refine ⟨fun j k H => ∃ G5, k = (ys xs[i]).length - j ∧ j ≤ (ys xs[i]).length ∧ Ok B G5 H σ3 ⟨f xs[i] (wipeE e.sl ws), e.cl ++ [(D, ownL (((xs.take i).flatMap fun x => (ys x).map (h x)) ++ ((ys xs[i]).take j).map (h xs[i])))]⟩ ∧ Same G4 G5, ⟨(ys xs[i]).length, G4, by simp, Nat.zero_le _, by simpa using ok5, Same.refl _⟩, ?_⟩
        rintro j k H6 ⟨G5, rfl, hj2, ok6, s5⟩
        obtain ⟨k1, k2, k3⟩ := gv1 H6 (s5.trans ok6.gh) j
        by_cases hlt1 : j < (ys xs[i]).length
        · refine .inr ⟨k1 hlt1, fun H => ∃ G5, Ok B G5 H σ3 ⟨f xs[i] (wipeE e.sl ws), e.cl ++ [(D, ownL (((xs.take i).flatMap fun x => (ys x).map (h x)) ++ ((ys xs[i]).take (j + 1)).map (h xs[i])))]⟩ ∧ Same G4 G5, fun H' ⟨G', a1, a2⟩ => ⟨(ys xs[i]).length - (j + 1), by omega, G', rfl, hlt1, a1, a2⟩, fun v7 H7 hy7 => ?_⟩
          have hx1 : (ys xs[i])[j]? = some (ys xs[i])[j] := List.getElem?_eq_getElem hlt1
          have split1 : ys xs[i] = (ys xs[i]).take j ++ (ys xs[i])[j] :: (ys xs[i]).drop (j + 1) := by rw [← List.drop_eq_getElem_cons hlt1, List.take_append_drop]
          have tk2 : ((ys xs[i]).take (j + 1)).map (h xs[i]) = ((ys xs[i]).take j).map (h xs[i]) ++ [h xs[i] (ys xs[i])[j]] := by
            rw [List.take_add_one, hx1, List.map_append]
            rfl
          have fin1 : ∀ G8, Ok B G8 H7 σ3 ⟨f xs[i] (wipeE e.sl ws), e.cl ++ [(D, ownL (((xs.take i).flatMap fun x => (ys x).map (h x)) ++ ((ys xs[i]).take j).map (h xs[i])))]⟩ → Same G4 G8 → Enc.rep B.K G8 v7 (ys xs[i])[j] →
              g1 v7 (wipe σ3 vs1) H7 fun σ4 H5 => wipe σ4 vs1 = wipe σ3 vs1 ∧ tYes σ4 H5 fun b H6 => if b = true then te σ4 H6 fun y H7 => ∃ acc, H7 D = some (.lst acc) ∧ acc.length < sizeLine ∧ (∃ G5, Ok B G5 (upd H7 D (.lst (acc ++ [y]))) σ3 ⟨f xs[i] (wipeE e.sl ws), e.cl ++ [(D, ownL (((xs.take i).flatMap fun x => (ys x).map (h x)) ++ ((ys xs[i]).take (j + 1)).map (h xs[i])))]⟩ ∧ Same G4 G5)
                else (∃ G5, Ok B G5 H6 σ3 ⟨f xs[i] (wipeE e.sl ws), e.cl ++ [(D, ownL (((xs.take i).flatMap fun x => (ys x).map (h x)) ++ ((ys xs[i]).take (j + 1)).map (h xs[i])))]⟩ ∧ Same G4 G5) := fun G8 ok8 s8 r8 => by
            have ok8w : Ok B G8 H7 (wipe σ3 vs1) ⟨wipeE (f xs[i] (wipeE e.sl ws)) vs1, e.cl ++ [(D, ownL (((xs.take i).flatMap fun x => (ys x).map (h x)) ++ ((ys xs[i]).take j).map (h xs[i])))]⟩ := ⟨ok8.g0, ok8.gh, ok8.fr, ok8.al, ok8.nw, sr_wipe ok8.sr vs1, ok8.cr⟩
            refine hg1 (wipe σ3 vs1) G8 H7 _ ok8w v7 _ r8 _ fun σ4 ok9 hw9 => ⟨by rw [hw9 vs1 hj1, wipe_idem vs1 vs1 fun _ h => h], ?_⟩
            unfold tYes
            show (if true = true then _ else _)
            rw [if_pos rfl]
            refine he _ _ _ split _ _ _ split1 (D, ownL (((xs.take i).flatMap fun x => (ys x).map (h x)) ++ ((ys xs[i]).take j).map (h xs[i]))) σ4 G8 H7 ok9 (X.mono (((s1.trans s13).trans s4).trans s8)) _ fun y z Ga Ha pz oka sa ra => ?_
            subst pz
            have ka : Ok B Ga Ha σ3 ⟨f xs[i] (wipeE e.sl ws), e.cl ++ [(D, ownL (((xs.take i).flatMap fun x => (ys x).map (h x)) ++ ((ys xs[i]).take j).map (h xs[i])))]⟩ := ⟨oka.g0, oka.gh, oka.fr, oka.al, oka.nw, ok8.sr.mono sa, oka.cr⟩
            have hcl : (⟨f xs[i] (wipeE e.sl ws), e.cl ++ [(D, ownL (((xs.take i).flatMap fun x => (ys x).map (h x)) ++ ((ys xs[i]).take j).map (h xs[i])))]⟩ : Ev1).cl[e.cl.length]? = some (D, ownL (((xs.take i).flatMap fun x => (ys x).map (h x)) ++ ((ys xs[i]).take j).map (h xs[i]))) := by
              show (e.cl ++ [(D, ownL _)])[e.cl.length]? = _
              rw [List.getElem?_append_right (Nat.le_refl _), Nat.sub_self]
              rfl
            obtain ⟨_, _, o, ho, acc, rfl, hacc⟩ := ka.cell hcl
            refine ⟨acc, ho, ?_, Ga, ?_, s8.trans sa⟩
            · rw [hacc.length, sizeLine_eq, List.length_append, List.length_map, List.length_take]
              have b1 := hl i (by omega)
              have b2 := hl1 xs[i] (List.getElem_mem hlt)
              omega
            · have w := ka.write (c' := ownL ((((xs.take i).flatMap fun x => (ys x).map (h x)) ++ ((ys xs[i]).take j).map (h xs[i])) ++ [h xs[i] (ys xs[i])[j]])) hcl rfl ⟨acc ++ [y], rfl, hacc.snoc ra⟩
              have e9 : ∀ c c' : Addr × Cell, (e.cl ++ [c]).set e.cl.length c' = e.cl ++ [c'] := fun c c' => by
                rw [List.set_append_right _ _ (Nat.le_refl _), Nat.sub_self]
                rfl
              rw [tk2, ← List.append_assoc]
              have w' := w
              unfold Ev1.cl at w'
              rw [e9] at w'
              exact w'
          rcases k3 _ v7 H7 hx1 hy7 with ⟨rfl, r⟩ | ⟨T, o, hT, rfl, r⟩
          · exact fin1 G5 ok6 s5 (Enc.mono s5 r)
          · have gT : G5 T = none := ok6.gh.free hT
            exact fin1 (upd G5 T o) (ok6.new hT) (s5.trans (same_upd gT)) (Enc.mono (same_upd2 s5) r)
        · have e3 : j = (ys xs[i]).length := by omega
          subst e3
          rw [List.take_length, ← tk1] at ok6
          exact .inl ⟨k2 (Nat.le_refl _), G5, back ok6 (s4.trans s5), (s13.trans s4).trans s5⟩
      rcases g3' _ v H' hx hyl with ⟨rfl, r⟩ | ⟨T, o, hT, rfl, r⟩
      · exact fin G2 ok2 s2 (Enc.mono s2 r)
      · have gT : G2 T = none := ok2.gh.free hT
        exact fin (upd G2 T o) (ok2.new hT) (s2.trans (same_upd gT)) (Enc.mono (same_upd2 s2) r)
    · have e3 : i = xs.length := by omega
      subst e3
      rw [List.take_length] at ok2
      obtain ⟨gD, _, o, ho, acc, rfl, hacc⟩ := ok2.cell (ak ok2)
      exact .inl ⟨g2' (Nat.le_refl _), q D acc _ G2 H2 rfl ok2.dropEnd (s1.trans s2) ⟨_, ho, rfl⟩ gD hD0 ok2.endNe hacc⟩
end
end Fw

namespace Fw
open PySem L2
/-- isinstance(e, c), e the caught exception, its class cls -/
def rIsC (K : PySem.W.Frag) (a : Addr) (cls : Value) (d : Option Addr) : List V → Hp → VK → Prop := fun xs H Q => ∃ D, cls = .ref D ∧ XkC K D ∧ rIsX K D a d xs H Q
theorem call_isC {X : Cx} {a : Addr} {cls : Value} {d : Option Addr} {oe : Obj} {pn : List (Addr × Obj)} (hz : Zc cls d oe) (hf : ∃ vs, oe.data = .fields vs) : CallR (X.suite a ((a, oe) :: pn)) (.builtin "isinstance") (rIsC X.K a cls d) := by
  intro pins s σ H xs us Q I r h
  obtain ⟨D, rfl, C, h⟩ := h
  exact call_isX C hz hf pins s σ H xs us Q I r h
section
variable {B : Bs} {e : Ev1} {α : Type} [Enc α] {te : TE}
theorem ev_isC {D C a : Addr} {d : Option Addr} {x : XD} {b : Bool} (xk : XkC B.K D) (h : EvD B te e (Exn.mk a d x)) (hk : PySem.W.kitOne B.K (.ref D) (.ref C) = some b) (hd : x = xdP D ∨ ∃ fs, x = xdF D fs) : EvD B (tCB (rIsC B.K a x.cls d) (tCons te (tCons (tC (.ref C)) tNil))) e b := fun σ G H ok X Q q => by
  have e1 : x.cls = .ref D := by
    rcases hd with rfl | ⟨fs, rfl⟩ <;> rfl
  rw [e1]
  refine h σ G H ok X _ fun v z G1 H1 p ok1 s1 r1 => ?_
  have := ev_isX (B := B) (e := e) (te := te) (C := C) h hk hd
  subst p
  obtain ⟨e2, H0, s0, r0⟩ := r1
  have e2 : v = V.ref a := e2
  subst e2
  refine ⟨D, rfl, xk, .ref C, .ref C, b, rfl, fun u hu => hu, ?_, hk, q _ b G1 H1 rfl ok1 s1 rfl⟩
  rcases hd with rfl | ⟨fs, rfl⟩
  · have r0 : d = none := r0
    subst r0
    trivial
  · exact rp_dict (s0.trans ok1.gh) r0
theorem ev_xfC {D a : Addr} {d : Option Addr} {x : XD} {fs : List (Str × Slot)} {f : Str} {y : α} (hx : x = xdF D fs) (h : EvD B te e (Exn.mk a d x)) (hf : fs.lookup f = some (vs y)) : EvD B (tXf a x.cls d D f te) e y := by
  subst hx
  exact ev_xf h hf
end

/-! ### try .. except as one word, so that the body's tree can be read off -/
def tTryAs (K : PySem.W.Frag) (c : Value) (i : Nat) (ts : Addr → Value → Option Addr → TS) (Wout : WX) (tb : WX → TS) : TS := fun D σ H => tb (wAs K c i ts Wout D) D σ H
def tTryOnly (K : PySem.W.Frag) (c : Value) (ts : Addr → Value → Option Addr → TS) (Wout : WX) (tb : WX → TS) : TS := fun D σ H => tb (wOnly K c ts Wout D) D σ H
section
variable {X : Cx} {x n : Str} {c : Value} {i : Nat} {body suite : List Stmt} {b₀ : Stmt} {np pos pos' : Pos} {tb : WX → TS} {ts : Addr → Value → Option Addr → TS} {Wout : WX}
theorem ps_tryA (hs : X.stack = X.env :: X.outer) (hf : X.env.frame = some X.env.locals) (hN : X.N.Nodup) (hi : X.N[i]? = some n) (hln : X.env.kindOf n = some .local) (hc : Names X x c) (tk : Takes X Wout)
    (hb : ∀ (W : WX) (pn : List (Addr × Obj)) (xe : Value → Shared → Prop), Takes (X.tr pn xe) W → PassesOwn (model X.prog X.w) X.A X.env xe → PSs (X.tr pn xe) body (tb W))
    (hsu : ∀ (a : Addr) (oe : Obj) (cls : Value) (d : Option Addr) (pn : List (Addr × Obj)), Zc cls d oe → (∃ vs, oe.data = .fields vs) → PSs (X.suite a ((a, oe) :: pn)) (b₀ :: suite) (ts a cls d)) :
    PS X (.Try body [.ExceptHandler (some (.Name x np)) (some n) (b₀ :: suite) pos'] [] [] pos) (tTryAs X.K c i ts Wout tb) := ps_try_as hs hf hN hi hln hc tk hb hsu
theorem ps_tryO (hs : X.stack = X.env :: X.outer) (hf : X.env.frame = some X.env.locals) (hc : Names X x c) (tk : Takes X Wout)
    (hb : ∀ (W : WX) (pn : List (Addr × Obj)) (xe : Value → Shared → Prop), Takes (X.tr pn xe) W → PassesOwn (model X.prog X.w) X.A X.env xe → PSs (X.tr pn xe) body (tb W))
    (hsu : ∀ (a : Addr) (oe : Obj) (cls : Value) (d : Option Addr) (pn : List (Addr × Obj)), Zc cls d oe → (∃ vs, oe.data = .fields vs) → PSs (X.suite a ((a, oe) :: pn)) (b₀ :: suite) (ts a cls d)) :
    PS X (.Try body [.ExceptHandler (some (.Name x np)) none (b₀ :: suite) pos'] [] [] pos) (tTryOnly X.K c ts Wout tb) := ps_try_only hs hf hc tk hb hsu
end
section
variable {B : Bs} {e : Ev1} {ρ : Type} [Enc ρ] {E : En ρ}
theorem do_tryA {c : Value} {i : Nat} {ts : Addr → Value → Option Addr → TS} {tb : WX → TS} {Wout : WX} (xr : XD → Ev1 → Prop) (hb : ∀ W, Do { B with W := W, xr := xr } (tb W) e E)
    (hs : ∀ x e', xr x e' → ∃ b, PySem.W.exmOne B.K x.cls c = some b ∧
      (b = true → ∀ a d, Do B (ts a x.cls d) ⟨e'.sl.set i (va (Exn.mk a d x)), e'.cl⟩ { nx := fun e'' => E.nx ⟨e''.sl.set i none, e''.cl⟩, rt := E.rt, bk := fun e'' => E.bk ⟨e''.sl.set i none, e''.cl⟩, ct := fun e'' => E.ct ⟨e''.sl.set i none, e''.cl⟩ }) ∧
      (b = false → B.xr x e' ∧ Wout = B.W)) : Do B (tTryAs B.K c i ts Wout tb) e E := do_try_as (tbody := tb) xr hb hs
theorem do_tryO {c : Value} {ts : Addr → Value → Option Addr → TS} {tb : WX → TS} {Wout : WX} (xr : XD → Ev1 → Prop) (hb : ∀ W, Do { B with W := W, xr := xr } (tb W) e E)
    (hs : ∀ x e', xr x e' → ∃ b, PySem.W.exmOne B.K x.cls c = some b ∧ (b = true → ∀ a d, Do B (ts a x.cls d) e' E) ∧ (b = false → B.xr x e' ∧ Wout = B.W)) : Do B (tTryOnly B.K c ts Wout tb) e E := do_try_only (tbody := tb) xr hb hs
end
end Fw

namespace Fw
open PySem L2
/-! ### the law's script: a list that the code only reads (it may stand frozen, or in the written part) -/
structure Scr (α : Type) where
  l : List α
theorem same_l {K : PySem.W.Frag} {H H' : Hp} {a : Addr} {xs : List V} (e : Same H H') (h : SqL K H a xs) : SqL K H' a xs := by
  rcases h with (h | ⟨o, h⟩) | h
  · exact .inl (.inl (e _ _ h))
  · exact .inl (.inr ⟨o, e _ _ h⟩)
  · exact .inr h
instance {α : Type} [Enc α] : Enc (Scr α) where
  rep := fun K H v xs => ∃ a vs, v = .ref a ∧ SqL K H a vs ∧ Paired (Enc.rep K H) vs xs.l
  mono := fun e ⟨a, vs, h1, h2, h3⟩ => ⟨a, vs, h1, same_l e h2, paired_mono e h3⟩
section
variable {B : Bs} {e : Ev1} {α : Type} [Enc α] {tl : TE}
theorem ei_scr {xs : Scr α} (h : EvD B tl e xs) : EvI B (iList B.K tl) e xs.l := fun σ G H ok X R q =>
  h σ G H ok X _ fun v y G1 H1 p ok1 s1 r1 => by
    subst p
    obtain ⟨a, us, rfl, h1, h2⟩ := r1
    refine ⟨a, rfl, ⟨us, same_l ok1.gh h1⟩, q _ G1 H1 ok1 s1 fun H2 s2 i => ?_⟩
    have hs : SqL B.K H2 a us := same_l s2 h1
    have hl := h2.length
    refine ⟨fun hi => ⟨us, us[i]'(by omega), hs, List.getElem?_eq_getElem (by omega)⟩, fun hi => ⟨us, hs, by omega⟩, fun y v H' hy hv => ?_⟩
    obtain ⟨rfl, hv⟩ := hv
    exact .inl ⟨rfl, paired_ix h2 (hv us hs) hy⟩
end
theorem ints_paired {K : PySem.W.Frag} {H : Hp} : ∀ ns : List Int, Paired (Enc.rep K H) (ns.map V.int) ns
  | [] => .nil
  | _ :: ns => .cons rfl (ints_paired ns)
/-- a call with the script alone, ahead of any cell -/
theorem Call.scr {K : PySem.W.Frag} {H : Hp} {a : Addr} {ns : List Int} {post : Bool → Prop} (hp : ∀ b, post b → b = true) (h : SqL K H a (ns.map V.int)) :
    Call K [vs (Scr.mk ns)] [] (fun (r : Bool) c => c = [] ∧ post r) (fun x c => c = [] ∧ False) [.ref a] H (fun v _ => v = .bl true) fun _ _ _ => False := by
  refine ⟨H, Same.refl H, .cons ⟨a, ns.map V.int, rfl, h, ints_paired ns⟩ .nil, List.nodup_nil, fun _ hc => (nomatch hc), fun v r cl' G' H' ⟨_, hr⟩ _ rv => ?_, fun d x cl' G' H' hx _ _ => hx.2⟩
  have e := hp r hr
  subst e
  exact rv
end Fw

namespace L03
open PySem L2 Fw
def topS (i : Nat) : Stmt := PySem.Challenge.pw_treesfromyes_k03_words_and_their_order.main.body.getD i (.Pass ⟨0, 0, 0, 0⟩)
structure Ad where
  check_letters : Addr
  check_word : Addr
  order_key : Addr
  in_order : Addr
  words_to : Addr
  rank : Addr
  word_at : Addr
  scattered_words : Addr
  windows : Addr
  class_of : Addr
  law_start : Addr
  law_next : Addr
  law_integer : Addr
  law_exact : Addr
  law_rank : Addr
  law_word_at : Addr
  law_strings : Addr
  law_sorted : Addr
  law_all_words : Addr
  law_parts : Addr
  law_class : Addr
  law_bad_letters : Addr
  law_bad_word : Addr
  law_refused : Addr
  law_small_parts : Addr
  law : Addr
  LanguageError : Addr
  BadLetters : Addr
  BadWord : Addr
  BadWord___init : Addr
abbrev con_SMALL : Str := "abcdefghijklmnopqrstuvwxyz"

theorem stC_mono {K : PySem.W.Frag} {H H' : Hp} {o : HO} (e : Same H H') (h : ∃ (cells : List Int) (i cur k : Int), cells ≠ [] ∧ cells.length ≤ 1000 ∧ ∃ us, o = .lst us ∧ Reps K H us [vs cells, vs i, vs cur, vs k]) : ∃ (cells : List Int) (i cur k : Int), cells ≠ [] ∧ cells.length ≤ 1000 ∧ ∃ us, o = .lst us ∧ Reps K H' us [vs cells, vs i, vs cur, vs k] := by
  obtain ⟨a, b, c, d, h1, h2, us, h3, h4⟩ := h
  exact ⟨a, b, c, d, h1, h2, us, h3, reps_mono e h4⟩
def stC (lc : Bool) : Cell := ⟨lc, fun K H o => ∃ (cells : List Int) (i cur k : Int), cells ≠ [] ∧ cells.length ≤ 1000 ∧ ∃ us, o = .lst us ∧ Reps K H us [vs cells, vs i, vs cur, vs k], stC_mono⟩
theorem stC_of {lc : Bool} {cells : List Int} {i cur k : Int} {K : PySem.W.Frag} {G : Hp} {o : HO} (h1 : cells ≠ []) (h2 : cells.length ≤ 1000) (h : (ownS lc [vs cells, vs i, vs cur, vs k]).hp K G o) : (stC lc).hp K G o := ⟨cells, i, cur, k, h1, h2, h⟩
theorem stC_open {K : PySem.W.Frag} {G : Hp} {o : HO} (h : (stC false).hp K G o) : ∃ i : List Int × Int × Int × Int, (i.1 ≠ [] ∧ i.1.length ≤ 1000) ∧ (ownS false [vs i.1, vs i.2.1, vs i.2.2.1, vs i.2.2.2]).hp K G o := by
  obtain ⟨a, b, c, d, h1, h2, h3⟩ := h
  exact ⟨(a, b, c, d), ⟨h1, h2⟩, h3⟩
def goodL (s : Str) : Prop := 1 ≤ s.length ∧ s.length ≤ 4 ∧ (tl s).Pairwise (· < ·) ∧ ∀ c ∈ tl s, 97 ≤ c ∧ c ≤ 122
/-- the signs told so far climb, b is the last (or empty) -/
def LetI (pre : List Str) (b : Str) : Prop := (pre.map sgn).Pairwise (· < ·) ∧ (∀ x ∈ pre, 97 ≤ sgn x ∧ sgn x ≤ 122) ∧ ((pre = [] ∧ b = "") ∨ (b = ⟨#[sgn b]⟩ ∧ ∃ q, pre = q ++ [b]))
def inL (letters word : Str) : Prop := ∀ c ∈ tl word, c ∈ tl letters
def badAt (letters word : Str) (k : Nat) : Prop := k < word.length ∧ (tl word).getD k 0 ∉ tl letters ∧ ∀ j, j < k → (tl word).getD j 0 ∈ tl letters
def wLt (a b : Str) : Prop := a.length < b.length ∨ (a.length = b.length ∧ tl a < tl b)
/-- r: the words of Q, each once, in order -/
def SUp (Q : Str → Prop) (r : List Str) : Prop := r.Pairwise wLt ∧ ∀ x, x ∈ r ↔ Q x
def DicI (pre : List Str) (d : List (Str × Bool)) : Prop := (keysD d).Nodup ∧ (∀ x, x ∈ keysD d ↔ x ∈ pre) ∧ d.length ≤ pre.length
def geo (L : Nat) : Nat → Int
  | 0 => 0
  | n + 1 => geo L n + (L : Int) ^ n
def wAt (ls : List Nat) (n : Nat) : List Nat := if h : n = 0 ∨ ls.length = 0 then [] else wAt ls ((n - 1) / ls.length) ++ [ls.getD ((n - 1) % ls.length) 0]
termination_by n
decreasing_by
  have h1 : (n - 1) / ls.length ≤ n - 1 := Nat.div_le_self _ _
  omega
def AllW (letters : Str) (most : Int) (r : List Str) : Prop := r.map tl = (List.range (geo letters.length (most.toNat + 1)).toNat).map (wAt (tl letters))
def LayI (letters : Str) (n : Nat) (la to : List Str) : Prop := to.map tl = (List.range (geo letters.length (n + 1)).toNat).map (wAt (tl letters)) ∧ la.map tl = (List.range ((letters.length ^ n : Nat))).map fun i => wAt (tl letters) ((geo letters.length n).toNat + i)
def rankF (letters : Str) (w : List Str) : Int := w.foldl (fun n c => n * (letters.length : Int) + ((tl letters).idxOf (sgn c) : Nat) + 1) 0
def valF (letters : Str) (w : List Str) : Int := w.foldl (fun n c => n * (letters.length : Int) + ((tl letters).idxOf (sgn c) : Nat)) 0
def idx (a b : Str) : Nat := (Txt.index0 a b).getD 0
def WatI (letters : Str) (number : Int) (i : Str × Int) : Prop := i.2.toNat ≤ number.toNat ∧ wAt (tl letters) number.toNat = wAt (tl letters) i.2.toNat ++ tl i.1
def scStep (most : Int) (S : Str → Prop) (c : Str) : Str → Prop := fun x => S x ∨ ∃ p, S p ∧ (p.length : Int) < most ∧ x = p ++ c
def scAll (most : Int) (cs : List Str) : Str → Prop := cs.foldl (scStep most) (· = "")
def ScB (word : Str) (most : Int) : Prop := word.length ≤ 1000 ∧ ∃ al : List Str, al.length ≤ 10000 ∧ ∀ x, scAll most (signs word) x → x ∈ al ∧ x.length ≤ 1000
def ScI (word : Str) (most : Int) (pre : List Str) (d : List (Str × Bool)) : Prop := (keysD d).Nodup ∧ ∀ x, x ∈ keysD d ↔ scAll most pre x
def ScJ (word : Str) (most : Int) (pre : List Str) (c : Str) (pre2 : List Str) (d : List (Str × Bool)) : Prop := (keysD d).Nodup ∧ ∀ x, x ∈ keysD d ↔ (scAll most pre x ∨ ∃ p ∈ pre2, (p.length : Int) < most ∧ x = p ++ c)
def PaI (word : Str) (most : Int) (pre : List Str) (t : List Str) : Prop := t.Nodup ∧ ∀ x, x ∈ t ↔ scAll most pre x
def PaJ (word : Str) (most : Int) (pre : List Str) (c : Str) (t : List Str) (pre2 : List Str) (t2 : List Str) : Prop := t2.Nodup ∧ ∀ x, x ∈ t2 ↔ (x ∈ t ∨ x ∈ pre2)
def winL (word : Str) (size : Int) : List Str := (rngI 0 ((word.length : Int) - size + 1).toNat).map fun at_ => cutS word (some at_) (some (at_ + size))
def clsF (n exact_ period : Int) : Int := if exact_ ≤ n then exact_ + (n - exact_) % period else n
def cntS (word c : Str) : Int := ((tl word).count (sgn c) : Nat)
def clsL (letters word : Str) (exact_ period : Int) : List Int := (signs letters).map fun c => clsF (cntS word c) exact_ period
def ClsI (word : Str) (exact_ period : Int) (pre : List Str) (t : List Int) : Prop := t = pre.map fun c => clsF (cntS word c) exact_ period
def CntI (word : Str) (exact_ period : Int) (c : Str) (n : Nat) (v : Int) : Prop := clsF v exact_ period = clsF (cntS word c) exact_ period ∧ 0 ≤ v ∧ (v < exact_ + period ∨ v ≤ cntS word c - n * period)
def LwI (letters : Str) (number : Int) (k : Nat) (n ln pw : Int) : Prop := ln = k ∧ pw = (letters.length : Int) ^ k ∧ 0 ≤ n ∧ number = geo letters.length k + n
def LwJ (letters : Str) (number : Int) (k : Nat) (ln n : Int) (w : Str) : Prop := 0 ≤ n ∧ (k : Int) ≤ ln ∧ n < (letters.length : Int) ^ (ln.toNat - k) ∧ w.length = k ∧ wAt (tl letters) number.toNat = wAt (tl letters) (geo letters.length (ln.toNat - k) + n).toNat ++ tl w
def SpoI (letters word : Str) (place : Int) (s : Str) : Prop := s.length ≤ 1000 ∧ ∃ k : Nat, badAt letters s k ∧ place = k
def SmW (letters word : Str) : Prop := (word.length ≤ 8 ∧ inL letters word) ∨ (word.length ≤ 24 ∧ inL (cutS letters none (some 2)) word)
def SrtI (pre : List (Int × Str)) (t : List Str) : Prop := t.Pairwise wLt ∧ (∀ x, x ∈ t ↔ ∃ p ∈ pre, p.2 = x) ∧ ((pre = [] ∧ t = []) ∨ ∃ p, pre.getLast? = some p ∧ t.getLast? = some p.2)

/-! ### check_letters -/
def pre_check_letters (letters : Str) : Prop := letters.length ≤ 1000
def post_check_letters (letters : Str) (r : Unit) : Prop := goodL letters
def xp_check_letters (A : Ad) (letters : Str) (x : XD) : Prop := x = xdP A.BadLetters ∧ ¬ goodL letters
def sp_check_letters (K : PySem.W.Frag) (A : Ad) : Sp := fun us H Q E => ∃ (letters : Str), pre_check_letters letters ∧ Call K [vs letters] [] (fun (r : Unit) c => c = [] ∧ post_check_letters letters r) (fun x c => c = [] ∧ xp_check_letters A letters x) us H Q E
/-! ### check_word -/
def pre_check_word (letters : Str) (word : Str) : Prop := word.length ≤ 1000
def post_check_word (letters : Str) (word : Str) (r : Unit) : Prop := inL letters word
def xp_check_word (A : Ad) (letters : Str) (word : Str) (x : XD) : Prop := ∃ k : Nat, badAt letters word k ∧ x = xdF A.BadWord [("word", vs word), ("place", vs (k : Int))]
def sp_check_word (K : PySem.W.Frag) (A : Ad) : Sp := fun us H Q E => ∃ (letters : Str) (word : Str), pre_check_word letters word ∧ Call K [vs letters, vs word] [] (fun (r : Unit) c => c = [] ∧ post_check_word letters word r) (fun x c => c = [] ∧ xp_check_word A letters word x) us H Q E
/-! ### in_order -/
def pre_in_order (words : (List Str)) : Prop := words.length ≤ 10000 ∧ ∀ w ∈ words, w.length ≤ 1000
def post_in_order (words : (List Str)) (r : (List Str)) : Prop := SUp (· ∈ words) r
def sp_in_order (K : PySem.W.Frag) : Sp := fun us H Q E => ∃ (words : (List Str)), pre_in_order words ∧ Call K [vs words] [] (fun (r : (List Str)) c => c = [] ∧ post_in_order words r) (fun x c => c = [] ∧ False) us H Q E
/-! ### words_to -/
def pre_words_to (letters : Str) (most : Int) : Prop := letters.length ≤ 1000 ∧ 0 ≤ most ∧ most ≤ 6
def post_words_to (letters : Str) (most : Int) (r : (List Str)) : Prop := goodL letters ∧ AllW letters most r
def xp_words_to (A : Ad) (letters : Str) (most : Int) (x : XD) : Prop := xp_check_letters A letters x
def sp_words_to (K : PySem.W.Frag) (A : Ad) : Sp := fun us H Q E => ∃ (letters : Str) (most : Int), pre_words_to letters most ∧ Call K [vs letters, vs most] [] (fun (r : (List Str)) c => c = [] ∧ post_words_to letters most r) (fun x c => c = [] ∧ xp_words_to A letters most x) us H Q E
/-! ### rank -/
def pre_rank (letters : Str) (word : Str) : Prop := letters.length ≤ 1000 ∧ word.length ≤ 1000
def post_rank (letters : Str) (word : Str) (r : Int) : Prop := goodL letters ∧ inL letters word ∧ r = rankF letters (signs word)
def xp_rank (A : Ad) (letters : Str) (word : Str) (x : XD) : Prop := xp_check_letters A letters x ∨ (goodL letters ∧ xp_check_word A letters word x)
def sp_rank (K : PySem.W.Frag) (A : Ad) : Sp := fun us H Q E => ∃ (letters : Str) (word : Str), pre_rank letters word ∧ Call K [vs letters, vs word] [] (fun (r : Int) c => c = [] ∧ post_rank letters word r) (fun x c => c = [] ∧ xp_rank A letters word x) us H Q E
/-! ### word_at -/
def pre_word_at (letters : Str) (number : Int) : Prop := letters.length ≤ 1000 ∧ (wAt (tl letters) number.toNat).length ≤ 1000
def post_word_at (letters : Str) (number : Int) (r : Str) : Prop := goodL letters ∧ tl r = wAt (tl letters) number.toNat
def xp_word_at (A : Ad) (letters : Str) (number : Int) (x : XD) : Prop := xp_check_letters A letters x
def sp_word_at (K : PySem.W.Frag) (A : Ad) : Sp := fun us H Q E => ∃ (letters : Str) (number : Int), pre_word_at letters number ∧ Call K [vs letters, vs number] [] (fun (r : Str) c => c = [] ∧ post_word_at letters number r) (fun x c => c = [] ∧ xp_word_at A letters number x) us H Q E
/-! ### scattered_words -/
def pre_scattered_words (word : Str) (most : Int) : Prop := ScB word most
def post_scattered_words (word : Str) (most : Int) (r : (List Str)) : Prop := SUp (scAll most (signs word)) r
def sp_scattered_words (K : PySem.W.Frag) : Sp := fun us H Q E => ∃ (word : Str) (most : Int), pre_scattered_words word most ∧ Call K [vs word, vs most] [] (fun (r : (List Str)) c => c = [] ∧ post_scattered_words word most r) (fun x c => c = [] ∧ False) us H Q E
/-! ### windows -/
def pre_windows (word : Str) (size : Int) : Prop := word.length ≤ 1000 ∧ 1 ≤ size ∧ size ≤ 1000
def post_windows (word : Str) (size : Int) (r : (List Str)) : Prop := SUp (· ∈ winL word size) r
def sp_windows (K : PySem.W.Frag) : Sp := fun us H Q E => ∃ (word : Str) (size : Int), pre_windows word size ∧ Call K [vs word, vs size] [] (fun (r : (List Str)) c => c = [] ∧ post_windows word size r) (fun x c => c = [] ∧ False) us H Q E
/-! ### class_of -/
def pre_class_of (letters : Str) (word : Str) (ex : Int) (period : Int) : Prop := letters.length ≤ 1000 ∧ word.length ≤ 1000 ∧ 0 ≤ ex ∧ 1 ≤ period
def post_class_of (letters : Str) (word : Str) (ex : Int) (period : Int) (r : (Tup Int)) : Prop := r = Tup.mk (clsL letters word ex period)
def sp_class_of (K : PySem.W.Frag) : Sp := fun us H Q E => ∃ (letters : Str) (word : Str) (ex : Int) (period : Int), pre_class_of letters word ex period ∧ Call K [vs letters, vs word, vs ex, vs period] [] (fun (r : (Tup Int)) c => c = [] ∧ post_class_of letters word ex period r) (fun x c => c = [] ∧ False) us H Q E
/-! ### _law_start -/
def pre_law_start (script : (Scr Int)) : Prop := script.l.length ≤ 63
def sp_law_start (K : PySem.W.Frag) : Sp := fun us H Q E => ∃ (script : (Scr Int)), pre_law_start script ∧ Call K [vs script] [] (fun (r : Adr) c => c = [(r.a, stC true)]) (fun _ _ => False) us H Q E
/-! ### _law_next -/
def pre_law_next (state : Addr) (many : Int) : Prop := 1 ≤ many ∧ many ≤ 1000000
def post_law_next (state : Addr) (many : Int) (r : Int) : Prop := 0 ≤ r ∧ r < many
def sp_law_next (K : PySem.W.Frag) : Sp := fun us H Q E => ∃ (state : Addr) (many : Int), pre_law_next state many ∧ Call K [vs (Adr.mk state), vs many] [(state, stC false)] (fun (r : Int) c => c = [(state, stC false)] ∧ post_law_next state many r) (fun x c => c = [(state, stC false)] ∧ False) us H Q E
/-! ### _law_integer -/
def pre_law_integer (actual : Int) : Prop := True
def post_law_integer (actual : Int) (r : Bool) : Prop := r = true
def sp_law_integer (K : PySem.W.Frag) : Sp := fun us H Q E => ∃ (actual : Int), pre_law_integer actual ∧ Call K [vs actual] [] (fun (r : Bool) c => c = [] ∧ post_law_integer actual r) (fun x c => c = [] ∧ False) us H Q E
/-! ### _law_exact -/
def pre_law_exact (state : Addr) (letters : Str) (size : Int) : Prop := 1 ≤ letters.length ∧ letters.length ≤ 1000 ∧ 0 ≤ size ∧ size ≤ 1000
def post_law_exact (state : Addr) (letters : Str) (size : Int) (r : Str) : Prop := r.length = size.toNat ∧ inL letters r
def sp_law_exact (K : PySem.W.Frag) : Sp := fun us H Q E => ∃ (state : Addr) (letters : Str) (size : Int), pre_law_exact state letters size ∧ Call K [vs (Adr.mk state), vs letters, vs size] [(state, stC false)] (fun (r : Str) c => c = [(state, stC false)] ∧ post_law_exact state letters size r) (fun x c => c = [(state, stC false)] ∧ False) us H Q E
/-! ### _law_rank -/
def pre_law_rank (letters : Str) (word : Str) : Prop := letters.length ≤ 1000 ∧ word.length ≤ 1000 ∧ inL letters word
def post_law_rank (letters : Str) (word : Str) (r : Int) : Prop := r = rankF letters (signs word)
def sp_law_rank (K : PySem.W.Frag) : Sp := fun us H Q E => ∃ (letters : Str) (word : Str), pre_law_rank letters word ∧ Call K [vs letters, vs word] [] (fun (r : Int) c => c = [] ∧ post_law_rank letters word r) (fun x c => c = [] ∧ False) us H Q E
/-! ### _law_word_at -/
def pre_law_word_at (letters : Str) (number : Int) : Prop := goodL letters ∧ 0 ≤ number ∧ (wAt (tl letters) number.toNat).length ≤ 201
def post_law_word_at (letters : Str) (number : Int) (r : Str) : Prop := tl r = wAt (tl letters) number.toNat
def sp_law_word_at (K : PySem.W.Frag) : Sp := fun us H Q E => ∃ (letters : Str) (number : Int), pre_law_word_at letters number ∧ Call K [vs letters, vs number] [] (fun (r : Str) c => c = [] ∧ post_law_word_at letters number r) (fun x c => c = [] ∧ False) us H Q E
/-! ### _law_strings -/
def pre_law_strings (actual : (List Str)) (due : (List Str)) : Prop := actual = due ∧ due.length ≤ 1000000
def post_law_strings (actual : (List Str)) (due : (List Str)) (r : Bool) : Prop := r = true
def sp_law_strings (K : PySem.W.Frag) : Sp := fun us H Q E => ∃ (actual : (List Str)) (due : (List Str)), pre_law_strings actual due ∧ Call K [vs actual, vs due] [] (fun (r : Bool) c => c = [] ∧ post_law_strings actual due r) (fun x c => c = [] ∧ False) us H Q E
/-! ### _law_sorted -/
def pre_law_sorted (words : (List Str)) : Prop := words.length ≤ 10000 ∧ ∀ w ∈ words, w.length ≤ 1000
def post_law_sorted (words : (List Str)) (r : (List Str)) : Prop := SUp (· ∈ words) r
def sp_law_sorted (K : PySem.W.Frag) : Sp := fun us H Q E => ∃ (words : (List Str)), pre_law_sorted words ∧ Call K [vs words] [] (fun (r : (List Str)) c => c = [] ∧ post_law_sorted words r) (fun x c => c = [] ∧ False) us H Q E
/-! ### _law_all_words -/
def pre_law_all_words (letters : Str) (most : Int) : Prop := goodL letters ∧ 0 ≤ most ∧ most ≤ 6
def post_law_all_words (letters : Str) (most : Int) (r : (List Str)) : Prop := AllW letters most r
def sp_law_all_words (K : PySem.W.Frag) : Sp := fun us H Q E => ∃ (letters : Str) (most : Int), pre_law_all_words letters most ∧ Call K [vs letters, vs most] [] (fun (r : (List Str)) c => c = [] ∧ post_law_all_words letters most r) (fun x c => c = [] ∧ False) us H Q E
/-! ### _law_parts -/
def pre_law_parts (word : Str) (most : Int) : Prop := ScB word most
def post_law_parts (word : Str) (most : Int) (r : (List Str)) : Prop := SUp (scAll most (signs word)) r
def sp_law_parts (K : PySem.W.Frag) : Sp := fun us H Q E => ∃ (word : Str) (most : Int), pre_law_parts word most ∧ Call K [vs word, vs most] [] (fun (r : (List Str)) c => c = [] ∧ post_law_parts word most r) (fun x c => c = [] ∧ False) us H Q E
/-! ### _law_class -/
def pre_law_class (letters : Str) (word : Str) (ex : Int) (period : Int) : Prop := letters.length ≤ 1000 ∧ word.length ≤ 1000 ∧ 0 ≤ ex ∧ 1 ≤ period
def post_law_class (letters : Str) (word : Str) (ex : Int) (period : Int) (r : (List Int)) : Prop := r = clsL letters word ex period
def sp_law_class (K : PySem.W.Frag) : Sp := fun us H Q E => ∃ (letters : Str) (word : Str) (ex : Int) (period : Int), pre_law_class letters word ex period ∧ Call K [vs letters, vs word, vs ex, vs period] [] (fun (r : (List Int)) c => c = [] ∧ post_law_class letters word ex period r) (fun x c => c = [] ∧ False) us H Q E
/-! ### _law_bad_letters -/
def pre_law_bad_letters (call : Int) (letters : Str) (word : Str) : Prop := ¬ goodL letters ∧ letters.length ≤ 1000 ∧ word.length ≤ 1000
def post_law_bad_letters (call : Int) (letters : Str) (word : Str) (r : Bool) : Prop := r = true
def sp_law_bad_letters (K : PySem.W.Frag) : Sp := fun us H Q E => ∃ (call : Int) (letters : Str) (word : Str), pre_law_bad_letters call letters word ∧ Call K [vs call, vs letters, vs word] [] (fun (r : Bool) c => c = [] ∧ post_law_bad_letters call letters word r) (fun x c => c = [] ∧ False) us H Q E
/-! ### _law_bad_word -/
def pre_law_bad_word (letters : Str) (word : Str) (place : Int) : Prop := goodL letters ∧ word.length ≤ 1000 ∧ ∃ k : Nat, badAt letters word k ∧ place = k
def post_law_bad_word (letters : Str) (word : Str) (place : Int) (r : Bool) : Prop := r = true
def sp_law_bad_word (K : PySem.W.Frag) : Sp := fun us H Q E => ∃ (letters : Str) (word : Str) (place : Int), pre_law_bad_word letters word place ∧ Call K [vs letters, vs word, vs place] [] (fun (r : Bool) c => c = [] ∧ post_law_bad_word letters word place r) (fun x c => c = [] ∧ False) us H Q E
/-! ### _law_refused -/
def pre_law_refused (state : Addr) (letters : Str) (word : Str) : Prop := goodL letters ∧ inL letters word ∧ word.length ≤ 900
def post_law_refused (state : Addr) (letters : Str) (word : Str) (r : Bool) : Prop := r = true
def sp_law_refused (K : PySem.W.Frag) : Sp := fun us H Q E => ∃ (state : Addr) (letters : Str) (word : Str), pre_law_refused state letters word ∧ Call K [vs (Adr.mk state), vs letters, vs word] [(state, stC false)] (fun (r : Bool) c => c = [(state, stC false)] ∧ post_law_refused state letters word r) (fun x c => c = [(state, stC false)] ∧ False) us H Q E
/-! ### _law_small_parts -/
def pre_law_small_parts (state : Addr) (letters : Str) : Prop := goodL letters
def post_law_small_parts (state : Addr) (letters : Str) (r : Bool) : Prop := r = true
def sp_law_small_parts (K : PySem.W.Frag) : Sp := fun us H Q E => ∃ (state : Addr) (letters : Str), pre_law_small_parts state letters ∧ Call K [vs (Adr.mk state), vs letters] [(state, stC false)] (fun (r : Bool) c => c = [(state, stC false)] ∧ post_law_small_parts state letters r) (fun x c => c = [(state, stC false)] ∧ False) us H Q E
/-! ### law -/
def pre_law (script : (Scr Int)) : Prop := script.l.length ≤ 63
def post_law (script : (Scr Int)) (r : Bool) : Prop := r = true
def sp_law (K : PySem.W.Frag) : Sp := fun us H Q E => ∃ (script : (Scr Int)), pre_law script ∧ Call K [vs script] [] (fun (r : Bool) c => c = [] ∧ post_law script r) (fun x c => c = [] ∧ False) us H Q E
structure Tx (K : PySem.W.Frag) (mg : Str → Option Value) (A : Ad) : Prop where
  c_MOST_KINDS_OF_LETTERS : ∃ t, mg "MOST_KINDS_OF_LETTERS" = some (.int 4 t)
  c_SMALL : ∃ t, mg "SMALL" = some (.str con_SMALL t)
  m_abs : mg "abs" = none
  m_any : mg "any" = none
  m_bool : mg "bool" = none
  m_divmod : mg "divmod" = none
  m_enumerate : mg "enumerate" = none
  m_int : mg "int" = none
  m_isinstance : mg "isinstance" = none
  m_len : mg "len" = none
  m_list : mg "list" = none
  m_max : mg "max" = none
  m_range : mg "range" = none
  m_sorted : mg "sorted" = none
  m_str : mg "str" = none
  m_tuple : mg "tuple" = none
  x_BadLetters : XcO K mg "BadLetters" A.BadLetters
theorem bb_abs : bootBuiltins "abs" = some (.builtin "abs") := by decide +kernel
theorem bb_any : bootBuiltins "any" = some (.builtin "any") := by decide +kernel
theorem bb_bool : bootBuiltins "bool" = some (.type "bool") := by decide +kernel
theorem bb_divmod : bootBuiltins "divmod" = some (.builtin "divmod") := by decide +kernel
theorem bb_enumerate : bootBuiltins "enumerate" = some (.type "enumerate") := by decide +kernel
theorem bb_int : bootBuiltins "int" = some (.type "int") := by decide +kernel
theorem bb_isinstance : bootBuiltins "isinstance" = some (.builtin "isinstance") := by decide +kernel
theorem bb_len : bootBuiltins "len" = some (.builtin "len") := by decide +kernel
theorem bb_list : bootBuiltins "list" = some (.type "list") := by decide +kernel
theorem bb_max : bootBuiltins "max" = some (.builtin "max") := by decide +kernel
theorem bb_range : bootBuiltins "range" = some (.type "range") := by decide +kernel
theorem bb_sorted : bootBuiltins "sorted" = some (.builtin "sorted") := by decide +kernel
theorem bb_str : bootBuiltins "str" = some (.type "str") := by decide +kernel
theorem bb_tuple : bootBuiltins "tuple" = some (.type "tuple") := by decide +kernel
end L03

namespace L03
open PySem L2 Fw
theorem mem_signs {s x : Str} (h : x ∈ signs s) : ∃ c, c ∈ tl s ∧ x = ⟨#[c]⟩ := by
  unfold signs at h
  obtain ⟨c, h1, h2⟩ := List.mem_map.mp h
  exact ⟨c, h1, h2.symm⟩
theorem sgn_one (c : Nat) : sgn (⟨#[c]⟩ : Str) = c := rfl
theorem sgn_mem {s x : Str} (h : x ∈ signs s) : x = ⟨#[sgn x]⟩ ∧ sgn x ∈ tl s := by
  obtain ⟨c, h1, rfl⟩ := mem_signs h
  exact ⟨rfl, h1⟩
theorem sgn_split {s x : Str} {pre post : List Str} (h : signs s = pre ++ x :: post) : x = ⟨#[sgn x]⟩ := (sgn_mem (s := s) (by rw [h]; simp)).1
theorem sgn_in {s x : Str} {pre post : List Str} (h : signs s = pre ++ x :: post) : sgn x ∈ tl s := (sgn_mem (s := s) (by rw [h]; simp)).2
theorem mem_enum {s : Str} {z : Int × Str} (h : z ∈ enumI (signs s)) : z.2 = ⟨#[sgn z.2]⟩ := by
  obtain ⟨i, hi⟩ := List.mem_iff_getElem?.mp h
  exact (sgn_mem (s := s) (List.mem_of_getElem? (enumI_get hi).2)).1
theorem sgn_split2 {s : Str} {x : Int × Str} {pre post : List (Int × Str)} (h : enumI (signs s) = pre ++ x :: post) : x.2 = ⟨#[sgn x.2]⟩ := mem_enum (s := s) (by rw [h]; simp)
theorem signs_len {s : Str} : (signs s).length = s.length := by
  unfold signs
  rw [List.length_map, Array.length_toList]
  rfl
theorem signs_sgn {s : Str} : (signs s).map sgn = tl s := by
  unfold signs
  rw [List.map_map]
  exact (List.map_congr_left fun _ _ => rfl).trans (List.map_id _)
theorem keysD_len {β : Type} [Enc β] {d : List (Str × β)} : (keysD d).length = d.length := List.length_map ..
theorem rng_split {lo : Int} {n : Nat} {pre post : List Int} {x : Int} (h : rngI lo n = pre ++ x :: post) : x = lo + (pre.length : Int) ∧ pre.length < n := by
  have h1 : (rngI lo n)[pre.length]? = some x := by rw [h, List.getElem?_append_right (Nat.le_refl _), Nat.sub_self]; rfl
  obtain ⟨h2, h3⟩ := rngI_get h1
  exact ⟨h3, h2⟩
theorem emod_both {a b : Int} (h : 0 < b) : 0 ≤ a % b ∧ a % b < b := ⟨Int.emod_nonneg _ (by omega), Int.emod_lt_of_pos _ h⟩

/-! ### check_letters -/
theorem small_lo : ∀ c ∈ tl con_SMALL, 97 ≤ c ∧ c ≤ 122 := by decide +kernel
theorem small_hi : ∀ c, c < 123 → 97 ≤ c → c ∈ tl con_SMALL := by decide +kernel
theorem tl_one {x : Str} (h : x = ⟨#[sgn x]⟩) : tl x = [sgn x] := by
  show x.cps.toList = _
  rw [h]
  rfl
theorem letI_nil {b : Str} (h : b = "") : LetI [] b := ⟨List.Pairwise.nil, by simp, .inl ⟨rfl, h⟩⟩
theorem lt_one {a b : Nat} : ([a] : List Nat) < [b] ↔ a < b := by
  rw [List.cons_lt_cons_iff]
  simp
theorem letI_lt {pre : List Str} {b x : Str} (hx : x = ⟨#[sgn x]⟩) (hI : LetI pre b) : tl b < tl x ↔ ∀ y ∈ pre, sgn y < sgn x := by
  obtain ⟨h1, h2, h3⟩ := hI
  rw [tl_one hx]
  rcases h3 with ⟨rfl, rfl⟩ | ⟨hb, q, rfl⟩
  · constructor
    · intro _ y hy
      simp at hy
    · intro _
      exact List.nil_lt_cons _ _
  · rw [tl_one hb, lt_one]
    constructor
    · intro h y hy
      rcases List.mem_append.mp hy with hy | hy
      · rw [List.map_append, List.pairwise_append] at h1
        have := h1.2.2 (sgn y) (List.mem_map_of_mem hy) (sgn b) (by simp)
        omega
      · simp at hy
        subst hy
        exact h
    · intro h
      exact h b (by simp)
theorem letI_step {pre : List Str} {b x : Str} (hx : x = ⟨#[sgn x]⟩) (hI : LetI pre b) (h : (!decide (sgn x ∈ tl con_SMALL) || !decide (tl b < tl x)) = false) : LetI (pre ++ [x]) x := by
  simp only [Bool.or_eq_false_iff, Bool.not_eq_false', decide_eq_true_eq] at h
  have h2 := (letI_lt hx hI).mp h.2
  refine ⟨?_, ?_, .inr ⟨hx, pre, rfl⟩⟩
  · rw [List.map_append, List.pairwise_append]
    refine ⟨hI.1, by simp, fun a ha c hc => ?_⟩
    obtain ⟨y, hy, rfl⟩ := List.mem_map.mp ha
    simp at hc
    subst hc
    exact h2 y hy
  · intro y hy
    rcases List.mem_append.mp hy with hy | hy
    · exact hI.2.1 y hy
    · simp at hy
      subst hy
      exact small_lo _ h.1
theorem letI_bad {letters : Str} {pre post : List Str} {b x : Str} (hs : signs letters = pre ++ x :: post) (hI : LetI pre b) (h : (!decide (sgn x ∈ tl con_SMALL) || !decide (tl b < tl x)) = true) : ¬ goodL letters := by
  intro g
  obtain ⟨_, _, g1, g2⟩ := g
  rw [← signs_sgn, hs, List.map_append, List.map_cons, List.pairwise_append] at g1
  simp only [Bool.or_eq_true, Bool.not_eq_true', decide_eq_false_iff_not] at h
  have hx := sgn_split hs
  rcases h with h | h
  · have := g2 _ (sgn_in hs)
    exact h (small_hi _ (by omega) this.1)
  · exact h ((letI_lt hx hI).mpr fun y hy => g1.2.2 _ (List.mem_map_of_mem hy) _ (by simp))
theorem letI_end {letters b : Str} (h : (decide ((letters.length : Int) < 1) || decide (4 < (letters.length : Int))) = false) (hI : LetI (signs letters) b) : goodL letters := by
  simp only [Bool.or_eq_false_iff, decide_eq_false_iff_not] at h
  refine ⟨by omega, by omega, ?_, ?_⟩
  · rw [← signs_sgn]
    exact hI.1
  · intro c hc
    rw [← signs_sgn] at hc
    obtain ⟨y, hy, rfl⟩ := List.mem_map.mp hc
    exact hI.2.1 y hy
/-! ### check_word -/
theorem enum_mem {s : Str} {c : Nat} (h : c ∈ tl s) : ∃ z ∈ enumI (signs s), sgn z.2 = c := by
  obtain ⟨i, hi⟩ := List.mem_iff_getElem?.mp h
  have h2 : (signs s)[i]? = some ⟨#[c]⟩ := by
    unfold signs
    rw [List.getElem?_map, show s.cps.toList[i]? = some c from hi]
    rfl
  refine ⟨((i : Nat), ⟨#[c]⟩), ?_, rfl⟩
  unfold enumI
  rw [List.mem_map]
  exact ⟨(⟨#[c]⟩, i), by rw [List.mem_zipIdx_iff_getElem?]; exact h2, rfl⟩
theorem tl_getD {s : Str} {k : Nat} {x : Str} (h : (signs s)[k]? = some x) : (tl s).getD k 0 = sgn x := by
  unfold signs at h
  rw [List.getElem?_map] at h
  cases e : s.cps.toList[k]? with
  | none => rw [e] at h; cases h
  | some c =>
    rw [e] at h
    have h : (⟨#[c]⟩ : Str) = x := Option.some.inj h
    subst h
    show s.cps.toList.getD k 0 = c
    rw [List.getD_eq_getElem?_getD, e]
    rfl
theorem enum_split {s : Str} {pre post : List (Int × Str)} {it : Int × Str} (hs : enumI (signs s) = pre ++ it :: post) : it.1 = (pre.length : Int) ∧ (signs s)[pre.length]? = some it.2 := by
  have h1 : (enumI (signs s))[pre.length]? = some it := by rw [hs, List.getElem?_append_right (Nat.le_refl _), Nat.sub_self]; rfl
  exact enumI_get h1
theorem bad_of {letters word : Str} {pre post : List (Int × Str)} {it : Int × Str} (hs : enumI (signs word) = pre ++ it :: post) (hI : ∀ z ∈ pre, sgn z.2 ∈ tl letters) (h : (!decide (sgn it.2 ∈ tl letters)) = true) : badAt letters word pre.length := by
  simp only [Bool.not_eq_true', decide_eq_false_iff_not] at h
  obtain ⟨_, h2⟩ := enum_split hs
  have hl := congrArg List.length hs
  rw [enumI_len, signs_len, List.length_append, List.length_cons] at hl
  refine ⟨by omega, by rw [tl_getD h2]; exact h, fun j hj => ?_⟩
  have hj2 : (enumI (signs word))[j]? = some pre[j] := by
    rw [hs, List.getElem?_append_left hj, List.getElem?_eq_getElem hj]
  rw [tl_getD (enumI_get hj2).2]
  exact hI _ (List.getElem_mem hj)
/-! ### order -/
theorem lex_irr : ∀ l : List Nat, ¬ l < l := fun l h => List.lt_irrefl l h
theorem wLt_trans {a b c : Str} (h1 : wLt a b) (h2 : wLt b c) : wLt a c := by
  rcases h1 with h1 | ⟨h1, k1⟩ <;> rcases h2 with h2 | ⟨h2, k2⟩
  · exact .inl (by omega)
  · exact .inl (by omega)
  · exact .inl (by omega)
  · exact .inr ⟨by omega, List.lt_trans k1 k2⟩
theorem wLt_irr {a : Str} (h : wLt a a) : False := by
  rcases h with h | ⟨_, h⟩
  · omega
  · exact lex_irr _ h
/-- sorted lists with the same members are the same -/
theorem sup_uniq : ∀ {a b : List Str}, a.Pairwise wLt → b.Pairwise wLt → (∀ x, x ∈ a ↔ x ∈ b) → a = b
  | [], [], _, _, _ => rfl
  | [], y :: b, _, _, h => absurd ((h y).mpr (by simp)) (by simp)
  | x :: a, [], _, _, h => absurd ((h x).mp (by simp)) (by simp)
  | x :: a, y :: b, ha, hb, h => by
    rw [List.pairwise_cons] at ha hb
    have e : x = y := by
      rcases List.mem_cons.mp ((h x).mp (by simp)) with e | e
      · exact e
      · rcases List.mem_cons.mp ((h y).mpr (by simp)) with e' | e'
        · exact e'.symm
        · exact (wLt_irr (wLt_trans (ha.1 y e') (hb.1 x e))).elim
    subst e
    have hx : x ∉ a := fun m => wLt_irr (ha.1 x m)
    have hy : x ∉ b := fun m => wLt_irr (hb.1 x m)
    rw [sup_uniq ha.2 hb.2 fun z => ?_]
    constructor
    · intro m
      rcases List.mem_cons.mp ((h z).mp (List.mem_cons_of_mem _ m)) with e | e
      · subst e
        exact (hx m).elim
      · exact e
    · intro m
      rcases List.mem_cons.mp ((h z).mpr (List.mem_cons_of_mem _ m)) with e | e
      · subst e
        exact (hy m).elim
      · exact e
theorem SUp.uniq {Q : Str → Prop} {a b : List Str} (ha : SUp Q a) (hb : SUp Q b) : a = b := sup_uniq ha.1 hb.1 fun x => (ha.2 x).trans (hb.2 x).symm
theorem wLe_total (a b : Str) : (wLe a b || wLe b a) = true := by
  unfold wLe
  rw [Bool.or_eq_true, decide_eq_true_eq, decide_eq_true_eq]
  rcases Nat.lt_trichotomy a.length b.length with h | h | h
  · exact .inl (.inl h)
  · rcases List.le_total a.cps.toList b.cps.toList with k | k
    · exact .inl (.inr ⟨h, k⟩)
    · exact .inr (.inr ⟨h.symm, k⟩)
  · exact .inr (.inl h)
theorem wLe_trans {a b c : Str} (h1 : wLe a b = true) (h2 : wLe b c = true) : wLe a c = true := by
  unfold wLe at *
  rw [decide_eq_true_eq] at *
  rcases h1 with h1 | ⟨h1, k1⟩ <;> rcases h2 with h2 | ⟨h2, k2⟩
  · exact .inl (by omega)
  · exact .inl (by omega)
  · exact .inl (by omega)
  · exact .inr ⟨by omega, List.le_trans k1 k2⟩
theorem wLt_of {a b : Str} (h : wLe a b = true) (ne : a ≠ b) : wLt a b := by
  unfold wLe at h
  rw [decide_eq_true_eq] at h
  rcases h with h | ⟨h, k⟩
  · exact .inl h
  · refine .inr ⟨h, ?_⟩
    rcases List.le_iff_lt_or_eq.mp k with k | k
    · exact k
    · exact absurd (str_eq_iff.mp k) ne
theorem sortW_sup {l : List Str} (hn : l.Nodup) : SUp (· ∈ l) (sortW l) := by
  unfold sortW
  have h1 := List.pairwise_mergeSort (fun a b c => wLe_trans (a := a) (b := b) (c := c)) wLe_total l
  have h2 : (l.mergeSort wLe).Nodup := (List.mergeSort_perm l wLe).nodup_iff.mpr hn
  refine ⟨?_, fun x => (List.mergeSort_perm l wLe).mem_iff⟩
  exact (h1.and h2).imp fun ⟨a, b⟩ => wLt_of a b
theorem SUp.congr {Q Q' : Str → Prop} {r : List Str} (h : SUp Q r) (k : ∀ x, Q x ↔ Q' x) : SUp Q' r := ⟨h.1, fun x => (h.2 x).trans (k x)⟩

/-! ### dicts as sets -/
theorem putD_keys {β : Type} [Enc β] {d : List (Str × β)} {k : Str} {v : β} : keysD (putD d k v) = if k ∈ keysD d then keysD d else keysD d ++ [k] := by
  unfold putD
  have e : (d.any fun q => decide (q.1 = k)) = decide (k ∈ keysD d) := by
    rw [Bool.eq_iff_iff, List.any_eq_true, decide_eq_true_eq]
    unfold keysD
    rw [List.mem_map]
    constructor
    · rintro ⟨q, h1, h2⟩
      exact ⟨q, h1, of_decide_eq_true h2⟩
    · rintro ⟨q, h1, h2⟩
      exact ⟨q, h1, decide_eq_true h2⟩
  rw [e]
  by_cases h : k ∈ keysD d
  · rw [decide_eq_true h, if_pos rfl, if_pos h]
    unfold keysD
    rw [List.map_map]
    refine List.map_congr_left fun q _ => ?_
    show (if q.1 = k then (q.1, v) else q).1 = q.1
    split <;> rfl
  · rw [decide_eq_false h, if_neg Bool.false_ne_true, if_neg h]
    unfold keysD
    rw [List.map_append]
    rfl
theorem putD_mem {β : Type} [Enc β] {d : List (Str × β)} {k x : Str} {v : β} : x ∈ keysD (putD d k v) ↔ x ∈ keysD d ∨ x = k := by
  rw [putD_keys]
  by_cases h : k ∈ keysD d
  · rw [if_pos h]
    exact ⟨.inl, fun q => q.elim id fun e => e ▸ h⟩
  · rw [if_neg h, List.mem_append, List.mem_singleton]
theorem putD_nodup {β : Type} [Enc β] {d : List (Str × β)} {k : Str} {v : β} (h : (keysD d).Nodup) : (keysD (putD d k v)).Nodup := by
  rw [putD_keys]
  by_cases e : k ∈ keysD d
  · rw [if_pos e]
    exact h
  · rw [if_neg e, List.nodup_append]
    refine ⟨h, by simp, fun a ha b hb z => ?_⟩
    simp at hb
    subst hb
    subst z
    exact e ha
theorem putD_len {β : Type} [Enc β] {d : List (Str × β)} {k : Str} {v : β} : (putD d k v).length ≤ d.length + 1 := by
  rw [← keysD_len, ← keysD_len, putD_keys]
  split
  · omega
  · simp
theorem dicI_step {pre : List Str} {d : List (Str × Bool)} {x : Str} {y : Bool} (h : DicI pre d) : DicI (pre ++ [x]) (putD d x y) := by
  obtain ⟨h1, h2, h3⟩ := h
  refine ⟨putD_nodup h1, fun z => ?_, ?_⟩
  · rw [putD_mem, h2, List.mem_append, List.mem_singleton]
  · have := putD_len (d := d) (k := x) (v := y)
    rw [List.length_append, List.length_singleton]
    omega
/-! ### nodup lists in a small list -/
theorem nodup_sub : ∀ {l m : List Str}, l.Nodup → (∀ x ∈ l, x ∈ m) → l.length ≤ m.length
  | [], _, _, _ => Nat.zero_le _
  | x :: l, m, h, s => by
    rw [List.nodup_cons] at h
    have hx : x ∈ m := s x (by simp)
    have h2 : l.length ≤ (m.erase x).length := nodup_sub h.2 fun y hy => by
      have ne : y ≠ x := fun e => h.1 (e ▸ hy)
      exact (List.mem_erase_of_ne ne).mpr (s y (List.mem_cons_of_mem _ hy))
    have h3 := List.length_erase_of_mem hx
    have h4 : 0 < m.length := List.length_pos_of_mem hx
    rw [List.length_cons]
    omega
theorem sc_mono {most : Int} : ∀ {post : List Str} {S : Str → Prop} {x : Str}, S x → post.foldl (scStep most) S x
  | [], _, _, h => h
  | c :: post, S, x, h => sc_mono (post := post) (.inl h)
theorem sc_app {most : Int} {pre post : List Str} {x : Str} (h : scAll most pre x) : scAll most (pre ++ post) x := by
  unfold scAll
  rw [List.foldl_append]
  exact sc_mono h
theorem sc_snoc {most : Int} {pre : List Str} {c x : Str} : scAll most (pre ++ [c]) x ↔ scAll most pre x ∨ ∃ p, scAll most pre p ∧ (p.length : Int) < most ∧ x = p ++ c := by
  unfold scAll
  rw [List.foldl_append]
  exact Iff.rfl
theorem sc_bound {word : Str} {most : Int} (h : ScB word most) {l : List Str} (hn : l.Nodup) (hs : ∀ x ∈ l, scAll most (signs word) x) : l.length ≤ 10000 ∧ ∀ x ∈ l, x.length ≤ 1000 := by
  obtain ⟨_, al, h1, h2⟩ := h
  exact ⟨Nat.le_trans (nodup_sub hn fun x hx => (h2 x (hs x hx)).1) h1, fun x hx => (h2 x (hs x hx)).2⟩

/-! ### count and index of one sign -/
open PySem.StrLaws PySem.Builtin PySem.Builtin.Str in
theorem occ_gen (x : Str) (c limit : Nat) : ∀ (n k : Nat) (found : Array Nat) (free : Nat), free ≤ k → found.size ≤ limit →
    (forIn (List.range' k n) (found, free) (occBody x ⟨#[c]⟩ x.length limit)).run.fst.toList = (found.toList ++ (List.range' k n).filter (fun i => decide (x.cps.toList[i]? = some c))).take limit
  | 0, k, found, free, _, h => by
    show found.toList = (found.toList ++ []).take limit
    rw [List.append_nil, List.take_of_length_le (by simpa using h)]
  | n + 1, k, found, free, hf, h => by
    rw [List.range'_succ, List.forIn_cons]
    unfold occBody
    by_cases hm : x.cps.toList[k]? = some c
    · have h1 := (subAt_one x c k).mpr hm
      by_cases hl : found.size < limit
      · rw [if_pos ⟨⟨⟨hl, hf⟩, h1.1⟩, h1.2⟩]
        have ih := occ_gen x c limit n (k + 1) (found.push k) (k + (⟨#[c]⟩ : Str).length) (Nat.le_refl _) (by rw [Array.size_push]; omega)
        unfold occBody at ih
        refine Eq.trans ih ?_
        rw [List.filter_cons, if_pos (decide_eq_true hm), Array.toList_push, List.append_assoc]
        rfl
      · rw [if_neg (fun z => hl z.1.1.1)]
        have ih := occ_gen x c limit n (k + 1) found free (by omega) h
        unfold occBody at ih
        refine Eq.trans ih ?_
        have e1 : limit ≤ found.toList.length := by rw [Array.length_toList]; omega
        rw [List.take_append_of_le_length e1, List.take_append_of_le_length e1]
    · rw [if_neg (fun z => hm ((subAt_one x c k).mp ⟨z.1.2, z.2⟩))]
      have ih := occ_gen x c limit n (k + 1) found free (by omega) h
      unfold occBody at ih
      refine Eq.trans ih ?_
      rw [List.filter_cons, if_neg (by rw [decide_eq_true_eq]; exact hm)]
theorem pos_shift {l : List Nat} {a k c : Nat} (n : Nat) : (List.range' (k + 1) n).filter (fun i => decide ((a :: l)[i - k]? = some c)) = (List.range' (k + 1) n).filter (fun i => decide (l[i - (k + 1)]? = some c)) := by
  refine List.filter_congr fun i hi => ?_
  rw [List.mem_range'] at hi
  obtain ⟨j, hj, rfl⟩ := hi
  have e : k + 1 + 1 * j - k = (k + 1 + 1 * j - (k + 1)) + 1 := by omega
  rw [e, List.getElem?_cons_succ]
theorem pos_count (c : Nat) : ∀ (l : List Nat) (k : Nat), ((List.range' k (l.length + 1)).filter (fun i => decide (l[i - k]? = some c))).length = l.count c
  | [], k => by simp
  | a :: l, k => by
    rw [List.length_cons, List.range'_succ, List.filter_cons, pos_shift]
    have ih := pos_count c l (k + 1)
    rw [Nat.sub_self, List.getElem?_cons_zero, List.count_cons]
    by_cases h : a = c
    · rw [if_pos (by rw [h]; simp), List.length_cons, ih, if_pos (by rw [h]; simp)]
    · rw [if_neg (by simpa using h), ih, if_neg (by simpa using h)]
      omega
theorem pos_head (c : Nat) : ∀ (l : List Nat) (k : Nat), c ∈ l → ((List.range' k (l.length + 1)).filter (fun i => decide (l[i - k]? = some c))).head? = some (k + l.idxOf c)
  | [], k, h => by simp at h
  | a :: l, k, h => by
    rw [List.length_cons, List.range'_succ, List.filter_cons, pos_shift, Nat.sub_self, List.getElem?_cons_zero, List.idxOf_cons]
    by_cases e : a = c
    · rw [if_pos (by rw [e]; simp), e]
      simp
    · rw [if_neg (by simpa using e)]
      have hc : c ∈ l := by
        rcases List.mem_cons.mp h with h | h
        · exact absurd h.symm e
        · exact h
      have ih := pos_head c l (k + 1) hc
      rw [ih]
      have : (a == c) = false := by simpa using e
      rw [this]
      show some (k + 1 + l.idxOf c) = some (k + (l.idxOf c + 1))
      congr 1
      omega
theorem count_one (x : Str) (c : Nat) : Txt.count x ⟨#[c]⟩ = ((tl x).count c : Nat) := by
  unfold Txt.count
  rw [PySem.StrLaws.occ_eq, occ_gen x c (x.length + 1) _ 0 #[] 0 (Nat.le_refl _) (by simp)]
  have h := pos_count c x.cps.toList 0
  rw [Array.length_toList] at h
  have e : x.length + 1 - 0 = x.cps.size + 1 := rfl
  rw [e, List.nil_append, List.take_of_length_le]
  · exact congrArg _ h
  · refine Nat.le_trans (List.length_filter_le _ _) ?_
    rw [List.length_range']
    exact Nat.le_refl _
theorem index_one {x : Str} {c : Nat} (h : c ∈ tl x) : Txt.index0 x ⟨#[c]⟩ = some ((tl x).idxOf c) := by
  unfold Txt.index0
  rw [PySem.StrLaws.occ_eq, occ_gen x c 1 _ 0 #[] 0 (Nat.le_refl _) (by simp)]
  have e := pos_head c x.cps.toList 0 h
  rw [Array.length_toList] at e
  have e2 : x.length + 1 - 0 = x.cps.size + 1 := rfl
  rw [e2, List.nil_append, List.head?_take, if_neg (by decide)]
  have e3 : (fun i => decide (x.cps.toList[i - 0]? = some c)) = fun i => decide (x.cps.toList[i]? = some c) := rfl
  rw [e3] at e
  rw [e, Nat.zero_add]
theorem index_sgn {letters x : Str} (hx : x = ⟨#[sgn x]⟩) (h : sgn x ∈ tl letters) : Txt.index0 letters x = some (idx letters x) ∧ idx letters x = (tl letters).idxOf (sgn x) := by
  have e : Txt.index0 letters x = some ((tl letters).idxOf (sgn x)) := by
    have := index_one h
    rw [← hx] at this
    exact this
  unfold idx
  rw [e]
  exact ⟨rfl, rfl⟩
theorem count_sgn {word x : Str} (hx : x = ⟨#[sgn x]⟩) : Txt.count word x = cntS word x := by
  have := count_one word (sgn x)
  rw [← hx] at this
  exact this

/-! ### texts -/
theorem tl_app (x y : Str) : tl (x ++ y) = tl x ++ tl y := by
  show (x.cps ++ y.cps).toList = _
  simp
theorem len_tl (x : Str) : (tl x).length = x.length := Array.length_toList
theorem len_app (x y : Str) : (x ++ y).length = x.length + y.length := by rw [← len_tl, tl_app, List.length_append, len_tl, len_tl]
theorem len_one {x : Str} (h : x = ⟨#[sgn x]⟩) : x.length = 1 := by rw [← len_tl, tl_one h]; rfl
/-! ### sums of powers -/
def geoN (L : Nat) : Nat → Nat
  | 0 => 0
  | n + 1 => geoN L n + L ^ n
theorem geo_cast (L : Nat) : ∀ n, geo L n = (geoN L n : Nat)
  | 0 => rfl
  | n + 1 => by
    show geo L n + (L : Int) ^ n = ((geoN L n + L ^ n : Nat) : Int)
    rw [geo_cast L n]
    push_cast
    rfl
theorem geoN_mul (L : Nat) : ∀ n, geoN L (n + 1) = L * geoN L n + 1
  | 0 => by show 0 + L ^ 0 = L * 0 + 1; rw [Nat.pow_zero, Nat.mul_zero]
  | n + 1 => by
    show geoN L (n + 1) + L ^ (n + 1) = _
    have ih := geoN_mul L n
    have e : L * geoN L (n + 1) = L * geoN L n + L * L ^ n := by
      show L * (geoN L n + L ^ n) = _
      rw [Nat.mul_add]
    rw [Nat.pow_succ, Nat.mul_comm (L ^ n)]
    omega
theorem geo_small : ∀ L, L < 5 → ∀ n, n < 8 → geoN L n ≤ 6000 ∧ L ^ n ≤ 20000 := by decide
/-! ### words by number -/
theorem wAt_zero (ls : List Nat) : wAt ls 0 = [] := by rw [wAt]; simp
theorem wAt_step {ls : List Nat} {m r : Nat} (h : r < ls.length) : wAt ls (ls.length * m + r + 1) = wAt ls m ++ [ls.getD r 0] := by
  rw [wAt, dif_neg (by omega)]
  have e1 : (ls.length * m + r + 1 - 1) / ls.length = m := by
    rw [Nat.add_sub_cancel, Nat.mul_add_div (by omega), Nat.div_eq_of_lt h, Nat.add_zero]
  have e2 : (ls.length * m + r + 1 - 1) % ls.length = r := by
    rw [Nat.add_sub_cancel, Nat.mul_add_mod, Nat.mod_eq_of_lt h]
  rw [e1, e2]
theorem wAt_succ {ls : List Nat} (h : 0 < ls.length) (n : Nat) : wAt ls (n + 1) = wAt ls (n / ls.length) ++ [ls.getD (n % ls.length) 0] := by
  rw [wAt, dif_neg (by omega), Nat.add_sub_cancel]
theorem wAt_len_le (ls : List Nat) (n : Nat) : (wAt ls n).length ≤ n := by
  induction n using Nat.strongRecOn with
  | ind n ih =>
    rw [wAt]
    split
    · simp
    · rename_i h
      rw [List.length_append, List.length_singleton]
      have h1 : (n - 1) / ls.length ≤ n - 1 := Nat.div_le_self _ _
      have := ih ((n - 1) / ls.length) (by omega)
      omega
theorem wAt_len_lt {ls : List Nat} (h : 0 < ls.length) : ∀ (k n : Nat), n < geoN ls.length (k + 1) → (wAt ls n).length ≤ k
  | 0, n, hn => by
    have e : geoN ls.length 1 = 1 := rfl
    rw [Nat.zero_add, e] at hn
    have e2 : n = 0 := by omega
    rw [e2, wAt_zero]
    simp
  | k + 1, n, hn => by
    cases n with
    | zero => rw [wAt_zero]; simp
    | succ n =>
      rw [wAt_succ h, List.length_append, List.length_singleton]
      rw [geoN_mul] at hn
      have := wAt_len_lt h k (n / ls.length) (Nat.div_lt_of_lt_mul (by omega))
      omega
theorem wAt_len_ge {ls : List Nat} (h : 0 < ls.length) : ∀ (k n : Nat), geoN ls.length k ≤ n → k ≤ (wAt ls n).length
  | 0, n, _ => Nat.zero_le _
  | k + 1, n, hn => by
    rw [geoN_mul] at hn
    cases n with
    | zero => omega
    | succ n =>
      rw [wAt_succ h, List.length_append, List.length_singleton]
      have h2 : geoN ls.length k ≤ n / ls.length := by
        rw [Nat.le_div_iff_mul_le h, Nat.mul_comm]
        omega
      have := wAt_len_ge h k _ h2
      omega
/-! ### rank -/
theorem rankF_snoc {letters c : Str} {pre : List Str} : rankF letters (pre ++ [c]) = rankF letters pre * (letters.length : Int) + ((tl letters).idxOf (sgn c) : Nat) + 1 := by
  unfold rankF
  rw [List.foldl_append]
  rfl
theorem valF_snoc {letters c : Str} {pre : List Str} : valF letters (pre ++ [c]) = valF letters pre * (letters.length : Int) + ((tl letters).idxOf (sgn c) : Nat) := by
  unfold valF
  rw [List.foldl_append]
  rfl
theorem snoc_ind {P : List Str → Prop} (h0 : P []) (hs : ∀ l x, P l → P (l ++ [x])) (l : List Str) : P l := by
  have key : ∀ l : List Str, P l.reverse := by
    intro l
    induction l with
    | nil => exact h0
    | cons x l ih =>
      rw [List.reverse_cons]
      exact hs _ _ ih
  have := key l.reverse
  rwa [List.reverse_reverse] at this
theorem rank_val (letters : Str) (w : List Str) : rankF letters w = geo letters.length w.length + valF letters w := by
  induction w using snoc_ind with
  | h0 => rfl
  | hs l x ih =>
    rw [rankF_snoc, valF_snoc, ih, List.length_append, List.length_singleton, geo_cast, geo_cast, geoN_mul]
    rw [Int.add_mul]
    push_cast
    rw [Int.mul_comm (letters.length : Int)]
    omega
theorem rank_nonneg (letters : Str) (w : List Str) : 0 ≤ rankF letters w := by
  induction w using snoc_ind with
  | h0 => exact Int.le_refl _
  | hs l x ih =>
    rw [rankF_snoc]
    have := Int.mul_nonneg ih (Int.natCast_nonneg letters.length)
    omega
theorem rank_wAt (letters : Str) (w : List Str) : (∀ c ∈ w, sgn c ∈ tl letters) → wAt (tl letters) (rankF letters w).toNat = w.map sgn := by
  induction w using snoc_ind with
  | h0 => intro _; exact wAt_zero _
  | hs l x ih =>
    intro h
    have hx : sgn x ∈ tl letters := h x (by simp)
    have hi : (tl letters).idxOf (sgn x) < (tl letters).length := List.idxOf_lt_length_of_mem hx
    have e : (rankF letters (l ++ [x])).toNat = (tl letters).length * (rankF letters l).toNat + (tl letters).idxOf (sgn x) + 1 := by
      have h0 := rank_nonneg letters l
      rw [rankF_snoc, len_tl]
      obtain ⟨m, hm⟩ := Int.eq_ofNat_of_zero_le h0
      rw [hm, Int.toNat_natCast]
      have e2 : ((m : Int) * (letters.length : Int) + ((tl letters).idxOf (sgn x) : Nat) + 1) = ((letters.length * m + (tl letters).idxOf (sgn x) + 1 : Nat) : Int) := by
        push_cast
        rw [Int.mul_comm]
      rw [e2, Int.toNat_natCast]
    rw [e, wAt_step hi, ih (fun c hc => h c (by simp [hc])), List.map_append]
    congr 1
    show [_] = [_]
    rw [List.getD_eq_getElem?_getD, List.getElem?_eq_getElem hi, Option.getD_some, List.getElem_idxOf]

/-! ### all words -/
theorem flatMap_congr' {β γ : Type} {f g : β → List γ} : ∀ {l : List β}, (∀ x ∈ l, f x = g x) → l.flatMap f = l.flatMap g
  | [], _ => rfl
  | x :: l, h => by
    rw [List.flatMap_cons, List.flatMap_cons, h x (by simp), flatMap_congr' fun y hy => h y (List.mem_cons_of_mem _ hy)]
theorem range_mul {β : Type} (f : Nat → β) (b : Nat) : ∀ a : Nat, (List.range (a * b)).map f = (List.range a).flatMap fun i => (List.range b).map fun r => f (b * i + r)
  | 0 => by simp
  | a + 1 => by
    rw [Nat.succ_mul, List.range_add, List.map_append, range_mul f b a, List.range_succ, List.flatMap_append, List.flatMap_singleton, List.map_map]
    congr 1
    refine List.map_congr_left fun r _ => ?_
    show f (a * b + r) = f (b * a + r)
    rw [Nat.mul_comm]
theorem map_range_get (ls : List Nat) : ls = (List.range ls.length).map fun r => ls.getD r 0 := by
  apply List.ext_getElem?
  intro i
  rw [List.getElem?_map]
  by_cases h : i < ls.length
  · rw [List.getElem?_range h, List.getElem?_eq_getElem h]
    show _ = some (ls.getD i 0)
    rw [List.getD_eq_getElem?_getD, List.getElem?_eq_getElem h]
    rfl
  · rw [List.getElem?_eq_none (by omega), List.getElem?_eq_none (by rw [List.length_range]; omega)]
    rfl
theorem layI_nil {letters : Str} {la to : List Str} (h1 : la = [("" : Str)]) (h2 : to = [("" : Str)]) : LayI letters 0 la to := by
  subst h1
  subst h2
  refine ⟨?_, ?_⟩
  · show [([] : List Nat)] = (List.range (geo letters.length 1).toNat).map _
    rw [geo_cast]
    show _ = (List.range 1).map _
    show _ = [wAt _ 0]
    rw [wAt_zero]
  · show [([] : List Nat)] = (List.range (letters.length ^ 0)).map _
    rw [Nat.pow_zero, geo_cast]
    show _ = [wAt _ (0 + 0)]
    rw [wAt_zero]
theorem lay_map {letters : Str} {la : List Str} : (la.flatMap fun x => (signs letters).map fun l => x ++ l).map tl = (la.map tl).flatMap fun w => (tl letters).map fun c => w ++ [c] := by
  rw [List.map_flatMap, List.flatMap_map]
  refine flatMap_congr' fun x _ => ?_
  rw [List.map_map, ← signs_sgn (s := letters), List.map_map]
  refine List.map_congr_left fun l hl => ?_
  show tl (x ++ l) = tl x ++ [sgn l]
  rw [tl_app, tl_one (sgn_mem hl).1]
theorem layI_step {letters : Str} {n : Nat} {la to la1 to1 : List Str} (h : LayI letters n la to) (h1 : la1 = la.flatMap fun x => (signs letters).map fun l => x ++ l) (h2 : to1 = to ++ la1) : LayI letters (n + 1) la1 to1 := by
  obtain ⟨k1, k2⟩ := h
  have k3 : la1.map tl = (List.range ((letters.length ^ (n + 1) : Nat))).map fun i => wAt (tl letters) ((geo letters.length (n + 1)).toNat + i) := by
    rw [h1, lay_map, k2, Nat.pow_succ, range_mul, List.flatMap_map]
    refine flatMap_congr' fun i _ => ?_
    have e : (tl letters).map (fun c => wAt (tl letters) ((geo letters.length n).toNat + i) ++ [c]) = ((List.range (tl letters).length).map fun r => (tl letters).getD r 0).map (fun c => wAt (tl letters) ((geo letters.length n).toNat + i) ++ [c]) := by rw [← map_range_get]
    rw [e, List.map_map, len_tl]
    refine List.map_congr_left fun r hr => ?_
    have hr : r < (tl letters).length := by rw [len_tl]; exact List.mem_range.mp hr
    show wAt (tl letters) ((geo letters.length n).toNat + i) ++ [(tl letters).getD r 0] = _
    rw [← wAt_step hr, geo_cast, geo_cast, Int.toNat_natCast, Int.toNat_natCast, geoN_mul, len_tl]
    congr 1
    rw [Nat.mul_add]
    omega
  refine ⟨?_, k3⟩
  rw [h2, List.map_append, k1, k3, geo_cast, geo_cast, Int.toNat_natCast, Int.toNat_natCast]
  show _ = (List.range (geoN letters.length (n + 1) + letters.length ^ (n + 1))).map _
  rw [List.range_add, List.map_append, List.map_map]
  rfl
theorem lay_len {letters : Str} {n : Nat} {la to : List Str} (g : goodL letters) (hn : n < 7) (h : LayI letters n la to) : la.length ≤ 20000 ∧ to.length ≤ 6000 ∧ ∀ w ∈ la, w.length ≤ 26000 := by
  obtain ⟨k1, k2⟩ := h
  have g2 := g.2.1
  have b1 := geo_small letters.length (by omega) n (by omega)
  have b2 := geo_small letters.length (by omega) (n + 1) (by omega)
  have l1 := congrArg List.length k1
  have l2 := congrArg List.length k2
  rw [List.length_map, List.length_map, List.length_range] at l1 l2
  rw [geo_cast, Int.toNat_natCast] at l1
  refine ⟨by omega, by omega, fun w hw => ?_⟩
  have hw : tl w ∈ la.map tl := List.mem_map_of_mem hw
  rw [k2] at hw
  obtain ⟨i, hi, e⟩ := List.mem_map.mp hw
  have hi := List.mem_range.mp hi
  have h3 := wAt_len_le (tl letters) ((geo letters.length n).toNat + i)
  rw [e, len_tl, geo_cast, Int.toNat_natCast] at h3
  omega
theorem flat_len {β γ : Type} (f : β → List γ) (m : Nat) : ∀ l : List β, (∀ x ∈ l, (f x).length ≤ m) → (l.flatMap f).length ≤ l.length * m
  | [], _ => by simp
  | x :: l, h => by
    rw [List.flatMap_cons, List.length_append, List.length_cons, Nat.succ_mul]
    have h1 := h x (by simp)
    have h2 := flat_len f m l fun y hy => h y (List.mem_cons_of_mem _ hy)
    omega
theorem lay_flat {letters : Str} {la : List Str} (g : goodL letters) (h : la.length ≤ 20000) (n : Nat) : ((la.take n).flatMap fun x => (signs letters).map fun l => x ++ l).length ≤ 80000 := by
  have h1 := flat_len (fun x : Str => (signs letters).map fun l => x ++ l) 4 (la.take n) fun x _ => by
    rw [List.length_map, signs_len]
    exact g.2.1
  rw [List.length_take] at h1
  omega
theorem tl_inj : ∀ {a b : List Str}, a.map tl = b.map tl → a = b
  | [], [], _ => rfl
  | [], _ :: _, h => by simp at h
  | _ :: _, [], h => by simp at h
  | x :: a, y :: b, h => by
    rw [List.map_cons, List.map_cons, List.cons.injEq] at h
    rw [tl_inj h.2, str_eq_iff.mp h.1]
theorem AllW.uniq {letters : Str} {most : Int} {a b : List Str} (h1 : AllW letters most a) (h2 : AllW letters most b) : a = b := tl_inj (Eq.trans h1 (Eq.symm h2))
theorem layI_end {letters : Str} {most : Int} {la to : List Str} (h : LayI letters (rngI 0 most.toNat).length la to) : AllW letters most to := by
  have := h.1
  rw [rngI_len] at this
  exact this

/-! ### word_at -/
theorem sgnAt_tl (z : Str) (k : Nat) : tl (sgnAt z k) = [(tl z).getD k 0] := by
  show [z.cps.getD k 0] = _
  congr 1
  show _ = z.cps.toList.getD k 0
  rw [List.getD_eq_getElem?_getD, Array.getElem?_toList]
  by_cases h : k < z.cps.size
  · rw [Array.getElem?_eq_getElem h]
    simp [Array.getD, h]
  · rw [Array.getElem?_eq_none (by omega)]
    simp [Array.getD, h]
theorem sgnAt_len (z : Str) (k : Nat) : (sgnAt z k).length = 1 := rfl
theorem wat_step {letters : Str} {number : Int} {i : Str × Int} {qr : Int × Int} {w1 : Str} (g : goodL letters) (hw : WatI letters number i) (hp : decide (0 < i.2) = true) (hq : qr = ((i.2 - 1) / (letters.length : Int), (i.2 - 1) % (letters.length : Int))) :
    (0 ≤ qr.2 ∧ qr.2 < letters.length) ∧ qr.1.toNat < i.2.toNat ∧ (w1 = sgnAt letters qr.2.toNat ++ i.1 → WatI letters number (w1, qr.1)) := by
  have hp := of_decide_eq_true hp
  have g1 := g.1
  obtain ⟨m, hm⟩ : ∃ m : Nat, i.2 = (m : Int) + 1 := ⟨(i.2 - 1).toNat, by omega⟩
  have e1 : i.2 - 1 = (m : Int) := by omega
  rw [e1] at hq
  have q1 : qr.1 = ((m / letters.length : Nat) : Int) := by rw [hq]; rfl
  have q2 : qr.2 = ((m % letters.length : Nat) : Int) := by rw [hq]; rfl
  have hlt : m % letters.length < letters.length := Nat.mod_lt _ (by omega)
  have hdv : m / letters.length ≤ m := Nat.div_le_self _ _
  have hi : i.2.toNat = m + 1 := by omega
  refine ⟨by omega, by omega, fun h1 => ?_⟩
  obtain ⟨w0, w2⟩ := hw
  refine ⟨?_, ?_⟩
  · show qr.1.toNat ≤ _
    omega
  · show _ = wAt (tl letters) qr.1.toNat ++ tl w1
    rw [w2, hi, wAt_succ (by rw [len_tl]; omega), h1, tl_app, sgnAt_tl, q1, q2, Int.toNat_natCast, Int.toNat_natCast, len_tl, List.append_assoc]
theorem wat_len {letters : Str} {number : Int} {i : Str × Int} (hw : WatI letters number i) (h : (wAt (tl letters) number.toNat).length ≤ 1000) : i.1.length ≤ 1000 := by
  rw [hw.2, List.length_append, len_tl] at h
  omega
theorem wat_end {letters : Str} {number : Int} {i : Str × Int} (hw : WatI letters number i) (h : decide (0 < i.2) = false) : tl i.1 = wAt (tl letters) number.toNat := by
  have h := of_decide_eq_false h
  rw [hw.2, show i.2.toNat = 0 by omega, wAt_zero, List.nil_append]
/-! ### scattered words -/
theorem scI_nil {word : Str} {most : Int} : ScI word most [] [(("" : Str), true)] := by
  refine ⟨by simp [keysD], fun x => ?_⟩
  show x ∈ [("" : Str)] ↔ x = ""
  simp
theorem scJ_nil {word x : Str} {most : Int} {pre : List Str} {d : List (Str × Bool)} (h : ScI word most pre d) : ScJ word most pre x [] d := by
  refine ⟨h.1, fun z => ?_⟩
  rw [h.2]
  simp
theorem scJ_yes {word x y : Str} {most : Int} {pre pre2 : List Str} {d : List (Str × Bool)} {b : Bool} (h : ScJ word most pre x pre2 d) (hy : decide ((y.length : Int) < most) = true) : ScJ word most pre x (pre2 ++ [y]) (putD d (y ++ x) b) := by
  refine ⟨putD_nodup h.1, fun z => ?_⟩
  rw [putD_mem, h.2]
  constructor
  · rintro ((h1 | ⟨p, hp, h1⟩) | h1)
    · exact .inl h1
    · exact .inr ⟨p, by simp [hp], h1⟩
    · exact .inr ⟨y, by simp, of_decide_eq_true hy, h1⟩
  · rintro (h1 | ⟨p, hp, h1, h2⟩)
    · exact .inl (.inl h1)
    · rcases List.mem_append.mp hp with hp | hp
      · exact .inl (.inr ⟨p, hp, h1, h2⟩)
      · simp at hp
        subst hp
        exact .inr h2
theorem scJ_no {word x y : Str} {most : Int} {pre pre2 : List Str} {d : List (Str × Bool)} (h : ScJ word most pre x pre2 d) (hy : decide ((y.length : Int) < most) = false) : ScJ word most pre x (pre2 ++ [y]) d := by
  refine ⟨h.1, fun z => ?_⟩
  rw [h.2]
  constructor
  · rintro (h1 | ⟨p, hp, h1⟩)
    · exact .inl h1
    · exact .inr ⟨p, by simp [hp], h1⟩
  · rintro (h1 | ⟨p, hp, h1, h2⟩)
    · exact .inl h1
    · rcases List.mem_append.mp hp with hp | hp
      · exact .inr ⟨p, hp, h1, h2⟩
      · simp at hp
        subst hp
        exact absurd h1 (of_decide_eq_false hy)
theorem scJ_end {word x : Str} {most : Int} {pre : List Str} {d d2 : List (Str × Bool)} (hI : ScI word most pre d) (h : ScJ word most pre x (keysD d) d2) : ScI word most (pre ++ [x]) d2 := by
  refine ⟨h.1, fun z => ?_⟩
  rw [h.2, sc_snoc]
  constructor
  · rintro (h1 | ⟨p, hp, h1⟩)
    · exact .inl h1
    · exact .inr ⟨p, (hI.2 p).mp hp, h1⟩
  · rintro (h1 | ⟨p, hp, h1⟩)
    · exact .inl h1
    · exact .inr ⟨p, (hI.2 p).mpr hp, h1⟩
theorem scI_bound {word : Str} {most : Int} {pre post : List Str} {d : List (Str × Bool)} (hB : ScB word most) (hs : signs word = pre ++ post) (h : ScI word most pre d) : (keysD d).length ≤ 10000 ∧ ∀ x ∈ keysD d, x.length ≤ 1000 :=
  sc_bound hB h.1 fun x hx => by rw [hs]; exact sc_app ((h.2 x).mp hx)
theorem scJ_bound {word x : Str} {most : Int} {pre post pre2 : List Str} {d d2 : List (Str × Bool)} (hB : ScB word most) (hs : signs word = pre ++ x :: post) (hI : ScI word most pre d) (hp : ∀ y ∈ pre2, y ∈ keysD d) (h : ScJ word most pre x pre2 d2) : d2.length ≤ 10000 := by
  rw [← keysD_len]
  refine (sc_bound hB h.1 fun z hz => ?_).1
  rw [hs, show pre ++ x :: post = (pre ++ [x]) ++ post by simp]
  refine sc_app (sc_snoc.mpr ?_)
  rcases (h.2 z).mp hz with h1 | ⟨p, h1, h2⟩
  · exact .inl h1
  · exact .inr ⟨p, (hI.2 p).mp (hp p h1), h2⟩
theorem paI_nil {word : Str} {most : Int} {t : List Str} (h : t = [("" : Str)]) : PaI word most [] t := by
  subst h
  exact ⟨by simp, fun x => by show x ∈ [("" : Str)] ↔ x = ""; simp⟩
theorem paI_bound {word : Str} {most : Int} {pre post : List Str} {t : List Str} (hB : ScB word most) (hs : signs word = pre ++ post) (h : PaI word most pre t) : t.length ≤ 10000 ∧ ∀ x ∈ t, x.length ≤ 1000 :=
  sc_bound hB h.1 fun x hx => by rw [hs]; exact sc_app ((h.2 x).mp hx)
theorem paJ_nil {word x : Str} {most : Int} {pre t : List Str} (h : PaI word most pre t) : PaJ word most pre x t [] t := ⟨h.1, fun z => by simp⟩
theorem paJ_yes {word x y : Str} {most : Int} {pre t pre2 t2 : List Str} (h : PaJ word most pre x t pre2 t2) (hy : (!decide (y ∈ t2)) = true) : PaJ word most pre x t (pre2 ++ [y]) (t2 ++ [y]) := by
  simp only [Bool.not_eq_true', decide_eq_false_iff_not] at hy
  refine ⟨?_, fun z => ?_⟩
  · rw [List.nodup_append]
    refine ⟨h.1, by simp, fun a ha b hb e => ?_⟩
    simp at hb
    subst hb
    subst e
    exact hy ha
  · rw [List.mem_append, h.2, List.mem_append, or_assoc]
theorem paJ_no {word x y : Str} {most : Int} {pre t pre2 t2 : List Str} (h : PaJ word most pre x t pre2 t2) (hy : (!decide (y ∈ t2)) = false) : PaJ word most pre x t (pre2 ++ [y]) t2 := by
  simp only [Bool.not_eq_false', decide_eq_true_eq] at hy
  refine ⟨h.1, fun z => ?_⟩
  rw [h.2, List.mem_append, ← or_assoc]
  constructor
  · exact .inl
  · rintro (h1 | h1)
    · exact h1
    · simp at h1
      subst h1
      exact (h.2 _).mp hy
theorem paJ_mem {x z : Str} {most : Int} {t : List Str} : z ∈ ((t.filter fun (one : Str) => decide ((one.length : Int) < most)).map fun (one : Str) => one ++ x) ↔ ∃ p ∈ t, (p.length : Int) < most ∧ z = p ++ x := by
  rw [List.mem_map]
  constructor
  · rintro ⟨p, h1, h2⟩
    rw [List.mem_filter, decide_eq_true_eq] at h1
    exact ⟨p, h1.1, h1.2, h2.symm⟩
  · rintro ⟨p, h1, h2, h3⟩
    exact ⟨p, by rw [List.mem_filter, decide_eq_true_eq]; exact ⟨h1, h2⟩, h3.symm⟩
theorem paJ_end {word x : Str} {most : Int} {pre t t2 : List Str} (hI : PaI word most pre t) (h : PaJ word most pre x t ((t.filter fun (one : Str) => decide ((one.length : Int) < most)).map fun (one : Str) => one ++ x) t2) : PaI word most (pre ++ [x]) t2 := by
  refine ⟨h.1, fun z => ?_⟩
  rw [h.2, sc_snoc, hI.2, paJ_mem]
  constructor
  · rintro (h1 | ⟨p, hp, h1⟩)
    · exact .inl h1
    · exact .inr ⟨p, (hI.2 p).mp hp, h1⟩
  · rintro (h1 | ⟨p, hp, h1⟩)
    · exact .inl h1
    · exact .inr ⟨p, (hI.2 p).mpr hp, h1⟩
theorem paJ_bound {word x : Str} {most : Int} {pre post t pre2 t2 : List Str} (hB : ScB word most) (hs : signs word = pre ++ x :: post) (hI : PaI word most pre t) (hp : ∀ y ∈ pre2, y ∈ ((t.filter fun (one : Str) => decide ((one.length : Int) < most)).map fun (one : Str) => one ++ x)) (h : PaJ word most pre x t pre2 t2) : t2.length ≤ 10000 := by
  refine (sc_bound hB h.1 fun z hz => ?_).1
  rw [hs, show pre ++ x :: post = (pre ++ [x]) ++ post by simp]
  refine sc_app (sc_snoc.mpr ?_)
  rcases (h.2 z).mp hz with h1 | h1
  · exact .inl ((hI.2 z).mp h1)
  · obtain ⟨p, h1, h2⟩ := paJ_mem.mp (hp z h1)
    exact .inr ⟨p, (hI.2 p).mp h1, h2⟩

/-! ### slices -/
theorem cut_pre {z : Str} {k : Nat} : tl (cutS z none (some (k : Int))) = (tl z).take k := by
  show ((z.cps.toList.drop (HT.sIx z.length 0 none)).take (HT.sIx z.length z.length (some (k : Int)) - HT.sIx z.length 0 none)).toArray.toList = _
  rw [HT.sIx_none, HT.sIx_nat, Nat.sub_zero, List.drop_zero]
  show (tl z).take (min k z.length) = _
  rw [← len_tl, List.take_eq_take_iff]
  omega
theorem cut_post {z : Str} {k : Nat} : tl (cutS z (some (k : Int)) none) = (tl z).drop k := by
  show ((z.cps.toList.drop (HT.sIx z.length 0 (some (k : Int)))).take (HT.sIx z.length z.length none - HT.sIx z.length 0 (some (k : Int)))).toArray.toList = _
  rw [HT.sIx_none, HT.sIx_nat]
  show ((tl z).drop (min k z.length)).take (z.length - min k z.length) = _
  rw [List.take_of_length_le (by rw [List.length_drop, len_tl]; exact Nat.le_refl _), ← len_tl]
  by_cases h : k ≤ (tl z).length
  · rw [Nat.min_eq_left h]
  · rw [Nat.min_eq_right (by omega), List.drop_of_length_le (Nat.le_refl _), List.drop_of_length_le (by omega)]
theorem win_bound {word : Str} {size : Int} (h : word.length ≤ 1000) (hs : 1 ≤ size) : (winL word size).length ≤ 10000 ∧ ∀ w ∈ winL word size, w.length ≤ 1000 := by
  unfold winL
  refine ⟨by rw [List.length_map, rngI_len]; omega, fun w hw => ?_⟩
  obtain ⟨k, _, rfl⟩ := List.mem_map.mp hw
  exact Nat.le_trans (cutS_length _ _ _) h
/-! ### classes -/
theorem clsI_len {word : Str} {a b : Int} {pre : List Str} {t : List Int} (h : ClsI word a b pre t) : t.length = pre.length := by
  rw [h, List.length_map]
theorem clsI_snoc {word x : Str} {a b y : Int} {pre : List Str} {t : List Int} (h : ClsI word a b pre t) (hy : y = clsF (cntS word x) a b) : ClsI word a b (pre ++ [x]) (t ++ [y]) := by
  unfold ClsI at *
  rw [h, hy, List.map_append]
  rfl
theorem cls_yes {n a b : Int} (h : decide (a ≤ n) = true) : a + (n - a) % b = clsF n a b := by
  unfold clsF
  rw [if_pos (of_decide_eq_true h)]
theorem cls_no {n a b : Int} (h : decide (a ≤ n) = false) : n = clsF n a b := by
  unfold clsF
  rw [if_neg (of_decide_eq_false h)]
theorem cls_sub {v a b : Int} (hb : 1 ≤ b) (h : a + b ≤ v) : clsF (v - b) a b = clsF v a b := by
  unfold clsF
  rw [if_pos (by omega), if_pos (by omega)]
  congr 1
  rw [show v - b - a = v - a - b by omega, Int.sub_emod_right]
theorem cls_small {v a b : Int} (ha : 0 ≤ v) (hb : 1 ≤ b) (h : v < a + b) : v = clsF v a b := by
  unfold clsF
  split
  · rw [Int.emod_eq_of_lt (by omega) (by omega)]
    omega
  · rfl
theorem cntS_le (word x : Str) : 0 ≤ cntS word x ∧ cntS word x ≤ word.length := by
  unfold cntS
  have h : (tl word).count (sgn x) ≤ (tl word).length := List.count_le_length
  rw [len_tl] at h
  omega
theorem cnt_start {word x : Str} {a b c : Int} (h : c = cntS word x) : CntI word a b x 0 c := by
  subst h
  exact ⟨rfl, (cntS_le word x).1, .inr (by simp)⟩
theorem cnt_yes {word x : Str} {a b c c1 : Int} {n : Nat} (ha : 0 ≤ a) (hb : 1 ≤ b) (h : CntI word a b x n c) (hc : decide (a + b ≤ c) = true) (e : c1 = c - b) : CntI word a b x (n + 1) c1 := by
  have hc := of_decide_eq_true hc
  obtain ⟨h1, h2, h3⟩ := h
  subst e
  refine ⟨by rw [cls_sub hb hc, h1], by omega, .inr ?_⟩
  rcases h3 with h3 | h3
  · omega
  · push_cast
    rw [Int.add_mul]
    omega
theorem cnt_no {word x : Str} {a b c : Int} {n : Nat} (h : CntI word a b x n c) (hc : decide (a + b ≤ c) = false) : CntI word a b x (n + 1) c := by
  have hc := of_decide_eq_false hc
  exact ⟨h.1, h.2.1, .inl (by omega)⟩
theorem cnt_end {word x : Str} {a b c : Int} {n : Nat} (ha : 0 ≤ a) (hb : 1 ≤ b) (hn : n = word.length) (h : CntI word a b x n c) : c = clsF (cntS word x) a b := by
  obtain ⟨h1, h2, h3⟩ := h
  rw [← h1]
  refine cls_small h2 hb ?_
  rcases h3 with h3 | h3
  · exact h3
  · have := (cntS_le word x).2
    have h4 : (n : Int) * b ≥ (n : Int) * 1 := Int.mul_le_mul_of_nonneg_left hb (by omega)
    omega
theorem filter_count {word x : Str} (hx : x = ⟨#[sgn x]⟩) : (((signs word).filter fun (sign : Str) => decide (sign = x)).map fun (sign : Str) => sign).length = (tl word).count (sgn x) := by
  rw [List.length_map, ← signs_sgn, List.count_eq_countP, List.countP_map, ← List.countP_eq_length_filter]
  refine List.countP_congr fun y hy => ?_
  have h1 := (sgn_mem hy).1
  simp only [decide_eq_true_eq, Function.comp_apply, beq_iff_eq]
  constructor
  · intro e
    rw [e]
  · intro e
    rw [h1, hx, e]
/-! ### sorted pairs -/
theorem pLe_total (a b : Int × Str) : (pLe a b || pLe b a) = true := by
  unfold pLe
  rw [Bool.or_eq_true, decide_eq_true_eq, decide_eq_true_eq]
  rcases Int.lt_trichotomy a.1 b.1 with h | h | h
  · exact .inl (.inl h)
  · rcases List.le_total a.2.cps.toList b.2.cps.toList with k | k
    · exact .inl (.inr ⟨h, k⟩)
    · exact .inr (.inr ⟨h.symm, k⟩)
  · exact .inr (.inl h)
theorem pLe_trans {a b c : Int × Str} (h1 : pLe a b = true) (h2 : pLe b c = true) : pLe a c = true := by
  unfold pLe at *
  rw [decide_eq_true_eq] at *
  rcases h1 with h1 | ⟨h1, k1⟩ <;> rcases h2 with h2 | ⟨h2, k2⟩
  · exact .inl (by omega)
  · exact .inl (by omega)
  · exact .inl (by omega)
  · exact .inr ⟨by omega, List.le_trans k1 k2⟩
abbrev prs (words : List Str) : List (Int × Str) := words.map fun (word : Str) => ((word.length : Int), word)
theorem srt_pair {words : List Str} {pre post : List (Int × Str)} {x : Int × Str} (h : sortP (prs words) = pre ++ x :: post) : x.1 = (x.2.length : Int) ∧ ∀ p ∈ pre, pLe p x = true ∧ p.1 = (p.2.length : Int) := by
  have hm : ∀ p ∈ sortP (prs words), p.1 = (p.2.length : Int) := fun p hp => by
    unfold sortP at hp
    rw [(List.mergeSort_perm _ _).mem_iff] at hp
    obtain ⟨w, _, rfl⟩ := List.mem_map.mp hp
    rfl
  have hs : (sortP (prs words)).Pairwise fun a b => pLe a b = true := List.pairwise_mergeSort (fun a b c => pLe_trans (a := a) (b := b) (c := c)) pLe_total _
  refine ⟨hm x (by rw [h]; simp), fun p hp => ⟨?_, hm p (by rw [h]; simp [hp])⟩⟩
  rw [h, List.pairwise_append] at hs
  exact hs.2.2 p hp x (by simp)
theorem srtI_nil : SrtI [] ([] : List Str) := ⟨List.Pairwise.nil, by simp, .inl ⟨rfl, rfl⟩⟩
theorem srtI_len {pre : List (Int × Str)} {t : List Str} (h : SrtI pre t) : t.length ≤ pre.length := by
  have hn : t.Nodup := h.1.imp (S := fun a b => a ≠ b) fun {a b} q e => wLt_irr (a := b) (by rw [e] at q; exact q)
  refine Nat.le_trans (nodup_sub (m := pre.map (·.2)) hn fun x hx => ?_) (by simp)
  obtain ⟨p, h1, h2⟩ := (h.2.1 x).mp hx
  exact List.mem_map.mpr ⟨p, h1, h2⟩
theorem last_getD {t : List Str} {z : Str} (h : t.getLast? = some z) : t.getD ((-1 : Int) + (t.length : Int)).toNat dS = z := by
  rw [List.getLast?_eq_getElem?] at h
  have hl : 0 < t.length := by
    cases t with
    | nil => simp at h
    | cons a b => simp
  rw [show ((-1 : Int) + (t.length : Int)).toNat = t.length - 1 by omega, List.getD_eq_getElem?_getD, h]
  rfl
theorem srtI_yes {words : List Str} {pre post : List (Int × Str)} {x : Int × Str} {t : List Str} {y : Str} (hs : sortP (prs words) = pre ++ x :: post) (h : SrtI pre t) (hy : y = x.2)
    (hc : (decide ((t.length : Int) = 0) || !decide (t.getD ((-1 : Int) + (t.length : Int)).toNat dS = x.2)) = true) : SrtI (pre ++ [x]) (t ++ [y]) := by
  subst hy
  obtain ⟨h1, h2, h3⟩ := h
  obtain ⟨e1, e2⟩ := srt_pair hs
  have lt : ∀ w ∈ t, wLt w x.2 := by
    intro w hw
    rcases h3 with ⟨_, rfl⟩ | ⟨p, hp, ht⟩
    · simp at hw
    · simp only [Bool.or_eq_true, Bool.not_eq_true', decide_eq_true_eq, decide_eq_false_iff_not] at hc
      have ne : p.2 ≠ x.2 := by
        rcases hc with hc | hc
        · have : t = [] := List.length_eq_zero_iff.mp (by omega)
          rw [this] at ht
          simp at ht
        · rw [last_getD ht] at hc
          exact hc
      have hpm : p ∈ pre := List.mem_of_getLast? hp
      have hpx : wLt p.2 x.2 := by
        have q := (e2 p hpm).1
        unfold pLe at q
        rw [decide_eq_true_eq, (e2 p hpm).2, e1] at q
        rcases q with q | ⟨q, k⟩
        · exact .inl (by omega)
        · refine .inr ⟨by omega, ?_⟩
          rcases List.le_iff_lt_or_eq.mp k with k | k
          · exact k
          · exact absurd (str_eq_iff.mp k) ne
      obtain ⟨q, hq⟩ := List.getLast?_eq_some_iff.mp ht
      subst hq
      rcases List.mem_append.mp hw with hw | hw
      · rw [List.pairwise_append] at h1
        exact wLt_trans (h1.2.2 w hw p.2 (by simp)) hpx
      · simp at hw
        subst hw
        exact hpx
  refine ⟨?_, fun z => ?_, .inr ⟨x, by simp, by simp⟩⟩
  · rw [List.pairwise_append]
    refine ⟨h1, by simp, fun a ha b hb => ?_⟩
    simp at hb
    subst hb
    exact lt a ha
  · rw [List.mem_append, h2]
    constructor
    · rintro (⟨p, h4, h5⟩ | h4)
      · exact ⟨p, by simp [h4], h5⟩
      · simp at h4
        exact ⟨x, by simp, h4.symm⟩
    · rintro ⟨p, h4, h5⟩
      rcases List.mem_append.mp h4 with h4 | h4
      · exact .inl ⟨p, h4, h5⟩
      · simp at h4
        subst h4
        exact .inr (by simp [h5])
theorem srtI_no {pre : List (Int × Str)} {x : Int × Str} {t : List Str} (h : SrtI pre t) (hc : (decide ((t.length : Int) = 0) || !decide (t.getD ((-1 : Int) + (t.length : Int)).toNat dS = x.2)) = false) : SrtI (pre ++ [x]) t := by
  simp only [Bool.or_eq_false_iff, Bool.not_eq_false', decide_eq_true_eq, decide_eq_false_iff_not] at hc
  obtain ⟨h1, h2, h3⟩ := h
  rcases h3 with ⟨_, rfl⟩ | ⟨p, hp, ht⟩
  · exact absurd (show (([] : List Str).length : Int) = 0 from rfl) hc.1
  · rw [last_getD ht] at hc
    refine ⟨h1, fun z => ?_, .inr ⟨x, by simp, by rw [ht, hc.2]⟩⟩
    rw [h2]
    constructor
    · rintro ⟨q, h4, h5⟩
      exact ⟨q, by simp [h4], h5⟩
    · rintro ⟨q, h4, h5⟩
      rcases List.mem_append.mp h4 with h4 | h4
      · exact ⟨q, h4, h5⟩
      · simp at h4
        subst h4
        exact ⟨p, List.mem_of_getLast? hp, by rw [hc.2, h5]⟩
theorem srtI_end {words t : List Str} (h : SrtI (sortP (prs words)) t) : SUp (· ∈ words) t := by
  refine ⟨h.1, fun x => ?_⟩
  rw [h.2.1]
  unfold sortP
  constructor
  · rintro ⟨p, h1, h2⟩
    rw [(List.mergeSort_perm _ _).mem_iff] at h1
    obtain ⟨w, h3, rfl⟩ := List.mem_map.mp h1
    exact h2 ▸ h3
  · intro hx
    exact ⟨((x.length : Int), x), by rw [(List.mergeSort_perm _ _).mem_iff]; exact List.mem_map.mpr ⟨x, hx, rfl⟩, rfl⟩

/-! ### the law's own rank and word -/
theorem geo_step (L n : Nat) : geo L n + (L : Int) ^ n = geo L (n + 1) := rfl
theorem pow_step (L n : Nat) : (L : Int) ^ n * (L : Int) = (L : Int) ^ (n + 1) := rfl
theorem pow_cast (L n : Nat) : (L : Int) ^ n = ((L ^ n : Nat) : Int) := by push_cast; rfl
theorem lwI_nil {letters : Str} {number : Int} (h : 0 ≤ number) : LwI letters number 0 number 0 1 := ⟨rfl, rfl, h, by show number = 0 + number; omega⟩
theorem lwI_step {letters : Str} {number n ln pw n1 pw1 ln1 : Int} {k : Nat} (h : LwI letters number k n ln pw) (hc : decide (pw ≤ n) = true) (h1 : n1 = n - pw) (h2 : pw1 = pw * (letters.length : Int)) (h3 : ln1 = ln + 1) : LwI letters number (k + 1) n1 ln1 pw1 := by
  obtain ⟨a, b, c, d⟩ := h
  have hc := of_decide_eq_true hc
  refine ⟨by push_cast; omega, by rw [h2, b]; rfl, by omega, ?_⟩
  rw [← geo_step, ← b]
  omega
theorem lw_over {letters : Str} {number n ln pw : Int} (g : goodL letters) (hb : (wAt (tl letters) number.toNat).length ≤ 201) (h : LwI letters number 202 n ln pw) : False := by
  obtain ⟨_, _, c, d⟩ := h
  have g1 := g.1
  have := wAt_len_ge (ls := tl letters) (by rw [len_tl]; omega) 202 number.toNat (by rw [len_tl]; rw [geo_cast] at d; omega)
  omega
/-- behind the first loop: the length is found -/
def LwE (letters : Str) (number n ln : Int) : Prop := 0 ≤ n ∧ 0 ≤ ln ∧ n < (letters.length : Int) ^ ln.toNat ∧ number = geo letters.length ln.toNat + n
theorem lwE_of {letters : Str} {number n ln pw : Int} {k : Nat} (h : LwI letters number k n ln pw) (hc : decide (pw ≤ n) = false) : LwE letters number n ln := by
  obtain ⟨a, b, c, d⟩ := h
  have hc := of_decide_eq_false hc
  subst a
  rw [b] at hc
  exact ⟨c, by omega, by rw [Int.toNat_natCast]; omega, by rw [Int.toNat_natCast]; exact d⟩
theorem lwJ_nil {letters w : Str} {number n ln : Int} (h : LwE letters number n ln) (hw : w = "") : LwJ letters number 0 ln n w := by
  obtain ⟨a, b, c, d⟩ := h
  subst hw
  refine ⟨a, by omega, c, rfl, ?_⟩
  rw [Nat.sub_zero, ← d]
  show _ = _ ++ ([] : List Nat)
  rw [List.append_nil]
theorem lwJ_step {letters w w1 : Str} {number n ln n1 : Int} {k : Nat} (g : goodL letters) (h : LwJ letters number k ln n w) (hk : (k : Int) < ln) (hw : w1 = sgnAt letters (n % (letters.length : Int)).toNat ++ w) (hn : n1 = n / (letters.length : Int)) : LwJ letters number (k + 1) ln n1 w1 := by
  obtain ⟨a, b, c, d, e⟩ := h
  have g1 := g.1
  obtain ⟨m, rfl⟩ := Int.eq_ofNat_of_zero_le a
  obtain ⟨j, hj⟩ : ∃ j, ln.toNat - k = j + 1 := ⟨ln.toNat - k - 1, by omega⟩
  have hj2 : ln.toNat - (k + 1) = j := by omega
  have q1 : n1 = ((m / letters.length : Nat) : Int) := by rw [hn]; rfl
  have q2 : (m : Int) % (letters.length : Int) = ((m % letters.length : Nat) : Int) := rfl
  rw [hj, pow_cast] at c
  have c : m < letters.length ^ (j + 1) := by omega
  have hlt : m % letters.length < letters.length := Nat.mod_lt _ (by omega)
  refine ⟨by rw [q1]; exact Int.natCast_nonneg _, by push_cast; omega, ?_, ?_, ?_⟩
  · rw [hj2, pow_cast, q1]
    have : m / letters.length < letters.length ^ j := Nat.div_lt_of_lt_mul (by rw [← Nat.pow_succ']; exact c)
    exact Int.ofNat_lt.mpr this
  · rw [hw, len_app, sgnAt_len, d]
    omega
  · rw [e, hj, hj2, hw, tl_app, sgnAt_tl, q2, Int.toNat_natCast, q1, geo_cast, geo_cast]
    have e1 : (((geoN letters.length (j + 1) : Nat) : Int) + (m : Int)).toNat = (tl letters).length * (geoN letters.length j + m / letters.length) + m % letters.length + 1 := by
      rw [geoN_mul, len_tl, Nat.mul_add]
      have := Nat.div_add_mod m letters.length
      generalize letters.length * (m / letters.length) = q at *
      generalize m % letters.length = r at *
      omega
    have e2 : (((geoN letters.length j : Nat) : Int) + ((m / letters.length : Nat) : Int)).toNat = geoN letters.length j + m / letters.length := by rw [← Int.natCast_add, Int.toNat_natCast]
    rw [e1, wAt_step (by rw [len_tl]; exact hlt), e2, List.append_assoc]
theorem lwJ_end {letters w : Str} {number n ln : Int} {k : Nat} (h : LwJ letters number k ln n w) (hk : (k : Int) = ln ∨ k = ln.toNat) : tl w = wAt (tl letters) number.toNat := by
  obtain ⟨a, b, c, d, e⟩ := h
  have hz : ln.toNat - k = 0 := by omega
  rw [hz] at c e
  have c : n < 1 := c
  rw [e, show n = 0 by omega]
  show tl w = wAt (tl letters) ((0 : Int) + 0).toNat ++ tl w
  rw [show ((0 : Int) + 0).toNat = 0 from rfl, wAt_zero, List.nil_append]
theorem all_len {letters : Str} {most : Nat} {i : Nat} (g : goodL letters) (hi : i < geoN letters.length (most + 1)) : (wAt (tl letters) i).length ≤ most := wAt_len_lt (by rw [len_tl]; exact g.1) most i (by rw [len_tl]; exact hi)

theorem inL_app {letters w x : Str} (h : inL letters w) (hx : inL letters x) : inL letters (w ++ x) := by
  intro c hc
  rw [tl_app] at hc
  rcases List.mem_append.mp hc with hc | hc
  · exact h c hc
  · exact hx c hc
theorem inL_sgn {letters : Str} {k : Nat} (h : k < letters.length) : inL letters (sgnAt letters k) := by
  intro c hc
  rw [sgnAt_tl] at hc
  simp only [List.mem_singleton] at hc
  subst hc
  rw [← len_tl] at h
  rw [List.getD_eq_getElem?_getD, List.getElem?_eq_getElem h]
  exact List.getElem_mem h
theorem inL_snoc {letters w : Str} {r : Int} (h : inL letters w) (h0 : 0 ≤ r) (h1 : r < letters.length) : inL letters (w ++ sgnAt letters r.toNat) := inL_app h (inL_sgn (by omega))

theorem rng_map {β : Type} (f : Nat → β) (n : Nat) : (rngI 0 n).map (fun i => f i.toNat) = (List.range n).map f := by
  unfold rngI
  rw [List.map_map]
  refine List.map_congr_left fun i _ => ?_
  show f ((0 : Int) + (i : Int)).toNat = f i
  congr 1
  omega
end L03

namespace L03
open PySem L2 Fw
structure Tk (K : PySem.W.Frag) (mg : Str → Option Value) (A : Ad) : Prop where
  gL : mg "LanguageError" = some (.ref A.LanguageError)
  gB : mg "BadLetters" = some (.ref A.BadLetters)
  gW : mg "BadWord" = some (.ref A.BadWord)
  eB : PySem.W.exmOne K (.ref A.BadLetters) (.ref A.LanguageError) = some true
  eW : PySem.W.exmOne K (.ref A.BadWord) (.ref A.LanguageError) = some true
  kBB : PySem.W.kitOne K (.ref A.BadLetters) (.ref A.BadLetters) = some true
  kBW : PySem.W.kitOne K (.ref A.BadLetters) (.ref A.BadWord) = some false
  kWB : PySem.W.kitOne K (.ref A.BadWord) (.ref A.BadLetters) = some false
  kWW : PySem.W.kitOne K (.ref A.BadWord) (.ref A.BadWord) = some true
  xB : XkC K A.BadLetters
  xW : XkC K A.BadWord
  fW : XfC K A.BadWord
  nw : PySem.W.findIn K (.ref A.BadWord) "word" = some none
  np : PySem.W.findIn K (.ref A.BadWord) "place" = some none
local macro_rules | `(tactic| walk_at "fsc") => `(tactic| first | omega | assumption)
section
variable {P : Program} {w : World} {K : PySem.W.Frag} {mg : Str → Option Value} {base : Heap} {A : Ad}
abbrev s_law_bad_letters : Stmt := topS 29
abbrev N_law_bad_letters : List Str := ["call", "letters", "word", "e"]
theorem sc_law_bad_letters : FnScope N_law_bad_letters ["call", "letters", "word"] (defScope s_law_bad_letters) := ⟨rfl, rfl, rfl, by decide +kernel, rfl, by decide +kernel, by decide +kernel⟩
theorem ok_law_bad_letters (T : Tx K mg A) (U : Tk K mg A) (h_rank : Cal P w K mg base 4 A.rank "rank" ["letters", "word"] (sp_rank K A)) (h_word_at : Cal P w K mg base 2 A.word_at "word_at" ["letters", "number"] (sp_word_at K A)) (h_words_to : Cal P w K mg base 2 A.words_to "words_to" ["letters", "most"] (sp_words_to K A))
    {fd : FuncData} (F : Fun K "_law_bad_letters" "_law_bad_letters" s_law_bad_letters A.law_bad_letters fd) : FnOk P w K mg base (L2.CX P w) 10 A.law_bad_letters fd ["call", "letters", "word"] (sp_law_bad_letters K) := by
  refine F.okX sc_law_bad_letters (fun us H Q E ⟨call, letters, word, hpre, h⟩ => h.len) (fun cdv A_ outer s_ H us Q E hr ⟨call, letters, word, hpre, h⟩ => ?_)
  refine ⟨_, pss_cons (ps_tryA (i := 3) rfl rfl sc_law_bad_letters.nd rfl rfl ⟨rfl, by decide, .inl U.gL⟩ takes0 (fun W pn xe tk po =>
      pss_one (ps_if (pt_cmpR op_eq (pv 0) pe_int (nomark _)) (pss_one (ps_expr (pe_cal (W := W) h_rank (hr.mono (by decide)) tk (pa_cons (pv 1) (pa_cons (pv 2) pa_nil)))))
        (pss_one (ps_if (pt_cmpR op_eq (pv 0) pe_int (nomark _)) (pss_one (ps_expr (pe_cal (W := W) h_word_at (hr.mono (by decide)) tk (pa_cons (pv 1) (pa_cons (pe_callB cr_lenT (by rfl) T.m_len bb_len (pa_cons (pv 2) pa_nil)) pa_nil)))))
          (pss_one (ps_expr (pe_cal (W := W) h_words_to (hr.mono (by decide)) tk (pa_cons (pv 1) (pa_cons pe_int pa_nil)))))))))
      (fun a oe cls d pn hz hf => pss_one (ps_ret (pe_and (pe_callB (call_isC hz hf) (by rfl) T.m_isinstance bb_isinstance (pa_cons (pv 3) (pa_cons (pe_glob (v := .ref A.BadLetters) (by rfl) U.gB rfl) pa_nil)))
        (pe_one (pe_not (pe_callB (call_isC hz hf) (by rfl) T.m_isinstance bb_isinstance (pa_cons (pv 3) (pa_cons (pe_glob (v := .ref A.BadWord) (by rfl) U.gW rfl) pa_nil)))))))))
    (pss_one (ps_ret pe_bl)), ?_⟩
  refine Call.body (sl := [va call, va letters, va word, none]) h rfl fun G0_ H0_ => ?_
  have hpre_ := hpre; unfold pre_law_bad_letters at hpre_
  refine do_seq (do_tryA (xr := fun x e' => x = xdP A.BadLetters ∧ e' = ⟨[va call, va letters, va word, none], []⟩) (fun W => ?_) ?_)
  · refine do_ifD (et_test (ev_opD (ev_var (i := 0) rfl) ev_int r2_eqI)) (fun h_if => ?_) (fun h_if => ?_)
    · refine do_drop (ev_callP (W := W) (P' := (fun (z_ : Int) => post_rank letters word z_)) (fun x_ => xp_rank A letters word x_) (ea_consD (ev_var (i := 1) rfl) (ea_consD (ev_var (i := 2) rfl) ea_nil)) (fun ss_ hs_ us_ H_ Q_ E_ h_ => by obtain rfl := hs_; exact ⟨letters, word, ⟨hpre_.2.1, hpre_.2.2⟩, Call.imp h_ (fun r_ c_ hq_ => hq_) (fun x_ c_ hq_ => hq_)⟩) (fun x_ hx_ => ⟨rfl, ?_, rfl⟩)) fun r_ h_call => absurd h_call.1 hpre_.1
      rcases hx_ with h1 | h1
      · exact h1.1
      · exact absurd h1.1 hpre_.1
    · refine do_ifD (et_test (ev_opD (ev_var (i := 0) rfl) ev_int r2_eqI)) (fun h_if => ?_) (fun h_if => ?_)
      · exact do_drop (ev_callP (W := W) (P' := (fun (z_ : Str) => post_word_at letters word.length z_)) (fun x_ => xp_word_at A letters word.length x_) (ea_consD (ev_var (i := 1) rfl) (ea_consD (ev_cbD (ea_consD (ev_var (i := 2) rfl) ea_nil) (rc_lenT (by omega))) ea_nil)) (fun ss_ hs_ us_ H_ Q_ E_ h_ => by obtain rfl := hs_; exact ⟨letters, word.length, ⟨hpre_.2.1, Nat.le_trans (wAt_len_le _ _) (by have := hpre_.2.2; omega)⟩, Call.imp h_ (fun r_ c_ hq_ => hq_) (fun x_ c_ hq_ => hq_)⟩) (fun x_ hx_ => ⟨rfl, hx_.1, rfl⟩)) fun r_ h_call => absurd h_call.1 hpre_.1
      · exact do_drop (ev_callP (W := W) (P' := (fun (z_ : List Str) => post_words_to letters 2 z_)) (fun x_ => xp_words_to A letters 2 x_) (ea_consD (ev_var (i := 1) rfl) (ea_consD ev_int ea_nil)) (fun ss_ hs_ us_ H_ Q_ E_ h_ => by obtain rfl := hs_; exact ⟨letters, 2, ⟨hpre_.2.1, by decide, by decide⟩, Call.imp h_ (fun r_ c_ hq_ => hq_) (fun x_ c_ hq_ => hq_)⟩) (fun x_ hx_ => ⟨rfl, hx_.1, rfl⟩)) fun r_ h_call => absurd h_call.1 hpre_.1
  · rintro x e' ⟨rfl, rfl⟩
    refine ⟨true, U.eB, fun _ a d => ?_, fun z => nomatch z⟩
    refine do_ret (ρ := Bool) (P := fun z => z = true) ?_ fun z h_ret => ⟨_, .slnil, rfl, h_ret⟩
    exact ev_andD (a := true) (b := true) (ev_isC U.xB (ev_var (i := 3) rfl) U.kBB (.inl rfl)) fun _ => ev_notD (a := false) (ev_isC U.xB (ev_var (i := 3) rfl) U.kBW (.inl rfl))
abbrev s_law_bad_word : Stmt := topS 30
abbrev N_law_bad_word : List Str := ["letters", "word", "place", "e"]
theorem sc_law_bad_word : FnScope N_law_bad_word ["letters", "word", "place"] (defScope s_law_bad_word) := ⟨rfl, rfl, rfl, by decide +kernel, rfl, by decide +kernel, by decide +kernel⟩
theorem badAt_uniq {l s : Str} {a b : Nat} (h1 : badAt l s a) (h2 : badAt l s b) : a = b := by
  rcases Nat.lt_trichotomy a b with h | h | h
  · exact absurd (h2.2.2 a h) h1.2.1
  · exact h
  · exact absurd (h1.2.2 b h) h2.2.1
theorem bad_not_in {l s : Str} {a : Nat} (h1 : badAt l s a) : ¬ inL l s := fun h => h1.2.1 (h _ (by
  rw [List.getD_eq_getElem?_getD, List.getElem?_eq_getElem (by rw [len_tl]; exact h1.1)]
  exact List.getElem_mem _))
theorem ok_law_bad_word (T : Tx K mg A) (U : Tk K mg A) (h_rank : Cal P w K mg base 4 A.rank "rank" ["letters", "word"] (sp_rank K A))
    {fd : FuncData} (F : Fun K "_law_bad_word" "_law_bad_word" s_law_bad_word A.law_bad_word fd) : FnOk P w K mg base (L2.CX P w) 10 A.law_bad_word fd ["letters", "word", "place"] (sp_law_bad_word K) := by
  refine F.okX sc_law_bad_word (fun us H Q E ⟨letters, word, place, hpre, h⟩ => h.len) (fun cdv A_ outer s_ H us Q E hr ⟨letters, word, place, hpre, h⟩ => ?_)
  refine ⟨_, pss_cons (ps_tryA (i := 3) rfl rfl sc_law_bad_word.nd rfl rfl ⟨rfl, by decide, .inl U.gL⟩ takes0 (fun W pn xe tk po =>
      pss_one (ps_expr (pe_cal (W := W) h_rank (hr.mono (by decide)) tk (pa_cons (pv 0) (pa_cons (pv 1) pa_nil)))))
      (fun a oe cls d pn hz hf => pss_one (ps_ret (pe_and (pe_callB (call_isC hz hf) (by rfl) T.m_isinstance bb_isinstance (pa_cons (pv 3) (pa_cons (pe_glob (v := .ref A.BadWord) (by rfl) U.gW rfl) pa_nil)))
        (pe_and (pe_not (pe_callB (call_isC hz hf) (by rfl) T.m_isinstance bb_isinstance (pa_cons (pv 3) (pa_cons (pe_glob (v := .ref A.BadLetters) (by rfl) U.gB rfl) pa_nil))))
          (pe_and (pe_cmpR op_eq (pe_xf U.fW U.nw hz hf (pv 3)) (pv 1) (nomark _)) (pe_one (pe_cmpR op_eq (pe_xf U.fW U.np hz hf (pv 3)) (pv 2) (nomark _)))))))))
    (pss_one (ps_ret pe_bl)), ?_⟩
  refine Call.body (sl := [va letters, va word, va place, none]) h rfl fun G0_ H0_ => ?_
  have hpre_ := hpre; unfold pre_law_bad_word at hpre_
  refine do_seq (do_tryA (xr := fun x e' => x = xdF A.BadWord [("word", vs word), ("place", vs place)] ∧ e' = ⟨[va letters, va word, va place, none], []⟩) (fun W => ?_) ?_)
  · refine do_drop (ev_callP (W := W) (P' := (fun (z_ : Int) => post_rank letters word z_)) (fun x_ => xp_rank A letters word x_) (ea_consD (ev_var (i := 0) rfl) (ea_consD (ev_var (i := 1) rfl) ea_nil)) (fun ss_ hs_ us_ H_ Q_ E_ h_ => by obtain rfl := hs_; exact ⟨letters, word, ⟨by have := hpre_.1.2.1; omega, hpre_.2.1⟩, Call.imp h_ (fun r_ c_ hq_ => hq_) (fun x_ c_ hq_ => hq_)⟩) (fun x_ hx_ => ⟨rfl, ?_, rfl⟩)) fun r_ h_call => ?_
    · rcases hx_ with h1 | ⟨_, k, h1, rfl⟩
      · exact absurd hpre_.1 h1.2
      · obtain ⟨k2, h2, rfl⟩ := hpre_.2.2
        rw [badAt_uniq h1 h2]
    · obtain ⟨k2, h2, _⟩ := hpre_.2.2
      exact absurd h_call.2.1 (bad_not_in h2)
  · rintro x e' ⟨rfl, rfl⟩
    refine ⟨true, U.eW, fun _ a d => ?_, fun z => nomatch z⟩
    refine do_ret (ρ := Bool) (P := fun z => z = true) ?_ fun z h_ret => ⟨_, .slnil, rfl, h_ret⟩
    have h1 : decide (word = word) = true := decide_eq_true rfl
    have h2 : decide (place = place) = true := decide_eq_true rfl
    refine ev_andD (a := true) (b := true) (ev_isC U.xW (ev_var (i := 3) rfl) U.kWW (.inr ⟨_, rfl⟩)) fun _ => ev_andD (a := true) (b := true) (ev_notD (a := false) (ev_isC U.xW (ev_var (i := 3) rfl) U.kWB (.inr ⟨_, rfl⟩))) fun _ => ?_
    rw [show true = (decide (word = word) && decide (place = place)) by rw [h1, h2]; rfl]
    exact ev_andD (ev_opD (ev_xfC (y := word) rfl (ev_var (i := 3) rfl) rfl) (ev_var (i := 1) rfl) r2_eqS) fun _ => ev_opD (ev_xfC (y := place) rfl (ev_var (i := 3) rfl) rfl) (ev_var (i := 2) rfl) r2_eqI
end
end L03

namespace L03
open PySem L2 Fw
instance goodL_dec (s : Str) : Decidable (goodL s) := by unfold goodL; infer_instance
theorem good6' : ∀ n, n < 6 → goodL (([("ab" : Str), ("a" : Str), ("abc" : Str), ("bd" : Str), ("acz" : Str), ("abcd" : Str)] : List Str).getD n dS) := by decide +kernel
theorem good6 {r : Int} {l : Str} (h : 0 ≤ r ∧ r < 6) (e : l = ([("ab" : Str), ("a" : Str), ("abc" : Str), ("bd" : Str), ("acz" : Str), ("abcd" : Str)] : List Str).getD r.toNat dS) : goodL l := by
  rw [e]; exact good6' _ (by omega)
theorem bad8' : ∀ n, n < 8 → ¬ goodL (([("" : Str), ("ba" : Str), ("aa" : Str), ("abcde" : Str), ("aB" : Str), ("a1" : Str), ("a b" : Str), ("abca" : Str)] : List Str).getD n dS) ∧ (([("" : Str), ("ba" : Str), ("aa" : Str), ("abcde" : Str), ("aB" : Str), ("a1" : Str), ("a b" : Str), ("abca" : Str)] : List Str).getD n dS).length ≤ 1000 := by decide +kernel
theorem bad8 {r : Int} {l : Str} (h : 0 ≤ r ∧ r < 8) (e : l = ([("" : Str), ("ba" : Str), ("aa" : Str), ("abcde" : Str), ("aB" : Str), ("a1" : Str), ("a b" : Str), ("abca" : Str)] : List Str).getD r.toNat dS) : ¬ goodL l ∧ l.length ≤ 1000 := by
  rw [e]; exact bad8' _ (by omega)
theorem sgn4' : ∀ n, n < 4 → (tl (([("?" : Str), ("A" : Str), (" " : Str), ("0" : Str)] : List Str).getD n dS)).length = 1 ∧ ∀ c ∈ tl (([("?" : Str), ("A" : Str), (" " : Str), ("0" : Str)] : List Str).getD n dS), ¬ (97 ≤ c ∧ c ≤ 122) := by decide +kernel
theorem sgn4 {r : Int} {l : Str} (h : 0 ≤ r ∧ r < 4) (e : l = ([("?" : Str), ("A" : Str), (" " : Str), ("0" : Str)] : List Str).getD r.toNat dS) : (tl l).length = 1 ∧ ∀ c ∈ tl l, ¬ (97 ≤ c ∧ c ≤ 122) := by
  rw [e]; exact sgn4' _ (by omega)
theorem cut_lo {z : Str} {p : Int} (h : 0 ≤ p) : tl (cutS z none (some p)) = (tl z).take p.toNat := by
  have := cut_pre (z := z) (k := p.toNat)
  rw [Int.toNat_of_nonneg h] at this
  exact this
theorem cut_hi {z : Str} {p : Int} (h : 0 ≤ p) : tl (cutS z (some p) none) = (tl z).drop p.toNat := by
  have := cut_post (z := z) (k := p.toNat)
  rw [Int.toNat_of_nonneg h] at this
  exact this
theorem spo_len {z : Str} {p : Int} (h : 0 ≤ p) : (cutS z none (some p)).length ≤ z.length ∧ (cutS z (some p) none).length ≤ z.length := by
  rw [← len_tl, cut_lo h, ← len_tl (cutS _ _ _), cut_hi h, List.length_take, List.length_drop, len_tl]
  omega
theorem spo_of {letters word sign s : Str} {place : Int} {rest : List Nat} (g : goodL letters) (hw : inL letters word) (hl : word.length ≤ 900) (hp : 0 ≤ place ∧ place < word.length + 1) (hs : (tl sign).length = 1 ∧ ∀ c ∈ tl sign, ¬ (97 ≤ c ∧ c ≤ 122))
    (ht : tl s = (tl word).take place.toNat ++ tl sign ++ rest) (hr : rest.length ≤ word.length - place.toNat + 1) : SpoI letters word place s := by
  obtain ⟨c, hc⟩ : ∃ c, tl sign = [c] := List.length_eq_one_iff.mp hs.1
  have hk : ((tl word).take place.toNat).length = place.toNat := by rw [List.length_take, len_tl]; omega
  have hl2 : s.length = place.toNat + 1 + rest.length := by rw [← len_tl, ht, hc, List.length_append, List.length_append, hk]; rfl
  refine ⟨by omega, place.toNat, ⟨by omega, ?_, fun j hj => ?_⟩, by omega⟩
  · have e : (tl s).getD place.toNat 0 = c := by
      rw [ht, hc, List.append_assoc, List.getD_eq_getElem?_getD, List.getElem?_append_right (by omega), hk]
      simp
    rw [e]
    intro hin
    exact hs.2 c (by rw [hc]; simp) (g.2.2.2 c hin)
  · have e : (tl s).getD j 0 = (tl word).getD j 0 := by
      rw [ht, List.append_assoc, List.getD_eq_getElem?_getD, List.getElem?_append_left (by omega), List.getElem?_take, if_pos hj, ← List.getD_eq_getElem?_getD]
    rw [e]
    refine hw _ ?_
    rw [List.getD_eq_getElem?_getD, List.getElem?_eq_getElem (by rw [len_tl]; omega)]
    exact List.getElem_mem _
theorem smw {letters wd : Str} (h : SmW letters wd) : wd.length ≤ 24 ∧ inL letters wd := by
  rcases h with h | h
  · exact ⟨by omega, h.2⟩
  · refine ⟨h.1, fun c hc => ?_⟩
    have := h.2 c hc
    rw [cut_lo (by decide)] at this
    exact List.mem_of_mem_take this
theorem cut2_len {letters : Str} (g : goodL letters) : 1 ≤ (cutS letters none (some 2)).length ∧ (cutS letters none (some 2)).length ≤ 2 := by
  rw [← len_tl, cut_lo (by decide), List.length_take, len_tl]
  have := g.1
  show 1 ≤ min 2 _ ∧ min 2 _ ≤ 2
  omega
theorem sc_shape {l : Str} {most : Int} {m : Nat} (hm : most ≤ m) : ∀ {cs : List Str} {S : Str → Prop} {x : Str}, (∀ x, S x → x.length ≤ m ∧ inL l x) → (∀ c ∈ cs, inL l c ∧ c.length = 1) → cs.foldl (scStep most) S x → x.length ≤ m ∧ inL l x
  | [], S, x, hS, _, h => hS x h
  | c :: cs, S, x, hS, hc, h => by
    refine sc_shape hm (cs := cs) (S := scStep most S c) (fun y hy => ?_) (fun d hd => hc d (List.mem_cons_of_mem _ hd)) h
    rcases hy with hy | ⟨p, h1, h2, rfl⟩
    · exact hS y hy
    · have := hc c List.mem_cons_self
      rw [len_app]
      exact ⟨by omega, inL_app (hS p h1).2 this.1⟩
def wUp (ls : List Nat) : Nat → List (List Nat)
  | 0 => [[]]
  | n + 1 => [] :: (wUp ls n).flatMap fun w => ls.map fun c => c :: w
theorem wUp_mem {ls : List Nat} : ∀ {n : Nat} {w : List Nat}, w.length ≤ n → (∀ c ∈ w, c ∈ ls) → w ∈ wUp ls n
  | 0, [], _, _ => List.mem_singleton.mpr rfl
  | 0, _ :: _, h, _ => by simp at h
  | _ + 1, [], _, _ => List.mem_cons_self
  | n + 1, c :: w, h, k => by
    refine List.mem_cons_of_mem _ (List.mem_flatMap.mpr ⟨w, wUp_mem (by simpa using h) fun d hd => k d (List.mem_cons_of_mem _ hd), List.mem_map.mpr ⟨c, k c List.mem_cons_self, rfl⟩⟩)
theorem wUp_len {ls : List Nat} (h : ls.length ≤ 4) : ∀ n, (wUp ls n).length ≤ geoN 4 (n + 1)
  | 0 => (by decide : 1 ≤ geoN 4 1)
  | n + 1 => by
    have h1 := flat_len (fun w => ls.map fun c => c :: w) 4 (wUp ls n) (fun x _ => by rw [List.length_map]; exact h)
    have h2 := wUp_len h n
    rw [geoN_mul]
    show ((wUp ls n).flatMap _).length + 1 ≤ _
    have h3 : ((wUp ls n).flatMap fun w => ls.map fun c => c :: w).length ≤ (wUp ls n).length * 4 := h1
    omega
theorem str_ext {a b : Str} (h : tl a = tl b) : a = b := by
  have := tl_inj (a := [a]) (b := [b]) (by simpa using h)
  simpa using this
theorem scB_of {letters wd : Str} {most : Int} (g : goodL letters) (h : wd.length ≤ 24 ∧ inL letters wd) (hm : most < 5) : ScB wd most := by
  refine ⟨by omega, (wUp (tl letters) 4).map fun w => ⟨w.toArray⟩, ?_, fun x hx => ?_⟩
  · rw [List.length_map]
    exact Nat.le_trans (wUp_len (by rw [len_tl]; exact g.2.1) 4) (by decide)
  · have h1 := sc_shape (l := letters) (m := 4) (by omega : most ≤ (4 : Nat)) (cs := signs wd) (S := (· = "")) (fun y hy => by
      subst hy
      exact ⟨by decide, fun c hc => absurd hc (by show ¬ c ∈ ([] : List Nat); simp)⟩) (fun c hc => by
      obtain ⟨h1, h2⟩ := sgn_mem hc
      refine ⟨fun d hd => ?_, len_one h1⟩
      rw [tl_one h1] at hd
      rw [List.mem_singleton.mp hd]
      exact h.2 _ h2) hx
    refine ⟨List.mem_map.mpr ⟨tl x, wUp_mem (by rw [len_tl]; exact h1.1) h1.2, ?_⟩, by omega⟩
    exact str_ext rfl
theorem if_toNat (x : Int) : (if x > 0 then x else 0).toNat = x.toNat := by
  split <;> omega
theorem wLt_nodup {r : List Str} (h : r.Pairwise wLt) : r.Nodup := h.imp fun {a b} h e => by subst e; exact wLt_irr h
theorem sup_len {l r : List Str} (h : SUp (· ∈ l) r) : r.length ≤ l.length := nodup_sub (wLt_nodup h.1) fun x hx => (h.2 x).mp hx
theorem sc_len {wd : Str} {most : Int} {r : List Str} (hB : ScB wd most) (h : SUp (scAll most (signs wd)) r) : r.length ≤ 10000 := (sc_bound hB (wLt_nodup h.1) fun x hx => (h.2 x).mp hx).1
theorem clsL_len (letters wd : Str) (a b : Int) : (clsL letters wd a b).length = letters.length := by
  unfold clsL
  rw [List.length_map, signs_len]
theorem okI (l : List Int) : PD.ok l = true := List.all_eq_true.mpr fun _ _ => rfl
theorem okS {letters : Str} {l : List Str} (g : goodL letters) (h : ∀ w ∈ l, inL letters w) : PD.ok l = true := by
  refine List.all_eq_true.mpr fun w hw => ?_
  show (w.cps.all (· < 0x110000)) = true
  rw [← Array.all_toList]
  refine List.all_eq_true.mpr fun c hc => decide_eq_true ?_
  have := g.2.2.2 c (h w hw c hc)
  omega
theorem not_rank {A : Ad} {letters wd : Str} {x : XD} (g : goodL letters) (h : inL letters wd) : ¬ xp_rank A letters wd x := by
  rintro (⟨_, k⟩ | ⟨_, k, k1, _⟩)
  · exact k g
  · exact bad_not_in k1 h
theorem not_letters {A : Ad} {letters : Str} {x : XD} (g : goodL letters) : ¬ xp_check_letters A letters x := fun k => k.2 g
theorem rk_tl {letters wd : Str} {number : Int} (h : goodL letters ∧ inL letters wd ∧ number = rankF letters (signs wd)) : wAt (tl letters) number.toNat = tl wd := by
  rw [h.2.2, rank_wAt letters (signs wd) (fun c hc => h.2.1 _ (sgn_mem hc).2), signs_sgn]
theorem wAt_mono {ls : List Nat} (h : 0 < ls.length) (m : Nat) : ∀ n, n ≤ m → (wAt ls n).length ≤ (wAt ls m).length := by
  induction m using Nat.strongRecOn with
  | _ m ih =>
    intro n hn
    cases n with
    | zero => rw [wAt_zero]; exact Nat.zero_le _
    | succ n =>
      obtain ⟨k, rfl⟩ : ∃ k, m = k + 1 := ⟨m - 1, by omega⟩
      rw [wAt_succ h, wAt_succ h, List.length_append, List.length_append]
      have h1 : k / ls.length ≤ k := Nat.div_le_self _ _
      have h2 : n / ls.length ≤ k / ls.length := Nat.div_le_div_right (by omega)
      have := ih (k / ls.length) (by omega) _ h2
      simpa using this
theorem drawn_len {letters wd : Str} {number r drawn : Int} (h : goodL letters ∧ inL letters wd ∧ number = rankF letters (signs wd)) (hl : wd.length ≤ 200) (hr : 0 ≤ r) (hd : drawn = if number - r > 0 then number - r else 0) : 0 ≤ drawn ∧ (wAt (tl letters) drawn.toNat).length ≤ 200 := by
  have h0 := rank_nonneg letters (signs wd)
  rw [← h.2.2] at h0
  have h1 : 0 ≤ drawn ∧ drawn ≤ number := by
    rw [hd]
    split <;> omega
  refine ⟨h1.1, Nat.le_trans (wAt_mono (by rw [len_tl]; exact h.1.1) number.toNat drawn.toNat (by omega)) ?_⟩
  rw [rk_tl h, len_tl]
  exact hl
theorem paired_all {α β : Type} {R : α → β → Prop} {P : β → Prop} (k : ∀ a b, R a b → P b) : ∀ {xs : List α} {ys : List β}, Paired R xs ys → ys.length = xs.length ∧ ∀ y ∈ ys, P y
  | _, _, .nil => ⟨rfl, by simp⟩
  | _, _, .cons a r => by
    obtain ⟨h1, h2⟩ := paired_all k r
    refine ⟨by simp [h1], fun y hy => ?_⟩
    rcases List.mem_cons.mp hy with rfl | hy
    · exact k _ _ a
    · exact h2 y hy
theorem words_of {st : Addr} {letters : Str} {ys : List Str} (h : ∃ xs_, (∃ n_ : Int, (∃ (r15 : Int), post_law_next st (8 : Int) r15 ∧ n_ = r15) ∧ xs_ = rngI 0 n_.toNat) ∧ Paired (fun (k : Int) => (fun (z_ : Str) => ∃ (r16 : Int) (r17 : Str), post_law_next st (4 : Int) r16 ∧ post_law_exact st letters r16 r17 ∧ z_ = r17)) xs_ ys) :
    ys.length ≤ 8 ∧ ∀ w ∈ ys, w.length ≤ 1000 ∧ inL letters w := by
  obtain ⟨xs, ⟨n, ⟨r, h1, rfl⟩, rfl⟩, hp⟩ := h
  obtain ⟨h2, h3⟩ := paired_all (P := fun w : Str => w.length ≤ 1000 ∧ inL letters w) (fun a b ⟨r16, r17, k1, k2, k3⟩ => by
    subst k3
    have a1 := k1.2
    have a2 := k2.1
    exact ⟨by omega, k2.2⟩) hp
  refine ⟨?_, h3⟩
  rw [h2, rngI_len]
  have := h1.2
  omega
theorem sgnAt_eq (z : Str) (k : Nat) : sgnAt z k = ⟨#[(tl z).getD k 0]⟩ := str_ext (by rw [sgnAt_tl])
theorem mul_word {letters : Str} {k : Nat} {n : Int} (hk : k < letters.length) : (Txt.mul (sgnAt letters k) n).length = n.toNat ∧ inL letters (Txt.mul (sgnAt letters k) n) := by
  have h := PyProof.Rows.mul_one_list ((tl letters).getD k 0) n
  rw [← sgnAt_eq] at h
  have h : tl (Txt.mul (sgnAt letters k) n) = _ := h
  refine ⟨by rw [← len_tl, h, List.length_replicate], fun c hc => ?_⟩
  rw [h] at hc
  have hi := inL_sgn hk
  refine hi c ?_
  rw [sgnAt_tl]
  rw [(List.mem_replicate.mp hc).2]
  exact List.mem_singleton.mpr rfl
theorem ends2 {r : Int} {n : Nat} (h : 0 ≤ r ∧ r < 2) (hn : 1 ≤ n) : (-(n : Int) ≤ ([(0 : Int), (-(1 : Int))] : List Int).getD r.toNat (0 : Int) ∧ ([(0 : Int), (-(1 : Int))] : List Int).getD r.toNat (0 : Int) < n) ∧ ixAny n (([(0 : Int), (-(1 : Int))] : List Int).getD r.toNat (0 : Int)) < n := by
  have : r = 0 ∨ r = 1 := by omega
  rcases this with rfl | rfl
  · show (-(n : Int) ≤ (0 : Int) ∧ (0 : Int) < n) ∧ ixAny n (0 : Int) < n
    unfold ixAny
    refine ⟨by omega, ?_⟩
    split <;> omega
  · show (-(n : Int) ≤ (-1 : Int) ∧ (-1 : Int) < n) ∧ ixAny n (-1 : Int) < n
    unfold ixAny
    refine ⟨by omega, ?_⟩
    split <;> omega
theorem allW_len {letters : Str} {ms : Int} {r : List Str} (g : goodL letters) (hm : 0 ≤ ms ∧ ms ≤ 6) (h : AllW letters ms r) : r.length ≤ 1000000 := by
  have h1 := congrArg List.length h
  rw [List.length_map, List.length_map, List.length_range, geo_cast] at h1
  have h2 := (geo_small letters.length (by have := g.2.1; omega) (ms.toNat + 1) (by omega)).1
  omega
end L03

namespace L03
open PySem L2 Fw FwX NdefX
abbrev s_order_key : Stmt := topS 9
theorem sc_order_key : FnScope ["word"] ["word"] (defScope s_order_key) := ⟨rfl, rfl, rfl, by decide +kernel, rfl, by decide +kernel, by decide +kernel⟩
abbrev s_BadWord___init : Stmt := inClass (topS 3) 0
theorem nsc_init : NScope ["self", "word", "place", "__class__"] ["self", "word", "place"] ["__class__"] (defScope s_BadWord___init) := ⟨rfl, rfl, rfl, by decide +kernel, by decide +kernel, by decide +kernel, by decide +kernel, by decide +kernel, by decide +kernel⟩
def nfW (cc cda : Addr) : NF := ⟨"__init__", "BadWord.__init__", defArgs s_BadWord___init, defBody s_BadWord___init, defScope s_BadWord___init, [("__class__", cc)], cda⟩
section
variable {P : Program} {w : World} {K : PySem.W.Frag} {mg : Str → Option Value} {base : Heap} {A : Ad}
theorem key_order_key (hl : mg "len" = none) {f : Addr} {fd : FuncData} (F : Fun K "order_key" "order_key" s_order_key f fd) (hb : Binds K fd ["word"] []) : KeyF P w K mg base f :=
  key_turn F sc_order_key rfl hl (fun _ _ => rfl) hb rfl
theorem binds_init {cc cda : Addr} {doc pm ct : Value} : Binds K ((nfW cc cda).fd doc pm ct) ["self", "word", "place"] [] :=
  .all (fun us hl => match us, hl with | [_, _, _], _ => rfl)
theorem ok_init {C cc cda fI : Addr} {oc doc pm ct : Value} {od : Option Addr} {osl : Array (Option Value)} (lk : K.lookup fI = some ⟨oc, od, .func ((nfW cc cda).fd doc pm ct), osl⟩) (hcd : PySem.W.codeIn K (.ref cda) "BadWord.__init__" = true) (XI : XcI P K C cc cda (nfW cc cda))
    (hm : mg "super" = none) (f1 : PySem.W.findIn K (.ref C) "word" = some none) (f2 : PySem.W.findIn K (.ref C) "place" = some none) : FnOk P w K mg base (L2.CX P w) 1 fI ((nfW cc cda).fd doc pm ct) ["self", "word", "place"] (spI C ["word", "place"]) := by
  refine fn_exc (N := ["self", "word", "place", "__class__"]) lk hcd (S := nsc_init) XI (hb := rfl) (fun vs H Q E h => by rw [spI_len h]; rfl) (fun vs H Q E h => by
    obtain ⟨a, vals, h1, _, h2, _⟩ := h
    exact ⟨a, vals, h1, h2⟩) hm rfl rfl rfl ⟨fun _ => rfl, fun _ => rfl, fun _ => rfl, fun _ => rfl⟩ fun A_ outer s H vs Q E hr h => ?_
  exact ⟨_, pss_cons (ps_ost (pv 0) (pv 1)) (pss_one (ps_ost (pv 0) (pv 2))), init_read2 h XI.T f1 f2⟩
end
end L03

namespace L03
open PySem L2 Fw
local macro_rules | `(tactic| walk_at "fsc") => `(tactic| first | omega | assumption | trivial | exact sgn_split (by assumption) | exact sgn_split2 (by assumption) | (intros; omega) | (with_reducible exact emod_both (by omega)) | (simp only [Bool.not_eq_true', Bool.not_eq_false', decide_eq_true_eq, decide_eq_false_iff_not, Bool.or_eq_false_iff, Bool.and_eq_true, List.length_cons, List.length_nil, List.length_append, List.length_cons, List.length_nil, List.length_map, signs_len, rngI_len, enumI_len, keysD_len, pre_check_letters, post_check_letters, pre_check_word, post_check_word, pre_in_order, post_in_order, pre_words_to, post_words_to, pre_rank, post_rank, pre_word_at, post_word_at, pre_scattered_words, post_scattered_words, pre_windows, post_windows, pre_class_of, post_class_of, pre_law_start, pre_law_next, post_law_next, pre_law_integer, post_law_integer, pre_law_exact, post_law_exact, pre_law_rank, post_law_rank, pre_law_word_at, post_law_word_at, pre_law_strings, post_law_strings, pre_law_sorted, post_law_sorted, pre_law_all_words, post_law_all_words, pre_law_parts, post_law_parts, pre_law_class, post_law_class, pre_law_bad_letters, post_law_bad_letters, pre_law_bad_word, post_law_bad_word, pre_law_refused, post_law_refused, pre_law_small_parts, post_law_small_parts, pre_law, post_law] at *; first | omega | assumption | (refine ⟨?_, ?_⟩ <;> first | omega | assumption) | (refine ⟨?_, ?_, ?_⟩ <;> first | omega | assumption)) | (have hl_ := congrArg List.length hs_; simp only [List.length_append, List.length_cons, List.length_nil, List.length_map, signs_len, rngI_len, enumI_len, keysD_len] at hl_; omega) | (have hr_ := rng_split hs_; omega))
local macro_rules | `(tactic| walk_at "fvc") => `(tactic| first | rfl | trivial | assumption | omega)
local macro_rules | `(tactic| walk_at "fxp") => `(tactic| first | exact hx_ | assumption)
local macro_rules | `(tactic| walk_at "frs") => `(tactic| first | assumption)

section
variable {P : Program} {w : World} {K : PySem.W.Frag} {mg : Str → Option Value} {base : Heap} {A : Ad}
abbrev s_check_letters : Stmt := topS 7
abbrev N_check_letters : List Str := ["letters", "before", "letter"]
theorem sc_check_letters : FnScope N_check_letters ["letters"] (defScope s_check_letters) := ⟨rfl, rfl, rfl, by decide +kernel, rfl, by decide +kernel, by decide +kernel⟩
set_option maxHeartbeats 4000000 in
theorem ok_check_letters (T : Tx K mg A)  {fd : FuncData} (F : Fun K "check_letters" "check_letters" s_check_letters A.check_letters fd) : FnOk P w K mg base (L2.CX P w) 1 A.check_letters fd ["letters"] (sp_check_letters K A) := by
  obtain ⟨tc_MOST_KINDS_OF_LETTERS, hc_MOST_KINDS_OF_LETTERS⟩ := T.c_MOST_KINDS_OF_LETTERS
  obtain ⟨tc_SMALL, hc_SMALL⟩ := T.c_SMALL
  refine F.okX sc_check_letters (fun us H Q E ⟨letters, hpre, h⟩ => h.len) (fun cdv A_ outer s_ H us Q E hr ⟨letters, hpre, h⟩ => ?_)
  refine ⟨_, (pss_cons (ps_if (PW.pt (pw_or (pt_cmpR op_lt (pe_callB cr_lenT (by rfl) T.m_len bb_len (pa_cons (pv 0) pa_nil)) pe_int (nomark _)) (pw_or1 (pt_cmpR op_gt (pe_callB cr_lenT (by rfl) T.m_len bb_len (pa_cons (pv 0) pa_nil)) (pe_glob (v := .int 4) rfl hc_MOST_KINDS_OF_LETTERS ⟨_, rfl⟩) (nomark _))))) (pss_one (ps_raiseO T.x_BadLetters (takes_of rfl rfl rfl rfl))) pss_nil) (pss_cons (ps_set (i := 1) sc_check_letters.nd rfl (by first | exact Or.inl rfl | exact Or.inr rfl) pe_str) (pss_one (ps_for (passes_of rfl) rfl (pi_str (pv 0)) (pg_name (i := 2) sc_check_letters.nd rfl (by first | exact Or.inl rfl | exact Or.inr rfl)) (pss_cons (ps_if (PW.pt (pw_or (pt_cmpR op_niG (pv 2) (pe_glob (v := .str con_SMALL) rfl hc_SMALL ⟨_, rfl⟩) rfl) (pw_or1 (pt_cmpR op_leS (pv 2) (pv 1) (nomark _))))) (pss_one (ps_raiseO T.x_BadLetters (takes_of rfl rfl rfl rfl))) pss_nil) (pss_one (ps_set (i := 1) sc_check_letters.nd rfl (by first | exact Or.inl rfl | exact Or.inr rfl) (pv 2)))))))), ?_⟩
  refine Call.body (sl := [va letters, none, none]) h rfl fun G0_ H0_ => ?_
  have hpre_ := hpre; unfold pre_check_letters at hpre_
  show Do _ _ ⟨[va letters, none, none], []⟩ _
  refine do_seq (do_ifD (et_orD (et_test (ev_opD (ev_cbD (ea_consD (ev_var (i := 0) rfl) ea_nil) (rc_lenT (by walk_at "fsc"))) ev_int r2_lt)) (fun hb => (et_test (ev_opD (ev_cbD (ea_consD (ev_var (i := 0) rfl) ea_nil) (rc_lenT (by walk_at "fsc"))) ev_int r2_gt)))) (fun h_if => ?_) (fun h_if => ?_))
  ·
    refine do_raiseO (by refine ⟨_, .slnil, rfl, ?_⟩; exact ⟨rfl, fun g => by have h1 := g.1; have h2 := g.2.1; simp at h_if; omega⟩)
  ·
    refine do_next ?_
    show Do _ _ ⟨[va letters, none, none], []⟩ _
    refine do_seq (do_asg (i := 1) ev_str fun (before : Str) h_before => ?_)
    show Do _ _ ⟨[va letters, va before, none], []⟩ _
    refine do_forW (ei_str (ev_var (i := 0) rfl)) eg_name (fun (pre : List Str) e_ => ∃ (b : Str), (LetI pre b) ∧ e_ = ⟨[va letters, va b, none], []⟩) ?_ ?_ ?_
    ·
      refine ⟨⟨[va letters, va _, none], []⟩, ⟨⟨Or.inr rfl, ⟨Or.inr rfl, ⟨Or.inl rfl, trivial⟩⟩⟩, rfl⟩, _, ?_, rfl⟩
      · -- vc 0
        exact letI_nil h_before
    ·
      rintro pre x post e_ hsplit ⟨b, hI, rfl⟩
      have hlen_hsplit := congrArg List.length hsplit; simp only [List.length_append, List.length_cons, List.length_nil, List.length_map, signs_len, rngI_len, enumI_len, keysD_len] at hlen_hsplit
      show Do _ _ ⟨[va letters, va b, va x], []⟩ _
      refine do_seq (do_ifD (et_orD (et_test (ev_opD (ev_var (i := 2) rfl) ev_str (r2_niG (by walk_at "fsc")))) (fun hb2 => (et_test (ev_opD (ev_var (i := 2) rfl) (ev_var (i := 1) rfl) r2_leS)))) (fun h_if1 => ?_) (fun h_if1 => ?_))
      ·
        refine do_raiseO (by refine ⟨_, .slnil, rfl, ?_⟩; exact ⟨rfl, letI_bad hsplit hI h_if1⟩)
      ·
        refine do_next ?_
        show Do _ _ ⟨[va letters, va b, va x], []⟩ _
        refine do_asg (i := 1) (ev_var (i := 2) rfl) fun (before1 : Str) h_before1 => ?_
        refine ⟨⟨[va letters, va _, none], []⟩, ⟨⟨Or.inr rfl, ⟨Or.inr rfl, ⟨Or.inl rfl, trivial⟩⟩⟩, rfl⟩, _, ?_, rfl⟩
        · -- vc 1
          rw [h_before1]; exact letI_step (sgn_split hsplit) hI h_if1
    ·
      rintro e_ ⟨b, hI, rfl⟩
      refine ⟨(), fun _ _ => rfl, ?_⟩
      refine ⟨_, .slnil, rfl, ?_⟩
      · -- vc 2
        exact letI_end h_if hI

end
end L03

namespace L03
open PySem L2 Fw
local macro_rules | `(tactic| walk_at "fsc") => `(tactic| first | omega | assumption | trivial | exact sgn_split (by assumption) | exact sgn_split2 (by assumption) | (intros; omega) | (with_reducible exact emod_both (by omega)) | (simp only [Bool.not_eq_true', Bool.not_eq_false', decide_eq_true_eq, decide_eq_false_iff_not, Bool.or_eq_false_iff, Bool.and_eq_true, List.length_cons, List.length_nil, List.length_append, List.length_cons, List.length_nil, List.length_map, signs_len, rngI_len, enumI_len, keysD_len, pre_check_letters, post_check_letters, pre_check_word, post_check_word, pre_in_order, post_in_order, pre_words_to, post_words_to, pre_rank, post_rank, pre_word_at, post_word_at, pre_scattered_words, post_scattered_words, pre_windows, post_windows, pre_class_of, post_class_of, pre_law_start, pre_law_next, post_law_next, pre_law_integer, post_law_integer, pre_law_exact, post_law_exact, pre_law_rank, post_law_rank, pre_law_word_at, post_law_word_at, pre_law_strings, post_law_strings, pre_law_sorted, post_law_sorted, pre_law_all_words, post_law_all_words, pre_law_parts, post_law_parts, pre_law_class, post_law_class, pre_law_bad_letters, post_law_bad_letters, pre_law_bad_word, post_law_bad_word, pre_law_refused, post_law_refused, pre_law_small_parts, post_law_small_parts, pre_law, post_law] at *; first | omega | assumption | (refine ⟨?_, ?_⟩ <;> first | omega | assumption) | (refine ⟨?_, ?_, ?_⟩ <;> first | omega | assumption)) | (have hl_ := congrArg List.length hs_; simp only [List.length_append, List.length_cons, List.length_nil, List.length_map, signs_len, rngI_len, enumI_len, keysD_len] at hl_; omega) | (have hr_ := rng_split hs_; omega))
local macro_rules | `(tactic| walk_at "fvc") => `(tactic| first | rfl | trivial | assumption | omega)
local macro_rules | `(tactic| walk_at "fxp") => `(tactic| first | exact hx_ | assumption)
local macro_rules | `(tactic| walk_at "frs") => `(tactic| first | assumption)

section
variable {P : Program} {w : World} {K : PySem.W.Frag} {mg : Str → Option Value} {base : Heap} {A : Ad}
abbrev s_check_word : Stmt := topS 8
abbrev N_check_word : List Str := ["letters", "word", "place", "letter"]
theorem sc_check_word : FnScope N_check_word ["letters", "word"] (defScope s_check_word) := ⟨rfl, rfl, rfl, by decide +kernel, rfl, by decide +kernel, by decide +kernel⟩
set_option maxHeartbeats 4000000 in
theorem ok_check_word (T : Tx K mg A) (x_BadWord : CalX P w K mg base 1 A.BadWord "BadWord" ["word", "place"]) {fd : FuncData} (F : Fun K "check_word" "check_word" s_check_word A.check_word fd) : FnOk P w K mg base (L2.CX P w) 3 A.check_word fd ["letters", "word"] (sp_check_word K A) := by
  refine F.okX sc_check_word (fun us H Q E ⟨letters, word, hpre, h⟩ => h.len) (fun cdv A_ outer s_ H us Q E hr ⟨letters, word, hpre, h⟩ => ?_)
  refine ⟨_, (pss_one (ps_for (passes_of rfl) rfl (pi_enumS (by rfl) T.m_enumerate (pa_cons (pv 1) pa_nil)) (pg_tup rfl (pgs_cons (pg_name (i := 2) sc_check_word.nd rfl (by first | exact Or.inl rfl | exact Or.inr rfl)) (pgs_cons (pg_name (i := 3) sc_check_word.nd rfl (by first | exact Or.inl rfl | exact Or.inr rfl)) pgs_nil))) (pss_one (ps_if (pt_cmpR op_niG (pv 3) (pv 0) rfl) (pss_one (ps_raiseF x_BadWord (hr.mono (by decide)) (takes_of rfl rfl rfl rfl) (pa_cons (pv 1) (pa_cons (pv 2) pa_nil)))) pss_nil)))), ?_⟩
  refine Call.body (sl := [va letters, va word, none, none]) h rfl fun G0_ H0_ => ?_
  have hpre_ := hpre; unfold pre_check_word at hpre_
  show Do _ _ ⟨[va letters, va word, none, none], []⟩ _
  refine do_forW (ei_enumS (ea_consD (ev_var (i := 1) rfl) ea_nil)) eg_pair (fun (pre : List (Int × Str)) e_ => (∀ z ∈ pre, sgn z.2 ∈ tl letters) ∧ e_ = ⟨[va letters, va word, none, none], []⟩) ?_ ?_ ?_
  ·
    refine ⟨⟨[va letters, va word, none, none], []⟩, ⟨⟨Or.inr rfl, ⟨Or.inr rfl, ⟨Or.inl rfl, ⟨Or.inl rfl, trivial⟩⟩⟩⟩, rfl⟩, ?_, rfl⟩
    · -- vc 0
      simp
  ·
    rintro pre it post e_ hsplit ⟨hI, rfl⟩
    have hlen_hsplit := congrArg List.length hsplit; simp only [List.length_append, List.length_cons, List.length_nil, List.length_map, signs_len, rngI_len, enumI_len, keysD_len] at hlen_hsplit
    show Do _ _ ⟨[va letters, va word, va it.1, va it.2], []⟩ _
    refine do_ifD (et_test (ev_opD (ev_var (i := 3) rfl) (ev_var (i := 0) rfl) (r2_niG (by walk_at "fsc")))) (fun h_if => ?_) (fun h_if => ?_)
    ·
      refine do_raiseF (e := ⟨[va letters, va word, va it.1, va it.2], []⟩) (ea_consD (ev_var (i := 1) rfl) (ea_consD (ev_var (i := 2) rfl) ea_nil)) rfl (by decide +kernel) (by decide) (by refine ⟨_, .slnil, rfl, ?_⟩; exact ⟨pre.length, bad_of hsplit hI h_if, by rw [← (enum_split hsplit).1]; rfl⟩)
    ·
      refine do_next ?_
      refine ⟨⟨[va letters, va word, none, none], []⟩, ⟨⟨Or.inr rfl, ⟨Or.inr rfl, ⟨Or.inl rfl, ⟨Or.inl rfl, trivial⟩⟩⟩⟩, rfl⟩, ?_, rfl⟩
      · -- vc 1
        intro z hz
        rcases List.mem_append.mp hz with hz | hz
        · exact hI z hz
        · simp at hz
          subst hz
          simpa using h_if
  ·
    rintro e_ ⟨hI, rfl⟩
    refine ⟨(), fun _ _ => rfl, ?_⟩
    refine ⟨_, .slnil, rfl, ?_⟩
    · -- vc 2
      exact fun c hc => by obtain ⟨z, h1, h2⟩ := enum_mem hc; exact h2 ▸ hI z h1

end
end L03

namespace L03
open PySem L2 Fw
local macro_rules | `(tactic| walk_at "fsc") => `(tactic| first | omega | assumption | trivial | exact sgn_split (by assumption) | exact sgn_split2 (by assumption) | (intros; omega) | (with_reducible exact emod_both (by omega)) | (simp only [Bool.not_eq_true', Bool.not_eq_false', decide_eq_true_eq, decide_eq_false_iff_not, Bool.or_eq_false_iff, Bool.and_eq_true, List.length_cons, List.length_nil, List.length_append, List.length_cons, List.length_nil, List.length_map, signs_len, rngI_len, enumI_len, keysD_len, pre_check_letters, post_check_letters, pre_check_word, post_check_word, pre_in_order, post_in_order, pre_words_to, post_words_to, pre_rank, post_rank, pre_word_at, post_word_at, pre_scattered_words, post_scattered_words, pre_windows, post_windows, pre_class_of, post_class_of, pre_law_start, pre_law_next, post_law_next, pre_law_integer, post_law_integer, pre_law_exact, post_law_exact, pre_law_rank, post_law_rank, pre_law_word_at, post_law_word_at, pre_law_strings, post_law_strings, pre_law_sorted, post_law_sorted, pre_law_all_words, post_law_all_words, pre_law_parts, post_law_parts, pre_law_class, post_law_class, pre_law_bad_letters, post_law_bad_letters, pre_law_bad_word, post_law_bad_word, pre_law_refused, post_law_refused, pre_law_small_parts, post_law_small_parts, pre_law, post_law] at *; first | omega | assumption | (refine ⟨?_, ?_⟩ <;> first | omega | assumption) | (refine ⟨?_, ?_, ?_⟩ <;> first | omega | assumption)) | (have hl_ := congrArg List.length hs_; simp only [List.length_append, List.length_cons, List.length_nil, List.length_map, signs_len, rngI_len, enumI_len, keysD_len] at hl_; omega) | (have hr_ := rng_split hs_; omega))
local macro_rules | `(tactic| walk_at "fvc") => `(tactic| first | rfl | trivial | assumption | omega)
local macro_rules | `(tactic| walk_at "fxp") => `(tactic| first | exact hx_ | assumption)
local macro_rules | `(tactic| walk_at "frs") => `(tactic| first | assumption)

section
variable {P : Program} {w : World} {K : PySem.W.Frag} {mg : Str → Option Value} {base : Heap} {A : Ad}
abbrev s_class_of : Stmt := topS 16
abbrev N_class_of : List Str := ["letters", "word", "exact", "period", "told", "letter", "count"]
theorem sc_class_of : FnScope N_class_of ["letters", "word", "exact", "period"] (defScope s_class_of) := ⟨rfl, rfl, rfl, by decide +kernel, rfl, by decide +kernel, by decide +kernel⟩
set_option maxHeartbeats 4000000 in
theorem ok_class_of (T : Tx K mg A)  {fd : FuncData} (F : Fun K "class_of" "class_of" s_class_of A.class_of fd) : FnOk P w K mg base (L2.CX P w) 1 A.class_of fd ["letters", "word", "exact", "period"] (sp_class_of K) := by
  refine F.okX sc_class_of (fun us H Q E ⟨letters, word, ex, period, hpre, h⟩ => h.len) (fun cdv A_ outer s_ H us Q E hr ⟨letters, word, ex, period, hpre, h⟩ => ?_)
  refine ⟨_, (pss_cons (ps_set (i := 4) sc_class_of.nd rfl (by first | exact Or.inl rfl | exact Or.inr rfl) (pe_lst pa_nil)) (pss_cons (ps_for (passes_of rfl) rfl (pi_str (pv 0)) (pg_name (i := 5) sc_class_of.nd rfl (by first | exact Or.inl rfl | exact Or.inr rfl)) (pss_cons (ps_set (i := 6) sc_class_of.nd rfl (by first | exact Or.inl rfl | exact Or.inr rfl) (pe_bm PySem.F.plainAttrs_str PySem.F.slot_str_count PySem.F.type_str_count mt_countS (pv 1) (pa_cons (pv 5) pa_nil))) (pss_cons (ps_if (pt_cmpR op_ge (pv 6) (pv 2) (nomark _)) (pss_one (ps_set (i := 6) sc_class_of.nd rfl (by first | exact Or.inl rfl | exact Or.inr rfl) (pe_op op_add (pv 2) (pe_op op_mod (pe_op op_sub (pv 6) (pv 2)) (pv 3))))) pss_nil) (pss_one (ps_expr (pe_bm PySem.F.plainAttrs_list PySem.F.slot_list_append PySem.F.type_list_append mt_append (pv 4) (pa_cons (pv 6) pa_nil))))))) (pss_one (ps_ret (pe_callTy cr_tupOf (by rfl) T.m_tuple bb_tuple (pa_cons (pv 4) pa_nil)))))), ?_⟩
  refine Call.body (sl := [va letters, va word, va ex, va period, none, none, none]) h rfl fun G0_ H0_ => ?_
  have hpre_ := hpre; unfold pre_class_of at hpre_
  show Do _ _ ⟨[va letters, va word, va ex, va period, none, none, none], []⟩ _
  refine do_seq (do_asgL (i := 4) (evl_lstD (xs := ([] : List Int)) ea_nil (by simp)) fun a_told told h_told => ?_)
  show Do _ _ ⟨[va letters, va word, va ex, va period, va (Adr.mk a_told), none, none], [(a_told, ownL told)]⟩ _
  refine do_seq (do_forW (ei_str (ev_var (i := 0) rfl)) eg_name (fun (pre : List Str) e_ => ∃ (t : List Int), (ClsI word ex period pre t) ∧ e_ = ⟨[va letters, va word, va ex, va period, va (Adr.mk a_told), none, none], [(a_told, ownL t)]⟩) ?_ ?_ ?_)
  ·
    refine ⟨⟨[va letters, va word, va ex, va period, va (Adr.mk a_told), none, none], [(a_told, ownL _)]⟩, ⟨⟨Or.inr rfl, ⟨Or.inr rfl, ⟨Or.inr rfl, ⟨Or.inr rfl, ⟨Or.inr rfl, ⟨Or.inl rfl, ⟨Or.inl rfl, trivial⟩⟩⟩⟩⟩⟩⟩, rfl⟩, _, ?_, rfl⟩
    · -- vc 0
      exact h_told
  ·
    rintro pre x post e_ hsplit ⟨t, hI, rfl⟩
    have hlen_hsplit := congrArg List.length hsplit; simp only [List.length_append, List.length_cons, List.length_nil, List.length_map, signs_len, rngI_len, enumI_len, keysD_len] at hlen_hsplit
    show Do _ _ ⟨[va letters, va word, va ex, va period, va (Adr.mk a_told), va x, none], [(a_told, ownL t)]⟩ _
    refine do_seq (do_asg (i := 6) (ev_count (ev_var (i := 1) rfl) (ea_consD (ev_var (i := 5) rfl) ea_nil)) fun (count : Int) h_count => ?_)
    show Do _ _ ⟨[va letters, va word, va ex, va period, va (Adr.mk a_told), va x, va count], [(a_told, ownL t)]⟩ _
    refine do_seq (do_ifD (et_test (ev_opD (ev_var (i := 6) rfl) (ev_var (i := 2) rfl) r2_ge)) (fun h_if => ?_) (fun h_if => ?_))
    ·
      refine do_asg (i := 6) (ev_opD (ev_var (i := 2) rfl) (ev_opD (ev_opD (ev_var (i := 6) rfl) (ev_var (i := 2) rfl) r2_sub) (ev_var (i := 3) rfl) (r2_mod (by walk_at "fsc"))) r2_add) fun (count1 : Int) h_count1 => ?_
      show Do _ _ ⟨[va letters, va word, va ex, va period, va (Adr.mk a_told), va x, va count1], [(a_told, ownL t)]⟩ _
      refine do_append (k := 0) rfl (ev_var (i := 4) rfl) (ev_var (i := 6) rfl) (by have h1 := clsI_len hI; omega) fun (y : Int) h_y => ?_
      refine ⟨⟨[va letters, va word, va ex, va period, va (Adr.mk a_told), none, none], [(a_told, ownL _)]⟩, ⟨⟨Or.inr rfl, ⟨Or.inr rfl, ⟨Or.inr rfl, ⟨Or.inr rfl, ⟨Or.inr rfl, ⟨Or.inl rfl, ⟨Or.inl rfl, trivial⟩⟩⟩⟩⟩⟩⟩, rfl⟩, _, ?_, rfl⟩
      · -- vc 1
        exact clsI_snoc hI (by rw [h_y, h_count1, h_count, count_sgn (sgn_split hsplit)]; exact cls_yes (by rw [← count_sgn (sgn_split hsplit), ← h_count]; exact h_if))
    ·
      refine do_next ?_
      show Do _ _ ⟨[va letters, va word, va ex, va period, va (Adr.mk a_told), va x, va count], [(a_told, ownL t)]⟩ _
      refine do_append (k := 0) rfl (ev_var (i := 4) rfl) (ev_var (i := 6) rfl) (by have h1 := clsI_len hI; omega) fun (y1 : Int) h_y1 => ?_
      refine ⟨⟨[va letters, va word, va ex, va period, va (Adr.mk a_told), none, none], [(a_told, ownL _)]⟩, ⟨⟨Or.inr rfl, ⟨Or.inr rfl, ⟨Or.inr rfl, ⟨Or.inr rfl, ⟨Or.inr rfl, ⟨Or.inl rfl, ⟨Or.inl rfl, trivial⟩⟩⟩⟩⟩⟩⟩, rfl⟩, _, ?_, rfl⟩
      · -- vc 2
        exact clsI_snoc hI (by rw [h_y1, h_count, count_sgn (sgn_split hsplit)]; exact cls_no (by rw [← count_sgn (sgn_split hsplit), ← h_count]; exact h_if))
  ·
    rintro e_ ⟨t, hI, rfl⟩
    show Do _ _ ⟨[va letters, va word, va ex, va period, va (Adr.mk a_told), none, none], [(a_told, ownL t)]⟩ _
    refine do_ret (ev_cbD (ea_consD (ev_var (i := 4) rfl) ea_nil) (rc_tupO (k := 0) rfl)) fun z h_ret => ?_
    refine ⟨_, (.cons _ .slnil), rfl, ?_⟩
    · -- vc 3
      subst h_ret; rw [hI]; rfl

end
end L03

namespace L03
open PySem L2 Fw
local macro_rules | `(tactic| walk_at "fsc") => `(tactic| first | omega | assumption | trivial | exact sgn_split (by assumption) | exact sgn_split2 (by assumption) | (intros; omega) | (with_reducible exact emod_both (by omega)) | (simp only [Bool.not_eq_true', Bool.not_eq_false', decide_eq_true_eq, decide_eq_false_iff_not, Bool.or_eq_false_iff, Bool.and_eq_true, List.length_cons, List.length_nil, List.length_append, List.length_cons, List.length_nil, List.length_map, signs_len, rngI_len, enumI_len, keysD_len, pre_check_letters, post_check_letters, pre_check_word, post_check_word, pre_in_order, post_in_order, pre_words_to, post_words_to, pre_rank, post_rank, pre_word_at, post_word_at, pre_scattered_words, post_scattered_words, pre_windows, post_windows, pre_class_of, post_class_of, pre_law_start, pre_law_next, post_law_next, pre_law_integer, post_law_integer, pre_law_exact, post_law_exact, pre_law_rank, post_law_rank, pre_law_word_at, post_law_word_at, pre_law_strings, post_law_strings, pre_law_sorted, post_law_sorted, pre_law_all_words, post_law_all_words, pre_law_parts, post_law_parts, pre_law_class, post_law_class, pre_law_bad_letters, post_law_bad_letters, pre_law_bad_word, post_law_bad_word, pre_law_refused, post_law_refused, pre_law_small_parts, post_law_small_parts, pre_law, post_law] at *; first | omega | assumption | (refine ⟨?_, ?_⟩ <;> first | omega | assumption) | (refine ⟨?_, ?_, ?_⟩ <;> first | omega | assumption)) | (have hl_ := congrArg List.length hs_; simp only [List.length_append, List.length_cons, List.length_nil, List.length_map, signs_len, rngI_len, enumI_len, keysD_len] at hl_; omega) | (have hr_ := rng_split hs_; omega))
local macro_rules | `(tactic| walk_at "fvc") => `(tactic| first | rfl | trivial | assumption | omega)
local macro_rules | `(tactic| walk_at "fxp") => `(tactic| first | exact hx_ | assumption)
local macro_rules | `(tactic| walk_at "frs") => `(tactic| first | assumption)

section
variable {P : Program} {w : World} {K : PySem.W.Frag} {mg : Str → Option Value} {base : Heap} {A : Ad}
abbrev s_in_order : Stmt := topS 10
abbrev N_in_order : List Str := ["words", "found", "word"]
theorem sc_in_order : FnScope N_in_order ["words"] (defScope s_in_order) := ⟨rfl, rfl, rfl, by decide +kernel, rfl, by decide +kernel, by decide +kernel⟩
set_option maxHeartbeats 4000000 in
theorem ok_in_order (T : Tx K mg A) (k_order_key : KeyF P w K mg base A.order_key) (g_order_key : mg "order_key" = some (.ref A.order_key)) {fd : FuncData} (F : Fun K "in_order" "in_order" s_in_order A.in_order fd) : FnOk P w K mg base (L2.CX P w) 5 A.in_order fd ["words"] (sp_in_order K) := by
  refine F.okX sc_in_order (fun us H Q E ⟨words, hpre, h⟩ => h.len) (fun cdv A_ outer s_ H us Q E hr ⟨words, hpre, h⟩ => ?_)
  refine ⟨_, (pss_cons (ps_set (i := 1) sc_in_order.nd rfl (by first | exact Or.inl rfl | exact Or.inr rfl) pe_dnewK) (pss_cons (ps_for (passes_of rfl) rfl (pi_list (pv 0)) (pg_name (i := 2) sc_in_order.nd rfl (by first | exact Or.inl rfl | exact Or.inr rfl)) (pss_one (ps_dput (hu_of hr) (pv 1) (pv 2) pe_bl rfl))) (pss_one (ps_ret (pe_sortedK (hr.mono (by decide)) k_order_key g_order_key T.m_sorted (pe_callTy (call_list_dK rfl) (by rfl) T.m_list bb_list (pa_cons (pv 1) pa_nil))))))), ?_⟩
  refine Call.body (sl := [va words, none, none]) h rfl fun G0_ H0_ => ?_
  have hpre_ := hpre; unfold pre_in_order at hpre_
  show Do _ _ ⟨[va words, none, none], []⟩ _
  refine do_seq (do_dnew (i := 1) Bool fun a_found => ?_)
  show Do _ _ ⟨[va words, va (Adr.mk a_found), none], [(a_found, ownD ([] : List (Str × Bool)))]⟩ _
  refine do_seq (do_forW (ei_list (ev_var (i := 0) rfl)) eg_name (fun (pre : List Str) e_ => ∃ (d : List (Str × Bool)), (DicI pre d) ∧ e_ = ⟨[va words, va (Adr.mk a_found), none], [(a_found, ownD d)]⟩) ?_ ?_ ?_)
  ·
    refine ⟨⟨[va words, va (Adr.mk a_found), none], [(a_found, ownD _)]⟩, ⟨⟨Or.inr rfl, ⟨Or.inr rfl, ⟨Or.inl rfl, trivial⟩⟩⟩, rfl⟩, _, ?_, rfl⟩
    · -- vc 0
      exact ⟨by simp [keysD], by simp [keysD], by simp⟩
  ·
    rintro pre x post e_ hsplit ⟨d, hI, rfl⟩
    have hlen_hsplit := congrArg List.length hsplit; simp only [List.length_append, List.length_cons, List.length_nil, List.length_map, signs_len, rngI_len, enumI_len, keysD_len] at hlen_hsplit
    show Do _ _ ⟨[va words, va (Adr.mk a_found), va x], [(a_found, ownD d)]⟩ _
    refine do_dput (k := 0) rfl ev_bl (ev_var (i := 1) rfl) (ev_var (i := 2) rfl) (by have h1 := hI.2.2; omega) fun (y : Bool) h_y => ?_
    refine ⟨⟨[va words, va (Adr.mk a_found), none], [(a_found, ownD _)]⟩, ⟨⟨Or.inr rfl, ⟨Or.inr rfl, ⟨Or.inl rfl, trivial⟩⟩⟩, rfl⟩, _, ?_, rfl⟩
    · -- vc 1
      exact dicI_step hI
  ·
    rintro e_ ⟨d, hI, rfl⟩
    show Do _ _ ⟨[va words, va (Adr.mk a_found), none], [(a_found, ownD d)]⟩ _
    refine do_ret (evl_val (evl_sortedK (evl_val (evl_listD (k := 0) rfl (ea_consD (ev_var (i := 1) rfl) ea_nil))) (by have h1 := hI.2.2; rw [keysD_len]; omega) (by exact fun x hx => by have h1 := hpre_.2 x ((hI.2.1 x).mp hx); omega))) fun z h_ret => ?_
    refine ⟨_, (.cons _ .slnil), rfl, ?_⟩
    · -- vc 2
      subst h_ret; exact (sortW_sup hI.1).congr hI.2.1

end
end L03

namespace L03
open PySem L2 Fw
local macro_rules | `(tactic| walk_at "fsc") => `(tactic| first | omega | assumption | trivial | exact sgn_split (by assumption) | exact sgn_split2 (by assumption) | (intros; omega) | (with_reducible exact emod_both (by omega)) | (simp only [Bool.not_eq_true', Bool.not_eq_false', decide_eq_true_eq, decide_eq_false_iff_not, Bool.or_eq_false_iff, Bool.and_eq_true, List.length_cons, List.length_nil, List.length_append, List.length_cons, List.length_nil, List.length_map, signs_len, rngI_len, enumI_len, keysD_len, pre_check_letters, post_check_letters, pre_check_word, post_check_word, pre_in_order, post_in_order, pre_words_to, post_words_to, pre_rank, post_rank, pre_word_at, post_word_at, pre_scattered_words, post_scattered_words, pre_windows, post_windows, pre_class_of, post_class_of, pre_law_start, pre_law_next, post_law_next, pre_law_integer, post_law_integer, pre_law_exact, post_law_exact, pre_law_rank, post_law_rank, pre_law_word_at, post_law_word_at, pre_law_strings, post_law_strings, pre_law_sorted, post_law_sorted, pre_law_all_words, post_law_all_words, pre_law_parts, post_law_parts, pre_law_class, post_law_class, pre_law_bad_letters, post_law_bad_letters, pre_law_bad_word, post_law_bad_word, pre_law_refused, post_law_refused, pre_law_small_parts, post_law_small_parts, pre_law, post_law] at *; first | omega | assumption | (refine ⟨?_, ?_⟩ <;> first | omega | assumption) | (refine ⟨?_, ?_, ?_⟩ <;> first | omega | assumption)) | (have hl_ := congrArg List.length hs_; simp only [List.length_append, List.length_cons, List.length_nil, List.length_map, signs_len, rngI_len, enumI_len, keysD_len] at hl_; omega) | (have hr_ := rng_split hs_; omega))
local macro_rules | `(tactic| walk_at "fvc") => `(tactic| first | rfl | trivial | assumption | omega)
local macro_rules | `(tactic| walk_at "fxp") => `(tactic| first | exact hx_ | assumption)
local macro_rules | `(tactic| walk_at "frs") => `(tactic| first | assumption)

section
variable {P : Program} {w : World} {K : PySem.W.Frag} {mg : Str → Option Value} {base : Heap} {A : Ad}
abbrev s_law : Stmt := topS 33
abbrev N_law : List Str := ["script", "state", "letters", "size", "word", "number", "drawn", "told", "words", "given", "most", "k"]
theorem sc_law : FnScope N_law ["script"] (defScope s_law) := ⟨rfl, rfl, rfl, by decide +kernel, rfl, by decide +kernel, by decide +kernel⟩
set_option maxHeartbeats 4000000 in
theorem ok_law (T : Tx K mg A) (h_law_all_words : Cal P w K mg base 2 A.law_all_words "_law_all_words" ["letters", "most"] (sp_law_all_words K)) (h_law_exact : Cal P w K mg base 2 A.law_exact "_law_exact" ["state", "letters", "size"] (sp_law_exact K)) (h_law_integer : Cal P w K mg base 1 A.law_integer "_law_integer" ["actual"] (sp_law_integer K)) (h_law_next : Cal P w K mg base 1 A.law_next "_law_next" ["state", "many"] (sp_law_next K)) (h_law_rank : Cal P w K mg base 1 A.law_rank "_law_rank" ["letters", "word"] (sp_law_rank K)) (h_law_refused : Cal P w K mg base 11 A.law_refused "_law_refused" ["state", "letters", "word"] (sp_law_refused K)) (h_law_small_parts : Cal P w K mg base 7 A.law_small_parts "_law_small_parts" ["state", "letters"] (sp_law_small_parts K)) (h_law_sorted : Cal P w K mg base 1 A.law_sorted "_law_sorted" ["words"] (sp_law_sorted K)) (h_law_start : Cal P w K mg base 1 A.law_start "_law_start" ["script"] (sp_law_start K)) (h_law_strings : Cal P w K mg base 1 A.law_strings "_law_strings" ["actual", "due"] (sp_law_strings K)) (h_law_word_at : Cal P w K mg base 1 A.law_word_at "_law_word_at" ["letters", "number"] (sp_law_word_at K)) (h_in_order : Cal P w K mg base 5 A.in_order "in_order" ["words"] (sp_in_order K)) (h_rank : Cal P w K mg base 4 A.rank "rank" ["letters", "word"] (sp_rank K A)) (h_word_at : Cal P w K mg base 2 A.word_at "word_at" ["letters", "number"] (sp_word_at K A)) (h_words_to : Cal P w K mg base 2 A.words_to "words_to" ["letters", "most"] (sp_words_to K A)) {fd : FuncData} (F : Fun K "law" "law" s_law A.law fd) : FnOk P w K mg base (L2.CX P w) 12 A.law fd ["script"] (sp_law K) := by
  refine F.okX sc_law (fun us H Q E ⟨script, hpre, h⟩ => h.len) (fun cdv A_ outer s_ H us Q E hr ⟨script, hpre, h⟩ => ?_)
  refine ⟨_, (pss_cons (ps_set (i := 1) sc_law.nd rfl (by first | exact Or.inl rfl | exact Or.inr rfl) (pe_cal (W := (fun _ _ _ _ => False)) h_law_start (hr.mono (by decide)) takes0 (pa_cons (pv 0) pa_nil))) (pss_cons (ps_set (i := 2) sc_law.nd rfl (by first | exact Or.inl rfl | exact Or.inr rfl) (pe_ix ix_list (pe_lst (pa_cons pe_str (pa_cons pe_str (pa_cons pe_str (pa_cons pe_str (pa_cons pe_str (pa_cons pe_str pa_nil))))))) (pe_cal (W := (fun _ _ _ _ => False)) h_law_next (hr.mono (by decide)) takes0 (pa_cons (pv 1) (pa_cons pe_int pa_nil))) (fun _ _ => rfl))) (pss_cons (ps_set (i := 3) sc_law.nd rfl (by first | exact Or.inl rfl | exact Or.inr rfl) (pe_cal (W := (fun _ _ _ _ => False)) h_law_next (hr.mono (by decide)) takes0 (pa_cons (pv 1) (pa_cons pe_int pa_nil)))) (pss_cons (ps_if (pt_cmpR op_eq (pe_cal (W := (fun _ _ _ _ => False)) h_law_next (hr.mono (by decide)) takes0 (pa_cons (pv 1) (pa_cons pe_int pa_nil))) pe_int (nomark _)) (pss_one (ps_set (i := 3) sc_law.nd rfl (by first | exact Or.inl rfl | exact Or.inr rfl) (pe_cal (W := (fun _ _ _ _ => False)) h_law_next (hr.mono (by decide)) takes0 (pa_cons (pv 1) (pa_cons pe_int pa_nil))))) pss_nil) (pss_cons (ps_set (i := 4) sc_law.nd rfl (by first | exact Or.inl rfl | exact Or.inr rfl) (pe_cal (W := (fun _ _ _ _ => False)) h_law_exact (hr.mono (by decide)) takes0 (pa_cons (pv 1) (pa_cons (pv 2) (pa_cons (pv 3) pa_nil))))) (pss_cons (ps_if (pt_cmpR op_eq (pe_cal (W := (fun _ _ _ _ => False)) h_law_next (hr.mono (by decide)) takes0 (pa_cons (pv 1) (pa_cons pe_int pa_nil))) pe_int (nomark _)) (pss_one (ps_set (i := 4) sc_law.nd rfl (by first | exact Or.inl rfl | exact Or.inr rfl) (pe_op op_repS (pe_ix ix_str (pv 2) (pe_ix ix_list (pe_lst (pa_cons pe_int (pa_cons (pe_un un_neg pe_int) pa_nil))) (pe_cal (W := (fun _ _ _ _ => False)) h_law_next (hr.mono (by decide)) takes0 (pa_cons (pv 1) (pa_cons pe_int pa_nil))) (fun _ _ => rfl)) (fun _ _ => rfl)) (pv 3)))) pss_nil) (pss_cons (ps_set (i := 5) sc_law.nd rfl (by first | exact Or.inl rfl | exact Or.inr rfl) (pe_cal (W := (fun _ _ _ _ => False)) h_rank (hr.mono (by decide)) takes0 (pa_cons (pv 2) (pa_cons (pv 4) pa_nil)))) (pss_cons (ps_if (PW.pt (pw_or (pt_not (pt_val (pe_cal (W := (fun _ _ _ _ => False)) h_law_integer (hr.mono (by decide)) takes0 (pa_cons (pv 5) pa_nil)))) (pw_or (pt_cmpR op_ne (pv 5) (pe_cal (W := (fun _ _ _ _ => False)) h_law_rank (hr.mono (by decide)) takes0 (pa_cons (pv 2) (pa_cons (pv 4) pa_nil))) (nomark _)) (pw_or1 (pt_cmpR op_ne (pe_cal (W := (fun _ _ _ _ => False)) h_word_at (hr.mono (by decide)) takes0 (pa_cons (pv 2) (pa_cons (pv 5) pa_nil))) (pv 4) (nomark _)))))) (pss_one (ps_ret pe_bl)) pss_nil) (pss_cons (ps_set (i := 6) sc_law.nd rfl (by first | exact Or.inl rfl | exact Or.inr rfl) (pe_callB (cr_max2 rfl) (by rfl) T.m_max bb_max (pa_cons pe_int (pa_cons (pe_op op_sub (pv 5) (pe_cal (W := (fun _ _ _ _ => False)) h_law_next (hr.mono (by decide)) takes0 (pa_cons (pv 1) (pa_cons pe_int pa_nil)))) pa_nil)))) (pss_cons (ps_set (i := 7) sc_law.nd rfl (by first | exact Or.inl rfl | exact Or.inr rfl) (pe_cal (W := (fun _ _ _ _ => False)) h_word_at (hr.mono (by decide)) takes0 (pa_cons (pv 2) (pa_cons (pv 6) pa_nil)))) (pss_cons (ps_if (PW.pt (pw_or (pt_not (pt_val (pe_callB call_isi (by rfl) T.m_isinstance bb_isinstance (pa_cons (pv 7) (pa_cons (pe_bltn (v := .ty "str") (by rfl) T.m_str bb_str rfl) pa_nil))))) (pw_or1 (pt_cmpR op_ne (pv 7) (pe_cal (W := (fun _ _ _ _ => False)) h_law_word_at (hr.mono (by decide)) takes0 (pa_cons (pv 2) (pa_cons (pv 6) pa_nil))) (nomark _))))) (pss_one (ps_ret pe_bl)) pss_nil) (pss_cons (ps_setLc (i := 8) (own := [("k", 11)]) (g := gName 11) (tt := tYes) rfl sc_law.nd rfl rfl (sw_true rfl rfl rfl (by decide +kernel)) (pi_range1 (by rfl) T.m_range (pa_cons (pe_cal (W := (fun _ _ _ _ => False)) h_law_next (hr.mono (by decide)) takes0 (pa_cons (pv 1) (pa_cons pe_int pa_nil))) pa_nil)) (blkOk_by (N := N_law) (sc := defScope s_law) (by decide +kernel)) (fun _ _ _ _ _ => (pg_name (i := 11) sc_law.nd rfl (by first | exact Or.inl rfl | exact Or.inr rfl))) (fun _ _ _ _ _ => pts_nil) (fun _ _ _ _ _ => (pe_cal (W := (fun _ _ _ _ => False)) h_law_exact (hr.mono (by decide)) takes0 (pa_cons (pv 1) (pa_cons (pv 2) (pa_cons (pe_cal (W := (fun _ _ _ _ => False)) h_law_next (hr.mono (by decide)) takes0 (pa_cons (pv 1) (pa_cons pe_int pa_nil))) pa_nil)))))) (pss_cons (ps_set (i := 9) sc_law.nd rfl (by first | exact Or.inl rfl | exact Or.inr rfl) (pe_callTy cr_listOf (by rfl) T.m_list bb_list (pa_cons (pv 8) pa_nil))) (pss_cons (ps_if (PW.pt (pw_or (pt_not (pt_val (pe_cal (W := (fun _ _ _ _ => False)) h_law_strings (hr.mono (by decide)) takes0 (pa_cons (pe_cal (W := (fun _ _ _ _ => False)) h_in_order (hr.mono (by decide)) takes0 (pa_cons (pv 9) pa_nil)) (pa_cons (pe_cal (W := (fun _ _ _ _ => False)) h_law_sorted (hr.mono (by decide)) takes0 (pa_cons (pv 8) pa_nil)) pa_nil))))) (pw_or1 (pt_cmpR (op_neD hr.units) (pv 9) (pv 8) (nomark _))))) (pss_one (ps_ret pe_bl)) pss_nil) (pss_cons (ps_set (i := 10) sc_law.nd rfl (by first | exact Or.inl rfl | exact Or.inr rfl) (pe_cal (W := (fun _ _ _ _ => False)) h_law_next (hr.mono (by decide)) takes0 (pa_cons (pv 1) (pa_cons pe_int pa_nil)))) (pss_cons (ps_if (PW.pt (pw_or (PW.pt (pw_and (pt_cmpR op_lt (pe_callB cr_lenT (by rfl) T.m_len bb_len (pa_cons (pv 2) pa_nil)) pe_int (nomark _)) (pw_and1 (pt_cmpR op_eq (pe_cal (W := (fun _ _ _ _ => False)) h_law_next (hr.mono (by decide)) takes0 (pa_cons (pv 1) (pa_cons pe_int pa_nil))) pe_int (nomark _))))) (pw_or1 (pt_cmpR op_eq (pe_cal (W := (fun _ _ _ _ => False)) h_law_next (hr.mono (by decide)) takes0 (pa_cons (pv 1) (pa_cons pe_int pa_nil))) pe_int (nomark _))))) (pss_one (ps_set (i := 10) sc_law.nd rfl (by first | exact Or.inl rfl | exact Or.inr rfl) (pe_op op_add pe_int (pe_cal (W := (fun _ _ _ _ => False)) h_law_next (hr.mono (by decide)) takes0 (pa_cons (pv 1) (pa_cons pe_int pa_nil)))))) pss_nil) (pss_cons (ps_if (pt_not (pt_val (pe_cal (W := (fun _ _ _ _ => False)) h_law_strings (hr.mono (by decide)) takes0 (pa_cons (pe_cal (W := (fun _ _ _ _ => False)) h_words_to (hr.mono (by decide)) takes0 (pa_cons (pv 2) (pa_cons (pv 10) pa_nil))) (pa_cons (pe_cal (W := (fun _ _ _ _ => False)) h_law_all_words (hr.mono (by decide)) takes0 (pa_cons (pv 2) (pa_cons (pv 10) pa_nil))) pa_nil))))) (pss_one (ps_ret pe_bl)) pss_nil) (pss_cons (ps_if (PW.pt (pw_and (pt_cmpR op_eq (pe_cal (W := (fun _ _ _ _ => False)) h_law_next (hr.mono (by decide)) takes0 (pa_cons (pv 1) (pa_cons pe_int pa_nil))) pe_int (nomark _)) (pw_and1 (pt_not (pt_val (pe_cal (W := (fun _ _ _ _ => False)) h_law_refused (hr.mono (by decide)) takes0 (pa_cons (pv 1) (pa_cons (pv 2) (pa_cons (pv 4) pa_nil))))))))) (pss_one (ps_ret pe_bl)) pss_nil) (pss_one (ps_ret (pe_cal (W := (fun _ _ _ _ => False)) h_law_small_parts (hr.mono (by decide)) takes0 (pa_cons (pv 1) (pa_cons (pv 2) pa_nil))))))))))))))))))))))), ?_⟩
  refine Call.body (sl := [va script, none, none, none, none, none, none, none, none, none, none, none]) h rfl fun G0_ H0_ => ?_
  have hpre_ := hpre; unfold pre_law at hpre_
  show Do _ _ ⟨[va script, none, none, none, none, none, none, none, none, none, none, none], []⟩ _
  refine do_seq (do_callNew (i := 1) (c0 := stC true) (ea_consD (ev_var (i := 0) rfl) ea_nil) rfl (fun ss_ hs_ us_ H_ Q_ E_ h_ => by obtain rfl := hs_; exact ⟨script, (by walk_at "fsc"), h_⟩) fun a_state => ?_)
  show Do _ _ ⟨[va script, va (Adr.mk a_state), none, none, none, none, none, none, none, none, none, none], [(a_state, stC true)]⟩ _
  refine do_seq (do_asg (i := 2) (ev_op (P'' := (fun (z_ : Str) => ∃ (r : Int), post_law_next a_state (6 : Int) r ∧ z_ = (([("ab" : Str), ("a" : Str), ("abc" : Str), ("bd" : Str), ("acz" : Str), ("abcd" : Str)] : List Str).getD (r).toNat dS))) (evl_val (evl_lstD (xs := ([("ab" : Str), ("a" : Str), ("abc" : Str), ("bd" : Str), ("acz" : Str), ("abcd" : Str)] : List Str)) (ea_consD ev_str (ea_consD ev_str (ea_consD ev_str (ea_consD ev_str (ea_consD ev_str (ea_consD ev_str ea_nil)))))) (by simp))) (fun x_ hx_ => (Ev.mono (P' := (fun (z_ : Int) => ∃ (r : Int), post_law_next a_state (6 : Int) r ∧ z_ = r)) (ev_call1 (W := (fun _ _ _ _ => False)) (k := 0) (c := stC false) (P' := (fun (z_ : Int) => post_law_next a_state (6 : Int) z_)) rfl rfl rfl (fun _ => False) (ea_consD (ev_var (i := 1) rfl) (ea_consD ev_int ea_nil)) (fun ss_ hs_ us_ H_ Q_ E_ h_ => by obtain rfl := hs_; exact ⟨a_state, (6 : Int), (by walk_at "fsc"), Call.imp h_ (fun r_ c_ hq_ => hq_) (fun x_ c_ hq_ => hq_)⟩) (fun x_ hx_ => hx_.elim)) (fun z_ hz_ => ⟨z_, hz_, rfl⟩))) (fun x_ y_ hx_ hy_ => by rw [hx_]; obtain ⟨r, hc_r, hy_⟩ := hy_; rw [hy_]; exact R2V.mono (r2_ixLp (d := dS) (by walk_at "fsc")) fun z_ hz_ => ⟨r, hc_r, hz_⟩)) fun (letters : Str) h_letters => ?_)
  obtain ⟨r, hc_r, h_letters⟩ := h_letters
  show Do _ _ ⟨[va script, va (Adr.mk a_state), va letters, none, none, none, none, none, none, none, none, none], [(a_state, stC true)]⟩ _
  refine do_seq (do_asg (i := 3) (ev_call1 (W := (fun _ _ _ _ => False)) (k := 0) (c := stC false) (P' := (fun (z_ : Int) => post_law_next a_state (13 : Int) z_)) rfl rfl rfl (fun _ => False) (ea_consD (ev_var (i := 1) rfl) (ea_consD ev_int ea_nil)) (fun ss_ hs_ us_ H_ Q_ E_ h_ => by obtain rfl := hs_; exact ⟨a_state, (13 : Int), (by walk_at "fsc"), Call.imp h_ (fun r_ c_ hq_ => hq_) (fun x_ c_ hq_ => hq_)⟩) (fun x_ hx_ => hx_.elim)) fun (size_ : Int) h_size_ => ?_)
  show Do _ _ ⟨[va script, va (Adr.mk a_state), va letters, va size_, none, none, none, none, none, none, none, none], [(a_state, stC true)]⟩ _
  refine do_seqJ (fun e_ => ∃ (sz : Int), (0 ≤ sz ∧ sz ≤ 200) ∧ e_ = ⟨[va script, va (Adr.mk a_state), va letters, va sz, none, none, none, none, none, none, none, none], [(a_state, stC true)]⟩) ?_ ?_
  ·
    refine do_if (et_test (ev_op (P'' := (fun (z_ : Bool) => ∃ (r2 : Int), post_law_next a_state (8 : Int) r2 ∧ z_ = (decide (r2 = (3 : Int))))) (Ev.mono (P' := (fun (z_ : Int) => ∃ (r2 : Int), post_law_next a_state (8 : Int) r2 ∧ z_ = r2)) (ev_call1 (W := (fun _ _ _ _ => False)) (k := 0) (c := stC false) (P' := (fun (z_ : Int) => post_law_next a_state (8 : Int) z_)) rfl rfl rfl (fun _ => False) (ea_consD (ev_var (i := 1) rfl) (ea_consD ev_int ea_nil)) (fun ss_ hs_ us_ H_ Q_ E_ h_ => by obtain rfl := hs_; exact ⟨a_state, (8 : Int), (by walk_at "fsc"), Call.imp h_ (fun r_ c_ hq_ => hq_) (fun x_ c_ hq_ => hq_)⟩) (fun x_ hx_ => hx_.elim)) (fun z_ hz_ => ⟨z_, hz_, rfl⟩)) (fun x_ hx_ => ev_int) (fun x_ y_ hx_ hy_ => by obtain ⟨r2, hc_r2, hx_⟩ := hx_; rw [hx_]; rw [hy_]; exact R2V.mono r2_eqI fun z_ hz_ => ⟨r2, hc_r2, hz_⟩))) (fun h_if => ?_) (fun h_if => ?_)
    ·
      obtain ⟨r2, hc_r2, h_if⟩ := h_if
      refine do_asg (i := 3) (ev_call1 (W := (fun _ _ _ _ => False)) (k := 0) (c := stC false) (P' := (fun (z_ : Int) => post_law_next a_state (201 : Int) z_)) rfl rfl rfl (fun _ => False) (ea_consD (ev_var (i := 1) rfl) (ea_consD ev_int ea_nil)) (fun ss_ hs_ us_ H_ Q_ E_ h_ => by obtain rfl := hs_; exact ⟨a_state, (201 : Int), (by walk_at "fsc"), Call.imp h_ (fun r_ c_ hq_ => hq_) (fun x_ c_ hq_ => hq_)⟩) (fun x_ hx_ => hx_.elim)) fun (size_1 : Int) h_size_1 => ?_
      refine ⟨⟨[va script, va (Adr.mk a_state), va letters, va _, none, none, none, none, none, none, none, none], [(a_state, stC true)]⟩, ⟨⟨Or.inr rfl, ⟨Or.inr rfl, ⟨Or.inr rfl, ⟨Or.inr rfl, ⟨Or.inl rfl, ⟨Or.inl rfl, ⟨Or.inl rfl, ⟨Or.inl rfl, ⟨Or.inl rfl, ⟨Or.inl rfl, ⟨Or.inl rfl, ⟨Or.inl rfl, trivial⟩⟩⟩⟩⟩⟩⟩⟩⟩⟩⟩⟩, rfl⟩, _, ?_, rfl⟩
      · -- vc 0
        exact ⟨h_size_1.1, by have h1 := h_size_1.2; omega⟩
    ·
      obtain ⟨r2, hc_r2, h_if⟩ := h_if
      refine do_next ?_
      refine ⟨⟨[va script, va (Adr.mk a_state), va letters, va _, none, none, none, none, none, none, none, none], [(a_state, stC true)]⟩, ⟨⟨Or.inr rfl, ⟨Or.inr rfl, ⟨Or.inr rfl, ⟨Or.inr rfl, ⟨Or.inl rfl, ⟨Or.inl rfl, ⟨Or.inl rfl, ⟨Or.inl rfl, ⟨Or.inl rfl, ⟨Or.inl rfl, ⟨Or.inl rfl, ⟨Or.inl rfl, trivial⟩⟩⟩⟩⟩⟩⟩⟩⟩⟩⟩⟩, rfl⟩, _, ?_, rfl⟩
      · -- vc 1
        exact ⟨h_size_.1, by have h1 := h_size_.2; omega⟩
  ·
    rintro e_ ⟨sz, hS, rfl⟩
    show Do _ _ ⟨[va script, va (Adr.mk a_state), va letters, va sz, none, none, none, none, none, none, none, none], [(a_state, stC true)]⟩ _
    refine do_seq (do_asg (i := 4) (ev_call1 (W := (fun _ _ _ _ => False)) (k := 0) (c := stC false) (P' := (fun (z_ : Str) => post_law_exact a_state letters sz z_)) rfl rfl rfl (fun _ => False) (ea_consD (ev_var (i := 1) rfl) (ea_consD (ev_var (i := 2) rfl) (ea_consD (ev_var (i := 3) rfl) ea_nil))) (fun ss_ hs_ us_ H_ Q_ E_ h_ => by obtain rfl := hs_; exact ⟨a_state, letters, sz, (by have h1 := (good6 hc_r h_letters); exact ⟨h1.1, by have h2 := h1.2.1; omega, hS.1, by omega⟩), Call.imp h_ (fun r_ c_ hq_ => hq_) (fun x_ c_ hq_ => hq_)⟩) (fun x_ hx_ => hx_.elim)) fun (word : Str) h_word => ?_)
    show Do _ _ ⟨[va script, va (Adr.mk a_state), va letters, va sz, va word, none, none, none, none, none, none, none], [(a_state, stC true)]⟩ _
    refine do_seqJ (fun e_ => ∃ (wd : Str), (wd.length = sz.toNat) ∧ (inL letters wd) ∧ e_ = ⟨[va script, va (Adr.mk a_state), va letters, va sz, va wd, none, none, none, none, none, none, none], [(a_state, stC true)]⟩) ?_ ?_
    ·
      refine do_if (et_test (ev_op (P'' := (fun (z_ : Bool) => ∃ (r5 : Int), post_law_next a_state (4 : Int) r5 ∧ z_ = (decide (r5 = (0 : Int))))) (Ev.mono (P' := (fun (z_ : Int) => ∃ (r5 : Int), post_law_next a_state (4 : Int) r5 ∧ z_ = r5)) (ev_call1 (W := (fun _ _ _ _ => False)) (k := 0) (c := stC false) (P' := (fun (z_ : Int) => post_law_next a_state (4 : Int) z_)) rfl rfl rfl (fun _ => False) (ea_consD (ev_var (i := 1) rfl) (ea_consD ev_int ea_nil)) (fun ss_ hs_ us_ H_ Q_ E_ h_ => by obtain rfl := hs_; exact ⟨a_state, (4 : Int), (by walk_at "fsc"), Call.imp h_ (fun r_ c_ hq_ => hq_) (fun x_ c_ hq_ => hq_)⟩) (fun x_ hx_ => hx_.elim)) (fun z_ hz_ => ⟨z_, hz_, rfl⟩)) (fun x_ hx_ => ev_int) (fun x_ y_ hx_ hy_ => by obtain ⟨r5, hc_r5, hx_⟩ := hx_; rw [hx_]; rw [hy_]; exact R2V.mono r2_eqI fun z_ hz_ => ⟨r5, hc_r5, hz_⟩))) (fun h_if1 => ?_) (fun h_if1 => ?_)
      ·
        obtain ⟨r5, hc_r5, h_if1⟩ := h_if1
        refine do_asg (i := 4) (ev_op (P'' := (fun (z_ : Str) => ∃ (r6 : Int), post_law_next a_state (2 : Int) r6 ∧ z_ = (Txt.mul (sgnAt letters (ixAny (letters).length (([(0 : Int), (-(1 : Int))] : List Int).getD (r6).toNat (0 : Int)))) sz))) (ev_op (P'' := (fun (z_ : Str) => ∃ (r6 : Int), post_law_next a_state (2 : Int) r6 ∧ z_ = (sgnAt letters (ixAny (letters).length (([(0 : Int), (-(1 : Int))] : List Int).getD (r6).toNat (0 : Int)))))) (ev_var (i := 2) rfl) (fun x_ hx_ => (ev_op (P'' := (fun (z_ : Int) => ∃ (r6 : Int), post_law_next a_state (2 : Int) r6 ∧ z_ = (([(0 : Int), (-(1 : Int))] : List Int).getD (r6).toNat (0 : Int)))) (evl_val (evl_lstD (xs := ([(0 : Int), (-(1 : Int))] : List Int)) (ea_consD ev_int (ea_consD (ev_neg ev_int) ea_nil)) (by simp))) (fun x_ hx_ => (Ev.mono (P' := (fun (z_ : Int) => ∃ (r6 : Int), post_law_next a_state (2 : Int) r6 ∧ z_ = r6)) (ev_call1 (W := (fun _ _ _ _ => False)) (k := 0) (c := stC false) (P' := (fun (z_ : Int) => post_law_next a_state (2 : Int) z_)) rfl rfl rfl (fun _ => False) (ea_consD (ev_var (i := 1) rfl) (ea_consD ev_int ea_nil)) (fun ss_ hs_ us_ H_ Q_ E_ h_ => by obtain rfl := hs_; exact ⟨a_state, (2 : Int), (by walk_at "fsc"), Call.imp h_ (fun r_ c_ hq_ => hq_) (fun x_ c_ hq_ => hq_)⟩) (fun x_ hx_ => hx_.elim)) (fun z_ hz_ => ⟨z_, hz_, rfl⟩))) (fun x_ y_ hx_ hy_ => by rw [hx_]; obtain ⟨r6, hc_r6, hy_⟩ := hy_; rw [hy_]; exact R2V.mono (r2_ixLp (d := (0 : Int)) (by walk_at "fsc")) fun z_ hz_ => ⟨r6, hc_r6, hz_⟩))) (fun x_ y_ hx_ hy_ => by rw [hx_]; obtain ⟨r6, hc_r6, hy_⟩ := hy_; rw [hy_]; exact R2V.mono (r2_ixSg (by have h1 := (good6 hc_r h_letters).2.1; omega) (by exact (ends2 hc_r6 (good6 hc_r h_letters).1).1)) fun z_ hz_ => ⟨r6, hc_r6, hz_⟩)) (fun x_ hx_ => (ev_var (i := 3) rfl)) (fun x_ y_ hx_ hy_ => by obtain ⟨r6, hc_r6, hx_⟩ := hx_; rw [hx_]; rw [hy_]; exact R2V.mono (r2_repS (by exact ⟨by omega, by omega, by rw [sgnAt_len]; decide⟩)) fun z_ hz_ => ⟨r6, hc_r6, hz_⟩)) fun (word1 : Str) h_word1 => ?_
        obtain ⟨r6, hc_r6, h_word1⟩ := h_word1
        refine ⟨⟨[va script, va (Adr.mk a_state), va letters, va sz, va _, none, none, none, none, none, none, none], [(a_state, stC true)]⟩, ⟨⟨Or.inr rfl, ⟨Or.inr rfl, ⟨Or.inr rfl, ⟨Or.inr rfl, ⟨Or.inr rfl, ⟨Or.inl rfl, ⟨Or.inl rfl, ⟨Or.inl rfl, ⟨Or.inl rfl, ⟨Or.inl rfl, ⟨Or.inl rfl, ⟨Or.inl rfl, trivial⟩⟩⟩⟩⟩⟩⟩⟩⟩⟩⟩⟩, rfl⟩, _, ?_, ?_, rfl⟩
        · -- vc 2
          rw [h_word1]; exact (mul_word (ends2 hc_r6 (good6 hc_r h_letters).1).2).1
        · -- vc 3
          rw [h_word1]; exact (mul_word (ends2 hc_r6 (good6 hc_r h_letters).1).2).2
      ·
        obtain ⟨r5, hc_r5, h_if1⟩ := h_if1
        refine do_next ?_
        refine ⟨⟨[va script, va (Adr.mk a_state), va letters, va sz, va _, none, none, none, none, none, none, none], [(a_state, stC true)]⟩, ⟨⟨Or.inr rfl, ⟨Or.inr rfl, ⟨Or.inr rfl, ⟨Or.inr rfl, ⟨Or.inr rfl, ⟨Or.inl rfl, ⟨Or.inl rfl, ⟨Or.inl rfl, ⟨Or.inl rfl, ⟨Or.inl rfl, ⟨Or.inl rfl, ⟨Or.inl rfl, trivial⟩⟩⟩⟩⟩⟩⟩⟩⟩⟩⟩⟩, rfl⟩, _, ?_, ?_, rfl⟩
        · -- vc 4
          exact h_word.1
        · -- vc 5
          exact h_word.2
    ·
      rintro e_ ⟨wd, hW, hW2, rfl⟩
      show Do _ _ ⟨[va script, va (Adr.mk a_state), va letters, va sz, va wd, none, none, none, none, none, none, none], [(a_state, stC true)]⟩ _
      refine do_seq (do_asg (i := 5) (ev_callP (W := (fun _ _ _ _ => False)) (P' := (fun (z_ : Int) => post_rank letters wd z_)) (fun x_ => xp_rank A letters wd x_) (ea_consD (ev_var (i := 2) rfl) (ea_consD (ev_var (i := 4) rfl) ea_nil)) (fun ss_ hs_ us_ H_ Q_ E_ h_ => by obtain rfl := hs_; exact ⟨letters, wd, (by have h1 := (good6 hc_r h_letters).2.1; exact ⟨by omega, by omega⟩), Call.imp h_ (fun r_ c_ hq_ => hq_) (fun x_ c_ hq_ => hq_)⟩) (fun x_ hx_ => absurd hx_ (by exact not_rank (good6 hc_r h_letters) hW2))) fun (number : Int) h_number => ?_)
      show Do _ _ ⟨[va script, va (Adr.mk a_state), va letters, va sz, va wd, va number, none, none, none, none, none, none], [(a_state, stC true)]⟩ _
      refine do_seq (do_ifX (etx_or (etx_leaf (et_notD (et_B (ev_callP (W := (fun _ _ _ _ => False)) (P' := (· = true)) (fun _ => False) (ea_consD (ev_var (i := 5) rfl) ea_nil) (fun ss_ hs_ us_ H_ Q_ E_ h_ => by obtain rfl := hs_; exact ⟨number, (by walk_at "fsc"), Call.imp h_ (fun r_ c_ hq_ => hq_) (fun x_ c_ hq_ => hq_)⟩) (fun x_ hx_ => hx_.elim)))) (fun h_ => h_.symm) (fun h_ => h_.symm)) (fun hb => (etx_or (etx_leaf (et_test (ev_opD (ev_var (i := 5) rfl) (ev_callP (W := (fun _ _ _ _ => False)) (P' := (· = (rankF letters (signs wd)))) (fun _ => False) (ea_consD (ev_var (i := 2) rfl) (ea_consD (ev_var (i := 4) rfl) ea_nil)) (fun ss_ hs_ us_ H_ Q_ E_ h_ => by obtain rfl := hs_; exact ⟨letters, wd, (by have h1 := (good6 hc_r h_letters).2.1; exact ⟨by omega, by omega, hW2⟩), Call.imp h_ (fun r_ c_ hq_ => hq_) (fun x_ c_ hq_ => hq_)⟩) (fun x_ hx_ => hx_.elim)) r2_neI)) (fun h_ => h_.symm) (fun h_ => h_.symm)) (fun hb1 => (etx_leaf (Pt := (∃ (r10 : Str), post_word_at letters number r10 ∧ (!decide (r10 = wd)) = true)) (Pf := (∃ (r10 : Str), post_word_at letters number r10 ∧ (!decide (r10 = wd)) = false)) (et_test (ev_op (P'' := (fun (z_ : Bool) => ∃ (r10 : Str), post_word_at letters number r10 ∧ z_ = (!decide (r10 = wd)))) (Ev.mono (P' := (fun (z_ : Str) => ∃ (r10 : Str), post_word_at letters number r10 ∧ z_ = r10)) (ev_callP (W := (fun _ _ _ _ => False)) (P' := (fun (z_ : Str) => post_word_at letters number z_)) (fun x_ => xp_word_at A letters number x_) (ea_consD (ev_var (i := 2) rfl) (ea_consD (ev_var (i := 5) rfl) ea_nil)) (fun ss_ hs_ us_ H_ Q_ E_ h_ => by obtain rfl := hs_; exact ⟨letters, number, (by have h1 := (good6 hc_r h_letters).2.1; exact ⟨by omega, by rw [rk_tl h_number, len_tl]; omega⟩), Call.imp h_ (fun r_ c_ hq_ => hq_) (fun x_ c_ hq_ => hq_)⟩) (fun x_ hx_ => absurd hx_ (by exact not_letters (good6 hc_r h_letters)))) (fun z_ hz_ => ⟨z_, hz_, rfl⟩)) (fun x_ hx_ => (ev_var (i := 4) rfl)) (fun x_ y_ hx_ hy_ => by obtain ⟨r10, hc_r10, hx_⟩ := hx_; rw [hx_]; rw [hy_]; exact R2V.mono r2_neS fun z_ hz_ => ⟨r10, hc_r10, hz_⟩))) (fun h_ => by obtain ⟨r10, hc_r10, h_⟩ := h_; exact ⟨r10, hc_r10, h_.symm⟩) (fun h_ => by obtain ⟨r10, hc_r10, h_⟩ := h_; exact ⟨r10, hc_r10, h_.symm⟩)))))) (fun h_if2 => ?_) (fun h_if2 => ?_))
      ·
        refine do_ret ev_bl fun z h_ret => ?_
        refine ⟨_, (.cons _ .slnil), rfl, ?_⟩
        · -- vc 6
          exfalso
          rcases h_if2 with h1 | h1 | ⟨r10, h1, h2⟩
          · simp at h1
          · rw [h_number.2.2] at h1; simp at h1
          · have h3 := str_ext (h1.2.trans (rk_tl h_number)); rw [h3] at h2; simp at h2
      ·
        refine do_next ?_
        show Do _ _ ⟨[va script, va (Adr.mk a_state), va letters, va sz, va wd, va number, none, none, none, none, none, none], [(a_state, stC true)]⟩ _
        refine do_seq (do_asg (i := 6) (ev_cb (P' := (fun (z_ : Int) => ∃ (r11 : Int), post_law_next a_state (3 : Int) r11 ∧ z_ = (if (number - r11) > (0 : Int) then (number - r11) else (0 : Int)))) (EvA.mono (P' := (fun ss_ => ∃ (r11 : Int), post_law_next a_state (3 : Int) r11 ∧ ss_ = [vs (0 : Int), vs (number - r11)])) (ea_cons ev_int (fun x_ hx_ => (EvA.mono (P' := (fun ss_ => ∃ (r11 : Int), post_law_next a_state (3 : Int) r11 ∧ ss_ = [vs (number - r11)])) (ea_cons (ev_op (P'' := (fun (z_ : Int) => ∃ (r11 : Int), post_law_next a_state (3 : Int) r11 ∧ z_ = (number - r11))) (ev_var (i := 5) rfl) (fun x_ hx_ => (Ev.mono (P' := (fun (z_ : Int) => ∃ (r11 : Int), post_law_next a_state (3 : Int) r11 ∧ z_ = r11)) (ev_call1 (W := (fun _ _ _ _ => False)) (k := 0) (c := stC false) (P' := (fun (z_ : Int) => post_law_next a_state (3 : Int) z_)) rfl rfl rfl (fun _ => False) (ea_consD (ev_var (i := 1) rfl) (ea_consD ev_int ea_nil)) (fun ss_ hs_ us_ H_ Q_ E_ h_ => by obtain rfl := hs_; exact ⟨a_state, (3 : Int), (by walk_at "fsc"), Call.imp h_ (fun r_ c_ hq_ => hq_) (fun x_ c_ hq_ => hq_)⟩) (fun x_ hx_ => hx_.elim)) (fun z_ hz_ => ⟨z_, hz_, rfl⟩))) (fun x_ y_ hx_ hy_ => by rw [hx_]; obtain ⟨r11, hc_r11, hy_⟩ := hy_; rw [hy_]; exact R2V.mono r2_sub fun z_ hz_ => ⟨r11, hc_r11, hz_⟩)) (fun x_ hx_ => ea_nil)) (fun ss_ h_ => by obtain ⟨x_, r_, hx_, hr_, rfl⟩ := h_; obtain ⟨r11, hc_r11, hx_⟩ := hx_; rw [hx_]; obtain rfl := hr_; exact ⟨r11, hc_r11, rfl⟩)))) (fun ss_ h_ => by obtain ⟨x_, r_, hx_, hr_, rfl⟩ := h_; rw [hx_]; obtain ⟨r11, hc_r11, rfl⟩ := hr_; exact ⟨r11, hc_r11, rfl⟩)) (fun ss_ hs_ => by obtain ⟨r11, hc_r11, rfl⟩ := hs_; exact RCV.mono rc_max2 fun z_ hz_ => ⟨r11, hc_r11, hz_⟩)) fun (drawn : Int) h_drawn => ?_)
        obtain ⟨r11, hc_r11, h_drawn⟩ := h_drawn
        show Do _ _ ⟨[va script, va (Adr.mk a_state), va letters, va sz, va wd, va number, va drawn, none, none, none, none, none], [(a_state, stC true)]⟩ _
        refine do_seq (do_asg (i := 7) (ev_callP (W := (fun _ _ _ _ => False)) (P' := (fun (z_ : Str) => post_word_at letters drawn z_)) (fun x_ => xp_word_at A letters drawn x_) (ea_consD (ev_var (i := 2) rfl) (ea_consD (ev_var (i := 6) rfl) ea_nil)) (fun ss_ hs_ us_ H_ Q_ E_ h_ => by obtain rfl := hs_; exact ⟨letters, drawn, (by have h1 := (good6 hc_r h_letters).2.1; have h2 := drawn_len (wd := wd) h_number (by omega) hc_r11.1 h_drawn; exact ⟨by omega, by omega⟩), Call.imp h_ (fun r_ c_ hq_ => hq_) (fun x_ c_ hq_ => hq_)⟩) (fun x_ hx_ => absurd hx_ (by exact not_letters (good6 hc_r h_letters)))) fun (told : Str) h_told => ?_)
        show Do _ _ ⟨[va script, va (Adr.mk a_state), va letters, va sz, va wd, va number, va drawn, va told, none, none, none, none], [(a_state, stC true)]⟩ _
        refine do_seq (do_ifX (etx_or (etx_leaf (et_notD (et_B (isi_F (ty := "str") (c := "str") (b := true) (ev_var (i := 7) rfl) (fun _ => TyOf.str _) (by decide +kernel)))) (fun h_ => h_.symm) (fun h_ => h_.symm)) (fun hb3 => (etx_leaf (Pt := (∃ (r13 : Str), post_law_word_at letters drawn r13 ∧ (!decide (told = r13)) = true)) (Pf := (∃ (r13 : Str), post_law_word_at letters drawn r13 ∧ (!decide (told = r13)) = false)) (et_test (ev_op (P'' := (fun (z_ : Bool) => ∃ (r13 : Str), post_law_word_at letters drawn r13 ∧ z_ = (!decide (told = r13)))) (ev_var (i := 7) rfl) (fun x_ hx_ => (Ev.mono (P' := (fun (z_ : Str) => ∃ (r13 : Str), post_law_word_at letters drawn r13 ∧ z_ = r13)) (ev_callP (W := (fun _ _ _ _ => False)) (P' := (fun (z_ : Str) => post_law_word_at letters drawn z_)) (fun _ => False) (ea_consD (ev_var (i := 2) rfl) (ea_consD (ev_var (i := 6) rfl) ea_nil)) (fun ss_ hs_ us_ H_ Q_ E_ h_ => by obtain rfl := hs_; exact ⟨letters, drawn, (by have h2 := drawn_len (wd := wd) h_number (by omega) hc_r11.1 h_drawn; exact ⟨(good6 hc_r h_letters), h2.1, by omega⟩), Call.imp h_ (fun r_ c_ hq_ => hq_) (fun x_ c_ hq_ => hq_)⟩) (fun x_ hx_ => hx_.elim)) (fun z_ hz_ => ⟨z_, hz_, rfl⟩))) (fun x_ y_ hx_ hy_ => by rw [hx_]; obtain ⟨r13, hc_r13, hy_⟩ := hy_; rw [hy_]; exact R2V.mono r2_neS fun z_ hz_ => ⟨r13, hc_r13, hz_⟩))) (fun h_ => by obtain ⟨r13, hc_r13, h_⟩ := h_; exact ⟨r13, hc_r13, h_.symm⟩) (fun h_ => by obtain ⟨r13, hc_r13, h_⟩ := h_; exact ⟨r13, hc_r13, h_.symm⟩)))) (fun h_if3 => ?_) (fun h_if3 => ?_))
        ·
          refine do_ret ev_bl fun z h_ret => ?_
          refine ⟨_, (.cons _ .slnil), rfl, ?_⟩
          · -- vc 7
            exfalso
            rcases h_if3 with h1 | ⟨r13, h1, h2⟩
            · simp at h1
            · have h3 := str_ext (h_told.2.trans (Eq.symm h1)); rw [h3] at h2; simp at h2
        ·
          refine do_next ?_
          show Do _ _ ⟨[va script, va (Adr.mk a_state), va letters, va sz, va wd, va number, va drawn, va told, none, none, none, none], [(a_state, stC true)]⟩ _
          refine do_seq (do_asg (i := 8) (evl_val (EvL.mono (P' := fun z_ => ∃ (ys : List Str), (∃ xs_, (∃ n_ : Int, (∃ (r15 : Int), post_law_next a_state (8 : Int) r15 ∧ n_ = r15) ∧ xs_ = rngI 0 n_.toNat) ∧ Paired (fun (k : Int) => (fun (z_ : Str) => ∃ (r16 : Int) (r17 : Str), post_law_next a_state (4 : Int) r16 ∧ post_law_exact a_state letters r16 r17 ∧ z_ = r17)) xs_ ys) ∧ z_ = ys) (evl_lcXN (pe := (fun (k : Int) => (fun (z_ : Str) => ∃ (r16 : Int) (r17 : Str), post_law_next a_state (4 : Int) r16 ∧ post_law_exact a_state letters r16 r17 ∧ z_ = r17))) (eic_rng1 (Ev.mono (P' := (fun (z_ : Int) => ∃ (r15 : Int), post_law_next a_state (8 : Int) r15 ∧ z_ = r15)) (ev_call1 (W := (fun _ _ _ _ => False)) (k := 0) (c := stC false) (P' := (fun (z_ : Int) => post_law_next a_state (8 : Int) z_)) rfl rfl rfl (fun _ => False) (ea_consD (ev_var (i := 1) rfl) (ea_consD ev_int ea_nil)) (fun ss_ hs_ us_ H_ Q_ E_ h_ => by obtain rfl := hs_; exact ⟨a_state, (8 : Int), (by walk_at "fsc"), Call.imp h_ (fun r_ c_ hq_ => hq_) (fun x_ c_ hq_ => hq_)⟩) (fun x_ hx_ => hx_.elim)) (fun z_ hz_ => ⟨z_, hz_, rfl⟩)) (fun n_ hn_ => by obtain ⟨r15, hc_r15, rfl⟩ := hn_; exact (by walk_at "fsc"))) eg_name (by simp) (fun xs_ hx_ => by obtain ⟨n_, hn_, rfl⟩ := hx_; obtain ⟨r15, hc_r15, rfl⟩ := hn_; rw [rngI_len]; exact (by walk_at "fsc")) (fun xs_ pre_ k post_ hp_ hs_ dc_ => (Ev.mono (P' := (fun (z_ : Str) => ∃ (r16 : Int) (r17 : Str), post_law_next a_state (4 : Int) r16 ∧ post_law_exact a_state letters r16 r17 ∧ z_ = r17)) (ev_call1 (W := (fun _ _ _ _ => False)) (k := 0) (c := stC false) (P' := (fun (z_ : Str) => ∃ (r16 : Int), post_law_next a_state (4 : Int) r16 ∧ post_law_exact a_state letters r16 z_)) rfl rfl rfl (fun _ => False) (EvA.mono (P' := (fun ss_ => ∃ (r16 : Int), post_law_next a_state (4 : Int) r16 ∧ ss_ = [vs (Adr.mk a_state), vs letters, vs r16])) (ea_cons (ev_var (i := 1) rfl) (fun x_ hx_ => (EvA.mono (P' := (fun ss_ => ∃ (r16 : Int), post_law_next a_state (4 : Int) r16 ∧ ss_ = [vs letters, vs r16])) (ea_cons (ev_var (i := 2) rfl) (fun x_ hx_ => (EvA.mono (P' := (fun ss_ => ∃ (r16 : Int), post_law_next a_state (4 : Int) r16 ∧ ss_ = [vs r16])) (ea_cons (Ev.mono (P' := (fun (z_ : Int) => ∃ (r16 : Int), post_law_next a_state (4 : Int) r16 ∧ z_ = r16)) (ev_call1 (W := (fun _ _ _ _ => False)) (k := 0) (c := stC false) (P' := (fun (z_ : Int) => post_law_next a_state (4 : Int) z_)) rfl rfl rfl (fun _ => False) (ea_consD (ev_var (i := 1) rfl) (ea_consD ev_int ea_nil)) (fun ss_ hs_ us_ H_ Q_ E_ h_ => by obtain rfl := hs_; exact ⟨a_state, (4 : Int), (by walk_at "fsc"), Call.imp h_ (fun r_ c_ hq_ => hq_) (fun x_ c_ hq_ => hq_)⟩) (fun x_ hx_ => hx_.elim)) (fun z_ hz_ => ⟨z_, hz_, rfl⟩)) (fun x_ hx_ => ea_nil)) (fun ss_ h_ => by obtain ⟨x_, r_, hx_, hr_, rfl⟩ := h_; obtain ⟨r16, hc_r16, hx_⟩ := hx_; rw [hx_]; obtain rfl := hr_; exact ⟨r16, hc_r16, rfl⟩)))) (fun ss_ h_ => by obtain ⟨x_, r_, hx_, hr_, rfl⟩ := h_; rw [hx_]; obtain ⟨r16, hc_r16, rfl⟩ := hr_; exact ⟨r16, hc_r16, rfl⟩)))) (fun ss_ h_ => by obtain ⟨x_, r_, hx_, hr_, rfl⟩ := h_; rw [hx_]; obtain ⟨r16, hc_r16, rfl⟩ := hr_; exact ⟨r16, hc_r16, rfl⟩)) (fun ss_ hs_ us_ H_ Q_ E_ h_ => by obtain ⟨r16, hc_r16, rfl⟩ := hs_; exact ⟨a_state, letters, r16, (by have h1 := (good6 hc_r h_letters); exact ⟨h1.1, by have h2 := h1.2.1; omega, hc_r16.1, by have h3 := hc_r16.2; omega⟩), Call.imp h_ (fun r_ c_ hq_ => ⟨hq_.1, ⟨r16, hc_r16, hq_.2⟩⟩) (fun x_ c_ hq_ => hq_)⟩) (fun x_ hx_ => hx_.elim)) (fun z_ hz_ => by obtain ⟨r16, hc_r16, hz_⟩ := hz_; exact ⟨r16, z_, hc_r16, hz_, rfl⟩)))) (fun z_ hz_ => ⟨z_, hz_, rfl⟩))) fun (words : (List Str)) h_words => ?_)
          obtain ⟨ys, hc_ys, h_words⟩ := h_words
          show Do _ _ ⟨[va script, va (Adr.mk a_state), va letters, va sz, va wd, va number, va drawn, va told, va words, none, none, none], [(a_state, stC true)]⟩ _
          refine do_seq (do_asg (i := 9) (evl_val (evl_listL (ea_consD (ev_var (i := 8) rfl) ea_nil))) fun (given : (List Str)) h_given => ?_)
          show Do _ _ ⟨[va script, va (Adr.mk a_state), va letters, va sz, va wd, va number, va drawn, va told, va words, va given, none, none], [(a_state, stC true)]⟩ _
          refine do_seq (do_ifX (etx_or (etx_leaf (Pt := (∃ (r18 : (List Str)) (r19 : (List Str)), post_in_order given r18 ∧ post_law_sorted words r19 ∧ (!true) = true)) (Pf := (∃ (r18 : (List Str)) (r19 : (List Str)), post_in_order given r18 ∧ post_law_sorted words r19 ∧ (!true) = false)) (EvT.mono (P' := (fun (z_ : Bool) => ∃ (r18 : (List Str)) (r19 : (List Str)), post_in_order given r18 ∧ post_law_sorted words r19 ∧ z_ = (!true))) (et_not (et_B (Ev.mono (P' := (fun (z_ : Bool) => ∃ (r18 : (List Str)) (r19 : (List Str)), post_in_order given r18 ∧ post_law_sorted words r19 ∧ z_ = true)) (ev_callP (W := (fun _ _ _ _ => False)) (P' := (fun (z_ : Bool) => ∃ (r18 : (List Str)) (r19 : (List Str)), post_in_order given r18 ∧ post_law_sorted words r19 ∧ post_law_strings r18 r19 z_)) (fun _ => False) (EvA.mono (P' := (fun ss_ => ∃ (r18 : (List Str)) (r19 : (List Str)), post_in_order given r18 ∧ post_law_sorted words r19 ∧ ss_ = [vs r18, vs r19])) (ea_cons (Ev.mono (P' := (fun (z_ : (List Str)) => ∃ (r18 : (List Str)), post_in_order given r18 ∧ z_ = r18)) (ev_callP (W := (fun _ _ _ _ => False)) (P' := (fun (z_ : (List Str)) => post_in_order given z_)) (fun _ => False) (ea_consD (ev_var (i := 9) rfl) ea_nil) (fun ss_ hs_ us_ H_ Q_ E_ h_ => by obtain rfl := hs_; exact ⟨given, (by have h1 := words_of hc_ys; rw [h_given, h_words]; exact ⟨by omega, fun w hw => (h1.2 w hw).1⟩), Call.imp h_ (fun r_ c_ hq_ => hq_) (fun x_ c_ hq_ => hq_)⟩) (fun x_ hx_ => hx_.elim)) (fun z_ hz_ => ⟨z_, hz_, rfl⟩)) (fun x_ hx_ => (EvA.mono (P' := (fun ss_ => ∃ (r19 : (List Str)), post_law_sorted words r19 ∧ ss_ = [vs r19])) (ea_cons (Ev.mono (P' := (fun (z_ : (List Str)) => ∃ (r19 : (List Str)), post_law_sorted words r19 ∧ z_ = r19)) (ev_callP (W := (fun _ _ _ _ => False)) (P' := (fun (z_ : (List Str)) => post_law_sorted words z_)) (fun _ => False) (ea_consD (ev_var (i := 8) rfl) ea_nil) (fun ss_ hs_ us_ H_ Q_ E_ h_ => by obtain rfl := hs_; exact ⟨words, (by have h1 := words_of hc_ys; rw [h_words]; exact ⟨by omega, fun w hw => (h1.2 w hw).1⟩), Call.imp h_ (fun r_ c_ hq_ => hq_) (fun x_ c_ hq_ => hq_)⟩) (fun x_ hx_ => hx_.elim)) (fun z_ hz_ => ⟨z_, hz_, rfl⟩)) (fun x_ hx_ => ea_nil)) (fun ss_ h_ => by obtain ⟨x_, r_, hx_, hr_, rfl⟩ := h_; obtain ⟨r19, hc_r19, hx_⟩ := hx_; rw [hx_]; obtain rfl := hr_; exact ⟨r19, hc_r19, rfl⟩)))) (fun ss_ h_ => by obtain ⟨x_, r_, hx_, hr_, rfl⟩ := h_; obtain ⟨r18, hc_r18, hx_⟩ := hx_; rw [hx_]; obtain ⟨r19, hc_r19, rfl⟩ := hr_; exact ⟨r18, r19, hc_r18, hc_r19, rfl⟩)) (fun ss_ hs_ us_ H_ Q_ E_ h_ => by obtain ⟨r18, r19, hc_r18, hc_r19, rfl⟩ := hs_; exact ⟨r18, r19, (by rw [h_given] at hc_r18; exact ⟨SUp.uniq hc_r18 hc_r19, by have h1 := sup_len hc_r19; have h2 := words_of hc_ys; rw [← h_words] at h2; omega⟩), Call.imp h_ (fun r_ c_ hq_ => ⟨hq_.1, ⟨r18, r19, hc_r18, hc_r19, hq_.2⟩⟩) (fun x_ c_ hq_ => hq_)⟩) (fun x_ hx_ => hx_.elim)) (fun z_ hz_ => by obtain ⟨r18, r19, hc_r18, hc_r19, hz_⟩ := hz_; exact ⟨r18, r19, hc_r18, hc_r19, hz_⟩)))) (fun z_ hz_ => by obtain ⟨r18, r19, hc_r18, hc_r19, hz_⟩ := hz_; exact ⟨r18, r19, hc_r18, hc_r19, (by rw [← hz_, Bool.not_not])⟩)) (fun h_ => by obtain ⟨r18, r19, hc_r18, hc_r19, h_⟩ := h_; exact ⟨r18, r19, hc_r18, hc_r19, h_.symm⟩) (fun h_ => by obtain ⟨r18, r19, hc_r18, hc_r19, h_⟩ := h_; exact ⟨r18, r19, hc_r18, hc_r19, h_.symm⟩)) (fun hb5 => (etx_leaf (et_test (ev_opD (ev_var (i := 9) rfl) (ev_var (i := 8) rfl) (r2_neP (by rw [h_given, h_words]; exact okS (good6 hc_r h_letters) fun w hw => ((words_of hc_ys).2 w hw).2) (by rw [h_words]; exact okS (good6 hc_r h_letters) fun w hw => ((words_of hc_ys).2 w hw).2)))) (fun h_ => h_.symm) (fun h_ => h_.symm)))) (fun h_if4 => ?_) (fun h_if4 => ?_))
          ·
            refine do_ret ev_bl fun z h_ret => ?_
            refine ⟨_, (.cons _ .slnil), rfl, ?_⟩
            · -- vc 8
              exfalso
              rcases h_if4 with ⟨_, _, _, _, h1⟩ | h1
              · simp at h1
              · rw [h_given] at h1; simp at h1
          ·
            refine do_next ?_
            show Do _ _ ⟨[va script, va (Adr.mk a_state), va letters, va sz, va wd, va number, va drawn, va told, va words, va given, none, none], [(a_state, stC true)]⟩ _
            refine do_seq (do_asg (i := 10) (ev_call1 (W := (fun _ _ _ _ => False)) (k := 0) (c := stC false) (P' := (fun (z_ : Int) => post_law_next a_state (5 : Int) z_)) rfl rfl rfl (fun _ => False) (ea_consD (ev_var (i := 1) rfl) (ea_consD ev_int ea_nil)) (fun ss_ hs_ us_ H_ Q_ E_ h_ => by obtain rfl := hs_; exact ⟨a_state, (5 : Int), (by walk_at "fsc"), Call.imp h_ (fun r_ c_ hq_ => hq_) (fun x_ c_ hq_ => hq_)⟩) (fun x_ hx_ => hx_.elim)) fun (most : Int) h_most => ?_)
            show Do _ _ ⟨[va script, va (Adr.mk a_state), va letters, va sz, va wd, va number, va drawn, va told, va words, va given, va most, none], [(a_state, stC true)]⟩ _
            refine do_seqJ (fun e_ => ∃ (ms : Int), (0 ≤ ms ∧ ms ≤ 6) ∧ e_ = ⟨[va script, va (Adr.mk a_state), va letters, va sz, va wd, va number, va drawn, va told, va words, va given, va ms, none], [(a_state, stC true)]⟩) ?_ ?_
            ·
              refine do_ifX (etx_or (etx_and (etx_leaf (et_test (ev_opD (ev_cbD (ea_consD (ev_var (i := 2) rfl) ea_nil) (rc_lenT (by have h1 := (good6 hc_r h_letters).2.1; omega))) ev_int r2_lt)) (fun h_ => h_.symm) (fun h_ => h_.symm)) (fun hb9 => (etx_leaf (Pt := (∃ (r22 : Int), post_law_next a_state (6 : Int) r22 ∧ (decide (r22 = (1 : Int))) = true)) (Pf := (∃ (r22 : Int), post_law_next a_state (6 : Int) r22 ∧ (decide (r22 = (1 : Int))) = false)) (et_test (ev_op (P'' := (fun (z_ : Bool) => ∃ (r22 : Int), post_law_next a_state (6 : Int) r22 ∧ z_ = (decide (r22 = (1 : Int))))) (Ev.mono (P' := (fun (z_ : Int) => ∃ (r22 : Int), post_law_next a_state (6 : Int) r22 ∧ z_ = r22)) (ev_call1 (W := (fun _ _ _ _ => False)) (k := 0) (c := stC false) (P' := (fun (z_ : Int) => post_law_next a_state (6 : Int) z_)) rfl rfl rfl (fun _ => False) (ea_consD (ev_var (i := 1) rfl) (ea_consD ev_int ea_nil)) (fun ss_ hs_ us_ H_ Q_ E_ h_ => by obtain rfl := hs_; exact ⟨a_state, (6 : Int), (by walk_at "fsc"), Call.imp h_ (fun r_ c_ hq_ => hq_) (fun x_ c_ hq_ => hq_)⟩) (fun x_ hx_ => hx_.elim)) (fun z_ hz_ => ⟨z_, hz_, rfl⟩)) (fun x_ hx_ => ev_int) (fun x_ y_ hx_ hy_ => by obtain ⟨r22, hc_r22, hx_⟩ := hx_; rw [hx_]; rw [hy_]; exact R2V.mono r2_eqI fun z_ hz_ => ⟨r22, hc_r22, hz_⟩))) (fun h_ => by obtain ⟨r22, hc_r22, h_⟩ := h_; exact ⟨r22, hc_r22, h_.symm⟩) (fun h_ => by obtain ⟨r22, hc_r22, h_⟩ := h_; exact ⟨r22, hc_r22, h_.symm⟩)))) (fun hb7 => (etx_leaf (Pt := (∃ (r23 : Int), post_law_next a_state (40 : Int) r23 ∧ (decide (r23 = (7 : Int))) = true)) (Pf := (∃ (r23 : Int), post_law_next a_state (40 : Int) r23 ∧ (decide (r23 = (7 : Int))) = false)) (et_test (ev_op (P'' := (fun (z_ : Bool) => ∃ (r23 : Int), post_law_next a_state (40 : Int) r23 ∧ z_ = (decide (r23 = (7 : Int))))) (Ev.mono (P' := (fun (z_ : Int) => ∃ (r23 : Int), post_law_next a_state (40 : Int) r23 ∧ z_ = r23)) (ev_call1 (W := (fun _ _ _ _ => False)) (k := 0) (c := stC false) (P' := (fun (z_ : Int) => post_law_next a_state (40 : Int) z_)) rfl rfl rfl (fun _ => False) (ea_consD (ev_var (i := 1) rfl) (ea_consD ev_int ea_nil)) (fun ss_ hs_ us_ H_ Q_ E_ h_ => by obtain rfl := hs_; exact ⟨a_state, (40 : Int), (by walk_at "fsc"), Call.imp h_ (fun r_ c_ hq_ => hq_) (fun x_ c_ hq_ => hq_)⟩) (fun x_ hx_ => hx_.elim)) (fun z_ hz_ => ⟨z_, hz_, rfl⟩)) (fun x_ hx_ => ev_int) (fun x_ y_ hx_ hy_ => by obtain ⟨r23, hc_r23, hx_⟩ := hx_; rw [hx_]; rw [hy_]; exact R2V.mono r2_eqI fun z_ hz_ => ⟨r23, hc_r23, hz_⟩))) (fun h_ => by obtain ⟨r23, hc_r23, h_⟩ := h_; exact ⟨r23, hc_r23, h_.symm⟩) (fun h_ => by obtain ⟨r23, hc_r23, h_⟩ := h_; exact ⟨r23, hc_r23, h_.symm⟩)))) (fun h_if5 => ?_) (fun h_if5 => ?_)
              ·
                refine do_asg (i := 10) (ev_op (P'' := (fun (z_ : Int) => ∃ (r24 : Int), post_law_next a_state (2 : Int) r24 ∧ z_ = ((5 : Int) + r24))) ev_int (fun x_ hx_ => (Ev.mono (P' := (fun (z_ : Int) => ∃ (r24 : Int), post_law_next a_state (2 : Int) r24 ∧ z_ = r24)) (ev_call1 (W := (fun _ _ _ _ => False)) (k := 0) (c := stC false) (P' := (fun (z_ : Int) => post_law_next a_state (2 : Int) z_)) rfl rfl rfl (fun _ => False) (ea_consD (ev_var (i := 1) rfl) (ea_consD ev_int ea_nil)) (fun ss_ hs_ us_ H_ Q_ E_ h_ => by obtain rfl := hs_; exact ⟨a_state, (2 : Int), (by walk_at "fsc"), Call.imp h_ (fun r_ c_ hq_ => hq_) (fun x_ c_ hq_ => hq_)⟩) (fun x_ hx_ => hx_.elim)) (fun z_ hz_ => ⟨z_, hz_, rfl⟩))) (fun x_ y_ hx_ hy_ => by rw [hx_]; obtain ⟨r24, hc_r24, hy_⟩ := hy_; rw [hy_]; exact R2V.mono r2_add fun z_ hz_ => ⟨r24, hc_r24, hz_⟩)) fun (most1 : Int) h_most1 => ?_
                obtain ⟨r24, hc_r24, h_most1⟩ := h_most1
                refine ⟨⟨[va script, va (Adr.mk a_state), va letters, va sz, va wd, va number, va drawn, va told, va words, va given, va _, none], [(a_state, stC true)]⟩, ⟨⟨Or.inr rfl, ⟨Or.inr rfl, ⟨Or.inr rfl, ⟨Or.inr rfl, ⟨Or.inr rfl, ⟨Or.inr rfl, ⟨Or.inr rfl, ⟨Or.inr rfl, ⟨Or.inr rfl, ⟨Or.inr rfl, ⟨Or.inr rfl, ⟨Or.inl rfl, trivial⟩⟩⟩⟩⟩⟩⟩⟩⟩⟩⟩⟩, rfl⟩, _, ?_, rfl⟩
                · -- vc 9
                  have h1 := hc_r24.1; have h2 := hc_r24.2; exact ⟨by omega, by omega⟩
              ·
                refine do_next ?_
                refine ⟨⟨[va script, va (Adr.mk a_state), va letters, va sz, va wd, va number, va drawn, va told, va words, va given, va _, none], [(a_state, stC true)]⟩, ⟨⟨Or.inr rfl, ⟨Or.inr rfl, ⟨Or.inr rfl, ⟨Or.inr rfl, ⟨Or.inr rfl, ⟨Or.inr rfl, ⟨Or.inr rfl, ⟨Or.inr rfl, ⟨Or.inr rfl, ⟨Or.inr rfl, ⟨Or.inr rfl, ⟨Or.inl rfl, trivial⟩⟩⟩⟩⟩⟩⟩⟩⟩⟩⟩⟩, rfl⟩, _, ?_, rfl⟩
                · -- vc 10
                  exact ⟨h_most.1, by have h1 := h_most.2; omega⟩
            ·
              rintro e_ ⟨ms, hM, rfl⟩
              show Do _ _ ⟨[va script, va (Adr.mk a_state), va letters, va sz, va wd, va number, va drawn, va told, va words, va given, va ms, none], [(a_state, stC true)]⟩ _
              refine do_seq (do_if (EvT.mono (P' := (fun (z_ : Bool) => ∃ (r25 : (List Str)) (r26 : (List Str)), post_words_to letters ms r25 ∧ post_law_all_words letters ms r26 ∧ z_ = (!true))) (et_not (et_B (Ev.mono (P' := (fun (z_ : Bool) => ∃ (r25 : (List Str)) (r26 : (List Str)), post_words_to letters ms r25 ∧ post_law_all_words letters ms r26 ∧ z_ = true)) (ev_callP (W := (fun _ _ _ _ => False)) (P' := (fun (z_ : Bool) => ∃ (r25 : (List Str)) (r26 : (List Str)), post_words_to letters ms r25 ∧ post_law_all_words letters ms r26 ∧ post_law_strings r25 r26 z_)) (fun _ => False) (EvA.mono (P' := (fun ss_ => ∃ (r25 : (List Str)) (r26 : (List Str)), post_words_to letters ms r25 ∧ post_law_all_words letters ms r26 ∧ ss_ = [vs r25, vs r26])) (ea_cons (Ev.mono (P' := (fun (z_ : (List Str)) => ∃ (r25 : (List Str)), post_words_to letters ms r25 ∧ z_ = r25)) (ev_callP (W := (fun _ _ _ _ => False)) (P' := (fun (z_ : (List Str)) => post_words_to letters ms z_)) (fun x_ => xp_words_to A letters ms x_) (ea_consD (ev_var (i := 2) rfl) (ea_consD (ev_var (i := 10) rfl) ea_nil)) (fun ss_ hs_ us_ H_ Q_ E_ h_ => by obtain rfl := hs_; exact ⟨letters, ms, (by have h1 := (good6 hc_r h_letters).2.1; exact ⟨by omega, hM.1, hM.2⟩), Call.imp h_ (fun r_ c_ hq_ => hq_) (fun x_ c_ hq_ => hq_)⟩) (fun x_ hx_ => absurd hx_ (by exact not_letters (good6 hc_r h_letters)))) (fun z_ hz_ => ⟨z_, hz_, rfl⟩)) (fun x_ hx_ => (EvA.mono (P' := (fun ss_ => ∃ (r26 : (List Str)), post_law_all_words letters ms r26 ∧ ss_ = [vs r26])) (ea_cons (Ev.mono (P' := (fun (z_ : (List Str)) => ∃ (r26 : (List Str)), post_law_all_words letters ms r26 ∧ z_ = r26)) (ev_callP (W := (fun _ _ _ _ => False)) (P' := (fun (z_ : (List Str)) => post_law_all_words letters ms z_)) (fun _ => False) (ea_consD (ev_var (i := 2) rfl) (ea_consD (ev_var (i := 10) rfl) ea_nil)) (fun ss_ hs_ us_ H_ Q_ E_ h_ => by obtain rfl := hs_; exact ⟨letters, ms, (by exact ⟨(good6 hc_r h_letters), hM.1, hM.2⟩), Call.imp h_ (fun r_ c_ hq_ => hq_) (fun x_ c_ hq_ => hq_)⟩) (fun x_ hx_ => hx_.elim)) (fun z_ hz_ => ⟨z_, hz_, rfl⟩)) (fun x_ hx_ => ea_nil)) (fun ss_ h_ => by obtain ⟨x_, r_, hx_, hr_, rfl⟩ := h_; obtain ⟨r26, hc_r26, hx_⟩ := hx_; rw [hx_]; obtain rfl := hr_; exact ⟨r26, hc_r26, rfl⟩)))) (fun ss_ h_ => by obtain ⟨x_, r_, hx_, hr_, rfl⟩ := h_; obtain ⟨r25, hc_r25, hx_⟩ := hx_; rw [hx_]; obtain ⟨r26, hc_r26, rfl⟩ := hr_; exact ⟨r25, r26, hc_r25, hc_r26, rfl⟩)) (fun ss_ hs_ us_ H_ Q_ E_ h_ => by obtain ⟨r25, r26, hc_r25, hc_r26, rfl⟩ := hs_; exact ⟨r25, r26, (by exact ⟨AllW.uniq hc_r25.2 hc_r26, allW_len (good6 hc_r h_letters) hM hc_r26⟩), Call.imp h_ (fun r_ c_ hq_ => ⟨hq_.1, ⟨r25, r26, hc_r25, hc_r26, hq_.2⟩⟩) (fun x_ c_ hq_ => hq_)⟩) (fun x_ hx_ => hx_.elim)) (fun z_ hz_ => by obtain ⟨r25, r26, hc_r25, hc_r26, hz_⟩ := hz_; exact ⟨r25, r26, hc_r25, hc_r26, hz_⟩)))) (fun z_ hz_ => by obtain ⟨r25, r26, hc_r25, hc_r26, hz_⟩ := hz_; exact ⟨r25, r26, hc_r25, hc_r26, (by rw [← hz_, Bool.not_not])⟩)) (fun h_if6 => ?_) (fun h_if6 => ?_))
              ·
                obtain ⟨r25, r26, hc_r25, hc_r26, h_if6⟩ := h_if6
                refine do_ret ev_bl fun z h_ret => ?_
                refine ⟨_, (.cons _ .slnil), rfl, ?_⟩
                · walk_at "fvc"
              ·
                obtain ⟨r25, r26, hc_r25, hc_r26, h_if6⟩ := h_if6
                refine do_next ?_
                show Do _ _ ⟨[va script, va (Adr.mk a_state), va letters, va sz, va wd, va number, va drawn, va told, va words, va given, va ms, none], [(a_state, stC true)]⟩ _
                refine do_seq (do_ifX (etx_and (etx_leaf (Pt := (∃ (r28 : Int), post_law_next a_state (6 : Int) r28 ∧ (decide (r28 = (1 : Int))) = true)) (Pf := (∃ (r28 : Int), post_law_next a_state (6 : Int) r28 ∧ (decide (r28 = (1 : Int))) = false)) (et_test (ev_op (P'' := (fun (z_ : Bool) => ∃ (r28 : Int), post_law_next a_state (6 : Int) r28 ∧ z_ = (decide (r28 = (1 : Int))))) (Ev.mono (P' := (fun (z_ : Int) => ∃ (r28 : Int), post_law_next a_state (6 : Int) r28 ∧ z_ = r28)) (ev_call1 (W := (fun _ _ _ _ => False)) (k := 0) (c := stC false) (P' := (fun (z_ : Int) => post_law_next a_state (6 : Int) z_)) rfl rfl rfl (fun _ => False) (ea_consD (ev_var (i := 1) rfl) (ea_consD ev_int ea_nil)) (fun ss_ hs_ us_ H_ Q_ E_ h_ => by obtain rfl := hs_; exact ⟨a_state, (6 : Int), (by walk_at "fsc"), Call.imp h_ (fun r_ c_ hq_ => hq_) (fun x_ c_ hq_ => hq_)⟩) (fun x_ hx_ => hx_.elim)) (fun z_ hz_ => ⟨z_, hz_, rfl⟩)) (fun x_ hx_ => ev_int) (fun x_ y_ hx_ hy_ => by obtain ⟨r28, hc_r28, hx_⟩ := hx_; rw [hx_]; rw [hy_]; exact R2V.mono r2_eqI fun z_ hz_ => ⟨r28, hc_r28, hz_⟩))) (fun h_ => by obtain ⟨r28, hc_r28, h_⟩ := h_; exact ⟨r28, hc_r28, h_.symm⟩) (fun h_ => by obtain ⟨r28, hc_r28, h_⟩ := h_; exact ⟨r28, hc_r28, h_.symm⟩)) (fun hb11 => (etx_leaf (Pt := (∃ (r29 : Bool), post_law_refused a_state letters wd r29 ∧ (!r29) = true)) (Pf := (∃ (r29 : Bool), post_law_refused a_state letters wd r29 ∧ (!r29) = false)) (EvT.mono (P' := (fun (z_ : Bool) => ∃ (r29 : Bool), post_law_refused a_state letters wd r29 ∧ z_ = (!r29))) (et_not (et_B (Ev.mono (P' := (fun (z_ : Bool) => ∃ (r29 : Bool), post_law_refused a_state letters wd r29 ∧ z_ = r29)) (ev_call1 (W := (fun _ _ _ _ => False)) (k := 0) (c := stC false) (P' := (fun (z_ : Bool) => post_law_refused a_state letters wd z_)) rfl rfl rfl (fun _ => False) (ea_consD (ev_var (i := 1) rfl) (ea_consD (ev_var (i := 2) rfl) (ea_consD (ev_var (i := 4) rfl) ea_nil))) (fun ss_ hs_ us_ H_ Q_ E_ h_ => by obtain rfl := hs_; exact ⟨a_state, letters, wd, (by exact ⟨(good6 hc_r h_letters), hW2, by omega⟩), Call.imp h_ (fun r_ c_ hq_ => hq_) (fun x_ c_ hq_ => hq_)⟩) (fun x_ hx_ => hx_.elim)) (fun z_ hz_ => ⟨z_, hz_, rfl⟩)))) (fun z_ hz_ => by obtain ⟨r29, hc_r29, hz_⟩ := hz_; exact ⟨r29, hc_r29, (by rw [← hz_, Bool.not_not])⟩)) (fun h_ => by obtain ⟨r29, hc_r29, h_⟩ := h_; exact ⟨r29, hc_r29, h_.symm⟩) (fun h_ => by obtain ⟨r29, hc_r29, h_⟩ := h_; exact ⟨r29, hc_r29, h_.symm⟩)))) (fun h_if7 => ?_) (fun h_if7 => ?_))
                ·
                  refine do_ret ev_bl fun z h_ret => ?_
                  refine ⟨_, (.cons _ .slnil), rfl, ?_⟩
                  · -- vc 12
                    exfalso; obtain ⟨_, r29, h1, h2⟩ := h_if7; rw [show r29 = true from h1] at h2; simp at h2
                ·
                  refine do_next ?_
                  show Do _ _ ⟨[va script, va (Adr.mk a_state), va letters, va sz, va wd, va number, va drawn, va told, va words, va given, va ms, none], [(a_state, stC true)]⟩ _
                  refine do_ret (ev_call1 (W := (fun _ _ _ _ => False)) (k := 0) (c := stC false) (P' := (fun (z_ : Bool) => post_law_small_parts a_state letters z_)) rfl rfl rfl (fun _ => False) (ea_consD (ev_var (i := 1) rfl) (ea_consD (ev_var (i := 2) rfl) ea_nil)) (fun ss_ hs_ us_ H_ Q_ E_ h_ => by obtain rfl := hs_; exact ⟨a_state, letters, (by exact (good6 hc_r h_letters)), Call.imp h_ (fun r_ c_ hq_ => hq_) (fun x_ c_ hq_ => hq_)⟩) (fun x_ hx_ => hx_.elim)) fun z h_ret => ?_
                  refine ⟨_, (.cons _ .slnil), rfl, ?_⟩
                  · walk_at "fvc"

end
end L03

namespace L03
open PySem L2 Fw
local macro_rules | `(tactic| walk_at "fsc") => `(tactic| first | omega | assumption | trivial | exact sgn_split (by assumption) | exact sgn_split2 (by assumption) | (intros; omega) | (with_reducible exact emod_both (by omega)) | (simp only [Bool.not_eq_true', Bool.not_eq_false', decide_eq_true_eq, decide_eq_false_iff_not, Bool.or_eq_false_iff, Bool.and_eq_true, List.length_cons, List.length_nil, List.length_append, List.length_cons, List.length_nil, List.length_map, signs_len, rngI_len, enumI_len, keysD_len, pre_check_letters, post_check_letters, pre_check_word, post_check_word, pre_in_order, post_in_order, pre_words_to, post_words_to, pre_rank, post_rank, pre_word_at, post_word_at, pre_scattered_words, post_scattered_words, pre_windows, post_windows, pre_class_of, post_class_of, pre_law_start, pre_law_next, post_law_next, pre_law_integer, post_law_integer, pre_law_exact, post_law_exact, pre_law_rank, post_law_rank, pre_law_word_at, post_law_word_at, pre_law_strings, post_law_strings, pre_law_sorted, post_law_sorted, pre_law_all_words, post_law_all_words, pre_law_parts, post_law_parts, pre_law_class, post_law_class, pre_law_bad_letters, post_law_bad_letters, pre_law_bad_word, post_law_bad_word, pre_law_refused, post_law_refused, pre_law_small_parts, post_law_small_parts, pre_law, post_law] at *; first | omega | assumption | (refine ⟨?_, ?_⟩ <;> first | omega | assumption) | (refine ⟨?_, ?_, ?_⟩ <;> first | omega | assumption)) | (have hl_ := congrArg List.length hs_; simp only [List.length_append, List.length_cons, List.length_nil, List.length_map, signs_len, rngI_len, enumI_len, keysD_len] at hl_; omega) | (have hr_ := rng_split hs_; omega))
local macro_rules | `(tactic| walk_at "fvc") => `(tactic| first | rfl | trivial | assumption | omega)
local macro_rules | `(tactic| walk_at "fxp") => `(tactic| first | exact hx_ | assumption)
local macro_rules | `(tactic| walk_at "frs") => `(tactic| first | assumption)

section
variable {P : Program} {w : World} {K : PySem.W.Frag} {mg : Str → Option Value} {base : Heap} {A : Ad}
abbrev s_law_all_words : Stmt := topS 26
abbrev N_law_all_words : List Str := ["letters", "most", "told", "number", "power", "k"]
theorem sc_law_all_words : FnScope N_law_all_words ["letters", "most"] (defScope s_law_all_words) := ⟨rfl, rfl, rfl, by decide +kernel, rfl, by decide +kernel, by decide +kernel⟩
set_option maxHeartbeats 4000000 in
theorem ok_law_all_words (T : Tx K mg A) (h_law_word_at : Cal P w K mg base 1 A.law_word_at "_law_word_at" ["letters", "number"] (sp_law_word_at K)) {fd : FuncData} (F : Fun K "_law_all_words" "_law_all_words" s_law_all_words A.law_all_words fd) : FnOk P w K mg base (L2.CX P w) 2 A.law_all_words fd ["letters", "most"] (sp_law_all_words K) := by
  refine F.okX sc_law_all_words (fun us H Q E ⟨letters, most, hpre, h⟩ => h.len) (fun cdv A_ outer s_ H us Q E hr ⟨letters, most, hpre, h⟩ => ?_)
  refine ⟨_, (pss_cons (ps_set (i := 2) sc_law_all_words.nd rfl (by first | exact Or.inl rfl | exact Or.inr rfl) (pe_lst pa_nil)) (pss_cons (ps_set (i := 3) sc_law_all_words.nd rfl (by first | exact Or.inl rfl | exact Or.inr rfl) pe_int) (pss_cons (ps_set (i := 4) sc_law_all_words.nd rfl (by first | exact Or.inl rfl | exact Or.inr rfl) pe_int) (pss_cons (ps_for (passes_of rfl) rfl (pi_range1 (by rfl) T.m_range (pa_cons (pe_op op_add (pv 1) pe_int) pa_nil)) (pg_name (i := 5) sc_law_all_words.nd rfl (by first | exact Or.inl rfl | exact Or.inr rfl)) (pss_cons (ps_set (i := 3) sc_law_all_words.nd rfl (by first | exact Or.inl rfl | exact Or.inr rfl) (pe_op op_add (pv 3) (pv 4))) (pss_one (ps_set (i := 4) sc_law_all_words.nd rfl (by first | exact Or.inl rfl | exact Or.inr rfl) (pe_op op_mul (pv 4) (pe_callB cr_lenT (by rfl) T.m_len bb_len (pa_cons (pv 0) pa_nil))))))) (pss_cons (ps_for (passes_of rfl) rfl (pi_range1 (by rfl) T.m_range (pa_cons (pv 3) pa_nil)) (pg_name (i := 5) sc_law_all_words.nd rfl (by first | exact Or.inl rfl | exact Or.inr rfl)) (pss_one (ps_expr (pe_bm PySem.F.plainAttrs_list PySem.F.slot_list_append PySem.F.type_list_append mt_append (pv 2) (pa_cons (pe_cal (W := (fun _ _ _ _ => False)) h_law_word_at (hr.mono (by decide)) takes0 (pa_cons (pv 0) (pa_cons (pv 5) pa_nil))) pa_nil))))) (pss_one (ps_ret (pv 2)))))))), ?_⟩
  refine Call.body (sl := [va letters, va most, none, none, none, none]) h rfl fun G0_ H0_ => ?_
  have hpre_ := hpre; unfold pre_law_all_words at hpre_
  show Do _ _ ⟨[va letters, va most, none, none, none, none], []⟩ _
  refine do_seq (do_asgL (i := 2) (evl_lstD (xs := ([] : List Str)) ea_nil (by simp)) fun a_told told h_told => ?_)
  show Do _ _ ⟨[va letters, va most, va (Adr.mk a_told), none, none, none], [(a_told, ownL told)]⟩ _
  refine do_seq (do_asg (i := 3) ev_int fun (number : Int) h_number => ?_)
  show Do _ _ ⟨[va letters, va most, va (Adr.mk a_told), va number, none, none], [(a_told, ownL told)]⟩ _
  refine do_seq (do_asg (i := 4) ev_int fun (power : Int) h_power => ?_)
  show Do _ _ ⟨[va letters, va most, va (Adr.mk a_told), va number, va power, none], [(a_told, ownL told)]⟩ _
  refine do_seq (do_forW (ei_rng1 (ea_consD (ev_opD (ev_var (i := 1) rfl) ev_int r2_add) ea_nil) (by walk_at "fsc") (by walk_at "fsc")) eg_name (fun (pre : List Int) e_ => ∃ (n : Int) (pw : Int), (n = geo letters.length pre.length) ∧ (pw = (letters.length : Int) ^ pre.length) ∧ e_ = ⟨[va letters, va most, va (Adr.mk a_told), va n, va pw, none], [(a_told, ownL told)]⟩) ?_ ?_ ?_)
  ·
    refine ⟨⟨[va letters, va most, va (Adr.mk a_told), va _, va _, none], [(a_told, ownL told)]⟩, ⟨⟨Or.inr rfl, ⟨Or.inr rfl, ⟨Or.inr rfl, ⟨Or.inr rfl, ⟨Or.inr rfl, ⟨Or.inl rfl, trivial⟩⟩⟩⟩⟩⟩, rfl⟩, _, _, ?_, ?_, rfl⟩
    · walk_at "fvc"
    · walk_at "fvc"
  ·
    rintro pre x post e_ hsplit ⟨n, pw, hI, hJ, rfl⟩
    have hlen_hsplit := congrArg List.length hsplit; simp only [List.length_append, List.length_cons, List.length_nil, List.length_map, signs_len, rngI_len, enumI_len, keysD_len] at hlen_hsplit
    have hrng_hsplit := rng_split hsplit
    show Do _ _ ⟨[va letters, va most, va (Adr.mk a_told), va n, va pw, va x], [(a_told, ownL told)]⟩ _
    refine do_seq (do_asg (i := 3) (ev_opD (ev_var (i := 3) rfl) (ev_var (i := 4) rfl) r2_add) fun (number1 : Int) h_number1 => ?_)
    show Do _ _ ⟨[va letters, va most, va (Adr.mk a_told), va number1, va pw, va x], [(a_told, ownL told)]⟩ _
    refine do_asg (i := 4) (ev_opD (ev_var (i := 4) rfl) (ev_cbD (ea_consD (ev_var (i := 0) rfl) ea_nil) (rc_lenT (by have h1 := hpre_.1.1; have h2 := hpre_.1.2.1; omega))) (r2_mul (by have h1 := hpre_.1.1; have h2 := hpre_.1.2.1; exact .inr (by omega)))) fun (power1 : Int) h_power1 => ?_
    refine ⟨⟨[va letters, va most, va (Adr.mk a_told), va _, va _, none], [(a_told, ownL told)]⟩, ⟨⟨Or.inr rfl, ⟨Or.inr rfl, ⟨Or.inr rfl, ⟨Or.inr rfl, ⟨Or.inr rfl, ⟨Or.inl rfl, trivial⟩⟩⟩⟩⟩⟩, rfl⟩, _, _, ?_, ?_, rfl⟩
    · -- vc 2
      rw [h_number1, hI, hJ, List.length_append]; rfl
    · -- vc 3
      rw [h_power1, hJ, List.length_append]; rfl
  ·
    rintro e_ ⟨n, pw, hI, hJ, rfl⟩
    show Do _ _ ⟨[va letters, va most, va (Adr.mk a_told), va n, va pw, none], [(a_told, ownL told)]⟩ _
    refine do_seq (do_forW (ei_rng1 (ea_consD (ev_var (i := 3) rfl) ea_nil) (by rw [rngI_len, geo_cast] at hI; have h1 := hpre_.1.2.1; have h2 := (geo_small letters.length (by omega) (most + 1).toNat (by omega)).1; omega) (by rw [rngI_len, geo_cast] at hI; have h1 := hpre_.1.2.1; have h2 := (geo_small letters.length (by omega) (most + 1).toNat (by omega)).1; omega)) eg_name (fun (pre : List Int) e_ => ∃ (t : List Str), (t.map tl = pre.map fun i => wAt (tl letters) i.toNat) ∧ e_ = ⟨[va letters, va most, va (Adr.mk a_told), va n, va pw, none], [(a_told, ownL t)]⟩) ?_ ?_ ?_)
    ·
      refine ⟨⟨[va letters, va most, va (Adr.mk a_told), va n, va pw, none], [(a_told, ownL _)]⟩, ⟨⟨Or.inr rfl, ⟨Or.inr rfl, ⟨Or.inr rfl, ⟨Or.inr rfl, ⟨Or.inr rfl, ⟨Or.inl rfl, trivial⟩⟩⟩⟩⟩⟩, rfl⟩, _, ?_, rfl⟩
      · -- vc 4
        rw [h_told]; rfl
    ·
      rintro pre x post e_ hsplit ⟨t, hT, rfl⟩
      have hlen_hsplit := congrArg List.length hsplit; simp only [List.length_append, List.length_cons, List.length_nil, List.length_map, signs_len, rngI_len, enumI_len, keysD_len] at hlen_hsplit
      have hrng_hsplit := rng_split hsplit
      show Do _ _ ⟨[va letters, va most, va (Adr.mk a_told), va n, va pw, va x], [(a_told, ownL t)]⟩ _
      refine do_append (k := 0) rfl (ev_var (i := 2) rfl) (Ev.mono (P' := (fun (z_ : Str) => ∃ (r : Str), post_law_word_at letters x r ∧ z_ = r)) (ev_callP (W := (fun _ _ _ _ => False)) (P' := (fun (z_ : Str) => post_law_word_at letters x z_)) (fun _ => False) (ea_consD (ev_var (i := 0) rfl) (ea_consD (ev_var (i := 5) rfl) ea_nil)) (fun ss_ hs_ us_ H_ Q_ E_ h_ => by obtain rfl := hs_; exact ⟨letters, x, (by rw [rngI_len, geo_cast, show (most + 1).toNat = most.toNat + 1 by omega] at hI; have h1 := all_len (most := most.toNat) (i := x.toNat) hpre_.1 (by omega); exact ⟨hpre_.1, by omega, by omega⟩), Call.imp h_ (fun r_ c_ hq_ => hq_) (fun x_ c_ hq_ => hq_)⟩) (fun x_ hx_ => hx_.elim)) (fun z_ hz_ => ⟨z_, hz_, rfl⟩)) (by have h0 := congrArg List.length hT; rw [List.length_map, List.length_map] at h0; rw [rngI_len, geo_cast] at hI; have h1 := hpre_.1.2.1; have h2 := (geo_small letters.length (by omega) (most + 1).toNat (by omega)).1; omega) fun (y : Str) h_y => ?_
      obtain ⟨r, hc_r, h_y⟩ := h_y
      refine ⟨⟨[va letters, va most, va (Adr.mk a_told), va n, va pw, none], [(a_told, ownL _)]⟩, ⟨⟨Or.inr rfl, ⟨Or.inr rfl, ⟨Or.inr rfl, ⟨Or.inr rfl, ⟨Or.inr rfl, ⟨Or.inl rfl, trivial⟩⟩⟩⟩⟩⟩, rfl⟩, _, ?_, rfl⟩
      · -- vc 5
        rw [List.map_append, List.map_append, hT, h_y]; exact congrArg (fun q => _ ++ [q]) hc_r
    ·
      rintro e_ ⟨t, hT, rfl⟩
      show Do _ _ ⟨[va letters, va most, va (Adr.mk a_told), va n, va pw, none], [(a_told, ownL t)]⟩ _
      refine do_freeze (k := 0) (j := 2) rfl rfl ?_
      show Do _ _ ⟨[va letters, va most, va t, va n, va pw, none], []⟩ _
      refine do_ret (ev_var (i := 2) rfl) fun z h_ret => ?_
      refine ⟨_, .slnil, rfl, ?_⟩
      · -- vc 6
        subst h_ret; show _ = _; rw [hT, rng_map, hI, rngI_len, show (most + 1).toNat = most.toNat + 1 by omega]

end
end L03

namespace L03
open PySem L2 Fw
local macro_rules | `(tactic| walk_at "fsc") => `(tactic| first | omega | assumption | trivial | exact sgn_split (by assumption) | exact sgn_split2 (by assumption) | (intros; omega) | (with_reducible exact emod_both (by omega)) | (simp only [Bool.not_eq_true', Bool.not_eq_false', decide_eq_true_eq, decide_eq_false_iff_not, Bool.or_eq_false_iff, Bool.and_eq_true, List.length_cons, List.length_nil, List.length_append, List.length_cons, List.length_nil, List.length_map, signs_len, rngI_len, enumI_len, keysD_len, pre_check_letters, post_check_letters, pre_check_word, post_check_word, pre_in_order, post_in_order, pre_words_to, post_words_to, pre_rank, post_rank, pre_word_at, post_word_at, pre_scattered_words, post_scattered_words, pre_windows, post_windows, pre_class_of, post_class_of, pre_law_start, pre_law_next, post_law_next, pre_law_integer, post_law_integer, pre_law_exact, post_law_exact, pre_law_rank, post_law_rank, pre_law_word_at, post_law_word_at, pre_law_strings, post_law_strings, pre_law_sorted, post_law_sorted, pre_law_all_words, post_law_all_words, pre_law_parts, post_law_parts, pre_law_class, post_law_class, pre_law_bad_letters, post_law_bad_letters, pre_law_bad_word, post_law_bad_word, pre_law_refused, post_law_refused, pre_law_small_parts, post_law_small_parts, pre_law, post_law] at *; first | omega | assumption | (refine ⟨?_, ?_⟩ <;> first | omega | assumption) | (refine ⟨?_, ?_, ?_⟩ <;> first | omega | assumption)) | (have hl_ := congrArg List.length hs_; simp only [List.length_append, List.length_cons, List.length_nil, List.length_map, signs_len, rngI_len, enumI_len, keysD_len] at hl_; omega) | (have hr_ := rng_split hs_; omega))
local macro_rules | `(tactic| walk_at "fvc") => `(tactic| first | rfl | trivial | assumption | omega)
local macro_rules | `(tactic| walk_at "fxp") => `(tactic| first | exact hx_ | assumption)
local macro_rules | `(tactic| walk_at "frs") => `(tactic| first | assumption)

section
variable {P : Program} {w : World} {K : PySem.W.Frag} {mg : Str → Option Value} {base : Heap} {A : Ad}
abbrev s_law_class : Stmt := topS 28
abbrev N_law_class : List Str := ["letters", "word", "exact", "period", "told", "letter", "count", "k", "sign"]
theorem sc_law_class : FnScope N_law_class ["letters", "word", "exact", "period"] (defScope s_law_class) := ⟨rfl, rfl, rfl, by decide +kernel, rfl, by decide +kernel, by decide +kernel⟩
set_option maxHeartbeats 4000000 in
theorem ok_law_class (T : Tx K mg A)  {fd : FuncData} (F : Fun K "_law_class" "_law_class" s_law_class A.law_class fd) : FnOk P w K mg base (L2.CX P w) 1 A.law_class fd ["letters", "word", "exact", "period"] (sp_law_class K) := by
  refine F.okX sc_law_class (fun us H Q E ⟨letters, word, ex, period, hpre, h⟩ => h.len) (fun cdv A_ outer s_ H us Q E hr ⟨letters, word, ex, period, hpre, h⟩ => ?_)
  refine ⟨_, (pss_cons (ps_set (i := 4) sc_law_class.nd rfl (by first | exact Or.inl rfl | exact Or.inr rfl) (pe_lst pa_nil)) (pss_cons (ps_for (passes_of rfl) rfl (pi_str (pv 0)) (pg_name (i := 5) sc_law_class.nd rfl (by first | exact Or.inl rfl | exact Or.inr rfl)) (pss_cons (ps_set (i := 6) sc_law_class.nd rfl (by first | exact Or.inl rfl | exact Or.inr rfl) (pe_callB cr_lenQ (by rfl) T.m_len bb_len (pa_cons (pe_lc (own := [("sign", 8)]) (g := gName 8) (tt := _) rfl sc_law_class.nd (pi_str (pv 1)) (blkOk_by (N := N_law_class) (sc := defScope s_law_class) (by decide +kernel)) (fun _ _ _ _ _ => (pg_name (i := 8) sc_law_class.nd rfl (by first | exact Or.inl rfl | exact Or.inr rfl))) (fun _ _ _ _ _ => (pts_one (pt_cmpR op_eq (pv 8) (pv 5) (nomark _)))) (fun _ _ _ _ _ => (pv 8))) pa_nil))) (pss_cons (ps_for (passes_of rfl) rfl (pi_range1 (by rfl) T.m_range (pa_cons (pe_callB cr_lenT (by rfl) T.m_len bb_len (pa_cons (pv 1) pa_nil)) pa_nil)) (pg_name (i := 7) sc_law_class.nd rfl (by first | exact Or.inl rfl | exact Or.inr rfl)) (pss_one (ps_if (pt_cmpR op_ge (pv 6) (pe_op op_add (pv 2) (pv 3)) (nomark _)) (pss_one (ps_set (i := 6) sc_law_class.nd rfl (by first | exact Or.inl rfl | exact Or.inr rfl) (pe_op op_sub (pv 6) (pv 3)))) pss_nil))) (pss_one (ps_expr (pe_bm PySem.F.plainAttrs_list PySem.F.slot_list_append PySem.F.type_list_append mt_append (pv 4) (pa_cons (pv 6) pa_nil))))))) (pss_one (ps_ret (pv 4))))), ?_⟩
  refine Call.body (sl := [va letters, va word, va ex, va period, none, none, none, none, none]) h rfl fun G0_ H0_ => ?_
  have hpre_ := hpre; unfold pre_law_class at hpre_
  show Do _ _ ⟨[va letters, va word, va ex, va period, none, none, none, none, none], []⟩ _
  refine do_seq (do_asgL (i := 4) (evl_lstD (xs := ([] : List Int)) ea_nil (by simp)) fun a_told told h_told => ?_)
  show Do _ _ ⟨[va letters, va word, va ex, va period, va (Adr.mk a_told), none, none, none, none], [(a_told, ownL told)]⟩ _
  refine do_seq (do_forW (ei_str (ev_var (i := 0) rfl)) eg_name (fun (pre : List Str) e_ => ∃ (t : List Int), (ClsI word ex period pre t) ∧ e_ = ⟨[va letters, va word, va ex, va period, va (Adr.mk a_told), none, none, none, none], [(a_told, ownL t)]⟩) ?_ ?_ ?_)
  ·
    refine ⟨⟨[va letters, va word, va ex, va period, va (Adr.mk a_told), none, none, none, none], [(a_told, ownL _)]⟩, ⟨⟨Or.inr rfl, ⟨Or.inr rfl, ⟨Or.inr rfl, ⟨Or.inr rfl, ⟨Or.inr rfl, ⟨Or.inl rfl, ⟨Or.inl rfl, ⟨Or.inl rfl, ⟨Or.inl rfl, trivial⟩⟩⟩⟩⟩⟩⟩⟩⟩, rfl⟩, _, ?_, rfl⟩
    · walk_at "fvc"
  ·
    rintro pre x post e_ hsplit ⟨t, hI, rfl⟩
    have hlen_hsplit := congrArg List.length hsplit; simp only [List.length_append, List.length_cons, List.length_nil, List.length_map, signs_len, rngI_len, enumI_len, keysD_len] at hlen_hsplit
    show Do _ _ ⟨[va letters, va word, va ex, va period, va (Adr.mk a_told), va x, none, none, none], [(a_told, ownL t)]⟩ _
    refine do_seq (do_asg (i := 6) (ev_cbD (ea_consD (evl_val (evl_lcD (p := fun (sign : Str) => (decide (sign = x))) (h := fun (sign : Str) => sign) (ei_str (ev_var (i := 1) rfl)) eg_name (by simp) (by walk_at "fsc") (fun pre_ sign post_ hs_ dc_ => (et_test (ev_opD (ev_var (i := 8) rfl) (ev_var (i := 5) rfl) r2_eqS))) (fun pre_ sign post_ hs_ hb dc_ => (ev_var (i := 8) rfl)))) ea_nil) rc_lenL) fun (count : Int) h_count => ?_)
    show Do _ _ ⟨[va letters, va word, va ex, va period, va (Adr.mk a_told), va x, va count, none, none], [(a_told, ownL t)]⟩ _
    refine do_seq (do_forW (ei_rng1 (ea_consD (ev_cbD (ea_consD (ev_var (i := 1) rfl) ea_nil) (rc_lenT (by walk_at "fsc"))) ea_nil) (by walk_at "fsc") (by walk_at "fsc")) eg_name (fun (pre2 : List Int) e_ => ∃ (c : Int), (CntI word ex period x pre2.length c) ∧ e_ = ⟨[va letters, va word, va ex, va period, va (Adr.mk a_told), va x, va c, none, none], [(a_told, ownL t)]⟩) ?_ ?_ ?_)
    ·
      refine ⟨⟨[va letters, va word, va ex, va period, va (Adr.mk a_told), va x, va _, none, none], [(a_told, ownL t)]⟩, ⟨⟨Or.inr rfl, ⟨Or.inr rfl, ⟨Or.inr rfl, ⟨Or.inr rfl, ⟨Or.inr rfl, ⟨Or.inr rfl, ⟨Or.inr rfl, ⟨Or.inl rfl, ⟨Or.inl rfl, trivial⟩⟩⟩⟩⟩⟩⟩⟩⟩, rfl⟩, _, ?_, rfl⟩
      · -- vc 1
        rw [h_count]; exact cnt_start (by rw [filter_count (sgn_split hsplit)]; rfl)
    ·
      rintro pre2 y post2 e_ hsplit2 ⟨c, hC, rfl⟩
      have hlen_hsplit2 := congrArg List.length hsplit2; simp only [List.length_append, List.length_cons, List.length_nil, List.length_map, signs_len, rngI_len, enumI_len, keysD_len] at hlen_hsplit2
      have hrng_hsplit2 := rng_split hsplit2
      show Do _ _ ⟨[va letters, va word, va ex, va period, va (Adr.mk a_told), va x, va c, va y, none], [(a_told, ownL t)]⟩ _
      refine do_ifD (et_test (ev_opD (ev_var (i := 6) rfl) (ev_opD (ev_var (i := 2) rfl) (ev_var (i := 3) rfl) r2_add) r2_ge)) (fun h_if => ?_) (fun h_if => ?_)
      ·
        refine do_asg (i := 6) (ev_opD (ev_var (i := 6) rfl) (ev_var (i := 3) rfl) r2_sub) fun (count1 : Int) h_count1 => ?_
        refine ⟨⟨[va letters, va word, va ex, va period, va (Adr.mk a_told), va x, va _, none, none], [(a_told, ownL t)]⟩, ⟨⟨Or.inr rfl, ⟨Or.inr rfl, ⟨Or.inr rfl, ⟨Or.inr rfl, ⟨Or.inr rfl, ⟨Or.inr rfl, ⟨Or.inr rfl, ⟨Or.inl rfl, ⟨Or.inl rfl, trivial⟩⟩⟩⟩⟩⟩⟩⟩⟩, rfl⟩, _, ?_, rfl⟩
        · -- vc 2
          rw [List.length_append, List.length_singleton]; exact cnt_yes hpre_.2.2.1 hpre_.2.2.2 hC h_if h_count1
      ·
        refine do_next ?_
        refine ⟨⟨[va letters, va word, va ex, va period, va (Adr.mk a_told), va x, va _, none, none], [(a_told, ownL t)]⟩, ⟨⟨Or.inr rfl, ⟨Or.inr rfl, ⟨Or.inr rfl, ⟨Or.inr rfl, ⟨Or.inr rfl, ⟨Or.inr rfl, ⟨Or.inr rfl, ⟨Or.inl rfl, ⟨Or.inl rfl, trivial⟩⟩⟩⟩⟩⟩⟩⟩⟩, rfl⟩, _, ?_, rfl⟩
        · -- vc 3
          rw [List.length_append, List.length_singleton]; exact cnt_no hC h_if
    ·
      rintro e_ ⟨c, hC, rfl⟩
      show Do _ _ ⟨[va letters, va word, va ex, va period, va (Adr.mk a_told), va x, va c, none, none], [(a_told, ownL t)]⟩ _
      refine do_append (k := 0) rfl (ev_var (i := 4) rfl) (ev_var (i := 6) rfl) (by have h1 := clsI_len hI; omega) fun (y : Int) h_y => ?_
      refine ⟨⟨[va letters, va word, va ex, va period, va (Adr.mk a_told), none, none, none, none], [(a_told, ownL _)]⟩, ⟨⟨Or.inr rfl, ⟨Or.inr rfl, ⟨Or.inr rfl, ⟨Or.inr rfl, ⟨Or.inr rfl, ⟨Or.inl rfl, ⟨Or.inl rfl, ⟨Or.inl rfl, ⟨Or.inl rfl, trivial⟩⟩⟩⟩⟩⟩⟩⟩⟩, rfl⟩, _, ?_, rfl⟩
      · -- vc 4
        exact clsI_snoc hI (by rw [h_y]; exact cnt_end hpre_.2.2.1 hpre_.2.2.2 (by rw [rngI_len]; omega) hC)
  ·
    rintro e_ ⟨t, hI, rfl⟩
    show Do _ _ ⟨[va letters, va word, va ex, va period, va (Adr.mk a_told), none, none, none, none], [(a_told, ownL t)]⟩ _
    refine do_freeze (k := 0) (j := 4) rfl rfl ?_
    show Do _ _ ⟨[va letters, va word, va ex, va period, va t, none, none, none, none], []⟩ _
    refine do_ret (ev_var (i := 4) rfl) fun z h_ret => ?_
    refine ⟨_, .slnil, rfl, ?_⟩
    · -- vc 5
      subst h_ret; exact hI

end
end L03

namespace L03
open PySem L2 Fw
local macro_rules | `(tactic| walk_at "fsc") => `(tactic| first | omega | assumption | trivial | exact sgn_split (by assumption) | exact sgn_split2 (by assumption) | (intros; omega) | (with_reducible exact emod_both (by omega)) | (simp only [Bool.not_eq_true', Bool.not_eq_false', decide_eq_true_eq, decide_eq_false_iff_not, Bool.or_eq_false_iff, Bool.and_eq_true, List.length_cons, List.length_nil, List.length_append, List.length_cons, List.length_nil, List.length_map, signs_len, rngI_len, enumI_len, keysD_len, pre_check_letters, post_check_letters, pre_check_word, post_check_word, pre_in_order, post_in_order, pre_words_to, post_words_to, pre_rank, post_rank, pre_word_at, post_word_at, pre_scattered_words, post_scattered_words, pre_windows, post_windows, pre_class_of, post_class_of, pre_law_start, pre_law_next, post_law_next, pre_law_integer, post_law_integer, pre_law_exact, post_law_exact, pre_law_rank, post_law_rank, pre_law_word_at, post_law_word_at, pre_law_strings, post_law_strings, pre_law_sorted, post_law_sorted, pre_law_all_words, post_law_all_words, pre_law_parts, post_law_parts, pre_law_class, post_law_class, pre_law_bad_letters, post_law_bad_letters, pre_law_bad_word, post_law_bad_word, pre_law_refused, post_law_refused, pre_law_small_parts, post_law_small_parts, pre_law, post_law] at *; first | omega | assumption | (refine ⟨?_, ?_⟩ <;> first | omega | assumption) | (refine ⟨?_, ?_, ?_⟩ <;> first | omega | assumption)) | (have hl_ := congrArg List.length hs_; simp only [List.length_append, List.length_cons, List.length_nil, List.length_map, signs_len, rngI_len, enumI_len, keysD_len] at hl_; omega) | (have hr_ := rng_split hs_; omega))
local macro_rules | `(tactic| walk_at "fvc") => `(tactic| first | rfl | trivial | assumption | omega)
local macro_rules | `(tactic| walk_at "fxp") => `(tactic| first | exact hx_ | assumption)
local macro_rules | `(tactic| walk_at "frs") => `(tactic| first | assumption)

section
variable {P : Program} {w : World} {K : PySem.W.Frag} {mg : Str → Option Value} {base : Heap} {A : Ad}
abbrev s_law_exact : Stmt := topS 21
abbrev N_law_exact : List Str := ["state", "letters", "size", "word", "k"]
theorem sc_law_exact : FnScope N_law_exact ["state", "letters", "size"] (defScope s_law_exact) := ⟨rfl, rfl, rfl, by decide +kernel, rfl, by decide +kernel, by decide +kernel⟩
set_option maxHeartbeats 4000000 in
theorem ok_law_exact (T : Tx K mg A) (h_law_next : Cal P w K mg base 1 A.law_next "_law_next" ["state", "many"] (sp_law_next K)) {fd : FuncData} (F : Fun K "_law_exact" "_law_exact" s_law_exact A.law_exact fd) : FnOk P w K mg base (L2.CX P w) 2 A.law_exact fd ["state", "letters", "size"] (sp_law_exact K) := by
  refine F.okX sc_law_exact (fun us H Q E ⟨state, letters, size, hpre, h⟩ => h.len) (fun cdv A_ outer s_ H us Q E hr ⟨state, letters, size, hpre, h⟩ => ?_)
  refine ⟨_, (pss_cons (ps_set (i := 3) sc_law_exact.nd rfl (by first | exact Or.inl rfl | exact Or.inr rfl) pe_str) (pss_cons (ps_for (passes_of rfl) rfl (pi_range1 (by rfl) T.m_range (pa_cons (pv 2) pa_nil)) (pg_name (i := 4) sc_law_exact.nd rfl (by first | exact Or.inl rfl | exact Or.inr rfl)) (pss_one (ps_set (i := 3) sc_law_exact.nd rfl (by first | exact Or.inl rfl | exact Or.inr rfl) (pe_op op_addS (pv 3) (pe_ix ix_str (pv 1) (pe_cal (W := (fun _ _ _ _ => False)) h_law_next (hr.mono (by decide)) takes0 (pa_cons (pv 0) (pa_cons (pe_callB cr_lenT (by rfl) T.m_len bb_len (pa_cons (pv 1) pa_nil)) pa_nil))) (fun _ _ => rfl)))))) (pss_one (ps_ret (pv 3))))), ?_⟩
  refine Call.body h rfl fun G0_ H0_ => ?_
  have hpre_ := hpre; unfold pre_law_exact at hpre_
  show Do _ _ ⟨[va (Adr.mk state), va letters, va size, none, none], [(state, stC false)]⟩ _
  refine do_seq (do_asg (i := 3) ev_str fun (word : Str) h_word => ?_)
  show Do _ _ ⟨[va (Adr.mk state), va letters, va size, va word, none], [(state, stC false)]⟩ _
  refine do_seq (do_forW (ei_rng1 (ea_consD (ev_var (i := 2) rfl) ea_nil) (by walk_at "fsc") (by walk_at "fsc")) eg_name (fun (pre : List Int) e_ => ∃ (w : Str), (w.length = pre.length) ∧ (inL letters w) ∧ e_ = ⟨[va (Adr.mk state), va letters, va size, va w, none], [(state, stC false)]⟩) ?_ ?_ ?_)
  ·
    refine ⟨⟨[va (Adr.mk state), va letters, va size, va _, none], [(state, stC false)]⟩, ⟨⟨Or.inr rfl, ⟨Or.inr rfl, ⟨Or.inr rfl, ⟨Or.inr rfl, ⟨Or.inl rfl, trivial⟩⟩⟩⟩⟩, rfl⟩, _, ?_, ?_, rfl⟩
    · -- vc 0
      rw [h_word]; rfl
    · -- vc 1
      rw [h_word]; intro c hc; exact absurd hc (by show ¬ c ∈ ([] : List Nat); simp)
  ·
    rintro pre x post e_ hsplit ⟨w, hI, hJ, rfl⟩
    have hlen_hsplit := congrArg List.length hsplit; simp only [List.length_append, List.length_cons, List.length_nil, List.length_map, signs_len, rngI_len, enumI_len, keysD_len] at hlen_hsplit
    have hrng_hsplit := rng_split hsplit
    show Do _ _ ⟨[va (Adr.mk state), va letters, va size, va w, va x], [(state, stC false)]⟩ _
    refine do_asg (i := 3) (ev_op (P'' := (fun (z_ : Str) => ∃ (r : Int), post_law_next state ((letters).length : Int) r ∧ z_ = (w ++ (sgnAt letters (r).toNat)))) (ev_var (i := 3) rfl) (fun x_ hx_ => (ev_op (P'' := (fun (z_ : Str) => ∃ (r : Int), post_law_next state ((letters).length : Int) r ∧ z_ = (sgnAt letters (r).toNat))) (ev_var (i := 1) rfl) (fun x_ hx_ => (Ev.mono (P' := (fun (z_ : Int) => ∃ (r : Int), post_law_next state ((letters).length : Int) r ∧ z_ = r)) (ev_call1 (W := (fun _ _ _ _ => False)) (k := 0) (c := stC false) (P' := (fun (z_ : Int) => post_law_next state ((letters).length : Int) z_)) rfl rfl rfl (fun _ => False) (ea_consD (ev_var (i := 0) rfl) (ea_consD (ev_cbD (ea_consD (ev_var (i := 1) rfl) ea_nil) (rc_lenT (by walk_at "fsc"))) ea_nil)) (fun ss_ hs_ us_ H_ Q_ E_ h_ => by obtain rfl := hs_; exact ⟨state, ((letters).length : Int), (by walk_at "fsc"), Call.imp h_ (fun r_ c_ hq_ => hq_) (fun x_ c_ hq_ => hq_)⟩) (fun x_ hx_ => hx_.elim)) (fun z_ hz_ => ⟨z_, hz_, rfl⟩))) (fun x_ y_ hx_ hy_ => by rw [hx_]; obtain ⟨r, hc_r, hy_⟩ := hy_; rw [hy_]; exact R2V.mono (r2_ixSp (by walk_at "fsc") (by walk_at "fsc")) fun z_ hz_ => ⟨r, hc_r, hz_⟩))) (fun x_ y_ hx_ hy_ => by rw [hx_]; obtain ⟨r, hc_r, hy_⟩ := hy_; rw [hy_]; exact R2V.mono (r2_addS (by rw [sgnAt_len]; omega)) fun z_ hz_ => ⟨r, hc_r, hz_⟩)) fun (word1 : Str) h_word1 => ?_
    obtain ⟨r, hc_r, h_word1⟩ := h_word1
    refine ⟨⟨[va (Adr.mk state), va letters, va size, va _, none], [(state, stC false)]⟩, ⟨⟨Or.inr rfl, ⟨Or.inr rfl, ⟨Or.inr rfl, ⟨Or.inr rfl, ⟨Or.inl rfl, trivial⟩⟩⟩⟩⟩, rfl⟩, _, ?_, ?_, rfl⟩
    · -- vc 2
      rw [h_word1, len_app, sgnAt_len, hI, List.length_append]; rfl
    · -- vc 3
      rw [h_word1]; exact inL_snoc hJ hc_r.1 hc_r.2
  ·
    rintro e_ ⟨w, hI, hJ, rfl⟩
    show Do _ _ ⟨[va (Adr.mk state), va letters, va size, va w, none], [(state, stC false)]⟩ _
    refine do_ret (ev_var (i := 3) rfl) fun z h_ret => ?_
    refine ⟨_, (.cons₂ _ .slnil), rfl, ?_⟩
    · -- vc 4
      subst h_ret; exact ⟨by rw [hI, rngI_len], hJ⟩

end
end L03

namespace L03
open PySem L2 Fw
local macro_rules | `(tactic| walk_at "fsc") => `(tactic| first | omega | assumption | trivial | exact sgn_split (by assumption) | exact sgn_split2 (by assumption) | (intros; omega) | (with_reducible exact emod_both (by omega)) | (simp only [Bool.not_eq_true', Bool.not_eq_false', decide_eq_true_eq, decide_eq_false_iff_not, Bool.or_eq_false_iff, Bool.and_eq_true, List.length_cons, List.length_nil, List.length_append, List.length_cons, List.length_nil, List.length_map, signs_len, rngI_len, enumI_len, keysD_len, pre_check_letters, post_check_letters, pre_check_word, post_check_word, pre_in_order, post_in_order, pre_words_to, post_words_to, pre_rank, post_rank, pre_word_at, post_word_at, pre_scattered_words, post_scattered_words, pre_windows, post_windows, pre_class_of, post_class_of, pre_law_start, pre_law_next, post_law_next, pre_law_integer, post_law_integer, pre_law_exact, post_law_exact, pre_law_rank, post_law_rank, pre_law_word_at, post_law_word_at, pre_law_strings, post_law_strings, pre_law_sorted, post_law_sorted, pre_law_all_words, post_law_all_words, pre_law_parts, post_law_parts, pre_law_class, post_law_class, pre_law_bad_letters, post_law_bad_letters, pre_law_bad_word, post_law_bad_word, pre_law_refused, post_law_refused, pre_law_small_parts, post_law_small_parts, pre_law, post_law] at *; first | omega | assumption | (refine ⟨?_, ?_⟩ <;> first | omega | assumption) | (refine ⟨?_, ?_, ?_⟩ <;> first | omega | assumption)) | (have hl_ := congrArg List.length hs_; simp only [List.length_append, List.length_cons, List.length_nil, List.length_map, signs_len, rngI_len, enumI_len, keysD_len] at hl_; omega) | (have hr_ := rng_split hs_; omega))
local macro_rules | `(tactic| walk_at "fvc") => `(tactic| first | rfl | trivial | assumption | omega)
local macro_rules | `(tactic| walk_at "fxp") => `(tactic| first | exact hx_ | assumption)
local macro_rules | `(tactic| walk_at "frs") => `(tactic| first | assumption)

section
variable {P : Program} {w : World} {K : PySem.W.Frag} {mg : Str → Option Value} {base : Heap} {A : Ad}
abbrev s_law_integer : Stmt := topS 20
abbrev N_law_integer : List Str := ["actual"]
theorem sc_law_integer : FnScope N_law_integer ["actual"] (defScope s_law_integer) := ⟨rfl, rfl, rfl, by decide +kernel, rfl, by decide +kernel, by decide +kernel⟩
set_option maxHeartbeats 4000000 in
theorem ok_law_integer (T : Tx K mg A)  {fd : FuncData} (F : Fun K "_law_integer" "_law_integer" s_law_integer A.law_integer fd) : FnOk P w K mg base (L2.CX P w) 1 A.law_integer fd ["actual"] (sp_law_integer K) := by
  refine F.okX sc_law_integer (fun us H Q E ⟨actual, hpre, h⟩ => h.len) (fun cdv A_ outer s_ H us Q E hr ⟨actual, hpre, h⟩ => ?_)
  refine ⟨_, (pss_one (ps_ret (pe_and (pe_callB call_isi (by rfl) T.m_isinstance bb_isinstance (pa_cons (pv 0) (pa_cons (pe_bltn (v := .ty "int") (by rfl) T.m_int bb_int rfl) pa_nil))) (pe_one (pe_not (pe_callB call_isi (by rfl) T.m_isinstance bb_isinstance (pa_cons (pv 0) (pa_cons (pe_bltn (v := .ty "bool") (by rfl) T.m_bool bb_bool rfl) pa_nil)))))))), ?_⟩
  refine Call.body (sl := [va actual]) h rfl fun G0_ H0_ => ?_
  show Do _ _ ⟨[va actual], []⟩ _
  refine do_ret (ev_andD (isi_F (ty := "int") (c := "int") (b := true) (ev_var (i := 0) rfl) (fun _ => TyOf.int _) (by decide +kernel)) (fun hb => (ev_notD (isi_F (ty := "int") (c := "bool") (b := false) (ev_var (i := 0) rfl) (fun _ => TyOf.int _) (by decide +kernel))))) fun z h_ret => ?_
  refine ⟨_, .slnil, rfl, ?_⟩
  · walk_at "fvc"

end
end L03

namespace L03
open PySem L2 Fw
local macro_rules | `(tactic| walk_at "fsc") => `(tactic| first | omega | assumption | trivial | exact sgn_split (by assumption) | exact sgn_split2 (by assumption) | (intros; omega) | (with_reducible exact emod_both (by omega)) | (simp only [Bool.not_eq_true', Bool.not_eq_false', decide_eq_true_eq, decide_eq_false_iff_not, Bool.or_eq_false_iff, Bool.and_eq_true, List.length_cons, List.length_nil, List.length_append, List.length_cons, List.length_nil, List.length_map, signs_len, rngI_len, enumI_len, keysD_len, pre_check_letters, post_check_letters, pre_check_word, post_check_word, pre_in_order, post_in_order, pre_words_to, post_words_to, pre_rank, post_rank, pre_word_at, post_word_at, pre_scattered_words, post_scattered_words, pre_windows, post_windows, pre_class_of, post_class_of, pre_law_start, pre_law_next, post_law_next, pre_law_integer, post_law_integer, pre_law_exact, post_law_exact, pre_law_rank, post_law_rank, pre_law_word_at, post_law_word_at, pre_law_strings, post_law_strings, pre_law_sorted, post_law_sorted, pre_law_all_words, post_law_all_words, pre_law_parts, post_law_parts, pre_law_class, post_law_class, pre_law_bad_letters, post_law_bad_letters, pre_law_bad_word, post_law_bad_word, pre_law_refused, post_law_refused, pre_law_small_parts, post_law_small_parts, pre_law, post_law] at *; first | omega | assumption | (refine ⟨?_, ?_⟩ <;> first | omega | assumption) | (refine ⟨?_, ?_, ?_⟩ <;> first | omega | assumption)) | (have hl_ := congrArg List.length hs_; simp only [List.length_append, List.length_cons, List.length_nil, List.length_map, signs_len, rngI_len, enumI_len, keysD_len] at hl_; omega) | (have hr_ := rng_split hs_; omega))
local macro_rules | `(tactic| walk_at "fvc") => `(tactic| first | rfl | trivial | assumption | omega)
local macro_rules | `(tactic| walk_at "fxp") => `(tactic| first | exact hx_ | assumption)
local macro_rules | `(tactic| walk_at "frs") => `(tactic| first | assumption)

section
variable {P : Program} {w : World} {K : PySem.W.Frag} {mg : Str → Option Value} {base : Heap} {A : Ad}
abbrev s_law_next : Stmt := topS 19
abbrev N_law_next : List Str := ["state", "many", "cells", "cell", "turn", "mixed", "told"]
theorem sc_law_next : FnScope N_law_next ["state", "many"] (defScope s_law_next) := ⟨rfl, rfl, rfl, by decide +kernel, rfl, by decide +kernel, by decide +kernel⟩
set_option maxHeartbeats 4000000 in
theorem ok_law_next (T : Tx K mg A)  {fd : FuncData} (F : Fun K "_law_next" "_law_next" s_law_next A.law_next fd) : FnOk P w K mg base (L2.CX P w) 1 A.law_next fd ["state", "many"] (sp_law_next K) := by
  refine F.okX sc_law_next (fun us H Q E ⟨state, many, hpre, h⟩ => h.len) (fun cdv A_ outer s_ H us Q E hr ⟨state, many, hpre, h⟩ => ?_)
  refine ⟨_, (pss_cons (ps_set (i := 2) sc_law_next.nd rfl (by first | exact Or.inl rfl | exact Or.inr rfl) (pe_ix ix_list (pv 0) pe_int (fun _ _ => rfl))) (pss_cons (ps_set (i := 3) sc_law_next.nd rfl (by first | exact Or.inl rfl | exact Or.inr rfl) (pe_ix ix_list (pv 2) (pe_op op_mod (pe_callTy cr_int1 (by rfl) T.m_int bb_int (pa_cons (pe_ix ix_list (pv 0) pe_int (fun _ _ => rfl)) pa_nil)) (pe_callB cr_lenQ (by rfl) T.m_len bb_len (pa_cons (pv 2) pa_nil))) (fun _ _ => rfl))) (pss_cons (ps_if (PW.pt (pw_and (pt_cmpR op_ge (pv 3) (pe_op op_pow pe_int pe_int) (nomark _)) (pw_and1 (pt_cmpR op_lt (pe_ix ix_list (pv 0) pe_int (fun _ _ => rfl)) (pe_callB cr_lenQ (by rfl) T.m_len bb_len (pa_cons (pv 2) pa_nil)) (nomark _))))) (pss_cons (ps_if (pt_cmpR op_eq (pe_ix ix_list (pv 0) pe_int (fun _ _ => rfl)) pe_int (nomark _)) (pss_one (ps_asg (pv 3) (pg_sub (pv 0) pe_int set_list))) pss_nil) (pss_cons (ps_set (i := 6) sc_law_next.nd rfl (by first | exact Or.inl rfl | exact Or.inr rfl) (pe_op op_mod (pe_callTy cr_int1 (by rfl) T.m_int bb_int (pa_cons (pe_ix ix_list (pv 0) pe_int (fun _ _ => rfl)) pa_nil)) (pv 1))) (pss_cons (ps_asg (pe_op op_fdiv (pe_callTy cr_int1 (by rfl) T.m_int bb_int (pa_cons (pe_ix ix_list (pv 0) pe_int (fun _ _ => rfl)) pa_nil)) (pv 1)) (pg_sub (pv 0) pe_int set_list)) (pss_cons (ps_asg (pe_op op_add (pe_ix ix_list (pv 0) pe_int (fun _ _ => rfl)) pe_int) (pg_sub (pv 0) pe_int set_list)) (pss_cons (ps_if (PW.pt (pw_or (pt_cmpR op_eq (pe_ix ix_list (pv 0) pe_int (fun _ _ => rfl)) pe_int (nomark _)) (pw_or1 (pt_cmpR op_ge (pe_ix ix_list (pv 0) pe_int (fun _ _ => rfl)) pe_int (nomark _))))) (pss_cons (ps_asg (pe_op op_add (pe_ix ix_list (pv 0) pe_int (fun _ _ => rfl)) pe_int) (pg_sub (pv 0) pe_int set_list)) (pss_one (ps_asg pe_int (pg_sub (pv 0) pe_int set_list)))) pss_nil) (pss_one (ps_ret (pv 6)))))))) pss_nil) (pss_cons (ps_set (i := 4) sc_law_next.nd rfl (by first | exact Or.inl rfl | exact Or.inr rfl) (pe_op op_add (pe_ix ix_list (pv 0) pe_int (fun _ _ => rfl)) (pe_op op_mul pe_int (pe_ix ix_list (pv 0) pe_int (fun _ _ => rfl))))) (pss_cons (ps_set (i := 5) sc_law_next.nd rfl (by first | exact Or.inl rfl | exact Or.inr rfl) (pe_op op_mul (pe_op op_add (pe_op op_mod (pe_callTy cr_int1 (by rfl) T.m_int bb_int (pa_cons (pv 3) pa_nil)) pe_int) pe_int) (pe_op op_add pe_int (pe_op op_mul pe_int (pv 4))))) (pss_cons (ps_set (i := 5) sc_law_next.nd rfl (by first | exact Or.inl rfl | exact Or.inr rfl) (pe_op op_mod (pe_callTy cr_int1 (by rfl) T.m_int bb_int (pa_cons (pv 5) pa_nil)) pe_int)) (pss_cons (ps_set (i := 5) sc_law_next.nd rfl (by first | exact Or.inl rfl | exact Or.inr rfl) (pe_op op_mod (pe_callTy cr_int1 (by rfl) T.m_int bb_int (pa_cons (pe_op op_add (pe_op op_add (pe_op op_mul (pv 5) (pv 5)) (pe_op op_mul pe_int (pv 4))) pe_int) pa_nil)) pe_int)) (pss_cons (ps_asg (pe_op op_add (pe_ix ix_list (pv 0) pe_int (fun _ _ => rfl)) pe_int) (pg_sub (pv 0) pe_int set_list)) (pss_cons (ps_if (pt_cmpR op_ge (pe_ix ix_list (pv 0) pe_int (fun _ _ => rfl)) pe_int (nomark _)) (pss_cons (ps_asg (pe_op op_add (pe_ix ix_list (pv 0) pe_int (fun _ _ => rfl)) pe_int) (pg_sub (pv 0) pe_int set_list)) (pss_one (ps_asg pe_int (pg_sub (pv 0) pe_int set_list)))) pss_nil) (pss_one (ps_ret (pe_op op_mod (pe_callTy cr_int1 (by rfl) T.m_int bb_int (pa_cons (pe_op op_fdiv (pv 5) pe_int) pa_nil)) (pv 1))))))))))))), ?_⟩
  refine Call.body h rfl fun G0_ H0_ => ?_
  have hpre_ := hpre; unfold pre_law_next at hpre_
  refine do_open (c := stC false) (ι := List Int × Int × Int × Int) (R := fun i => i.1 ≠ [] ∧ i.1.length ≤ 1000) (c' := fun i => ownS false [vs i.1, vs i.2.1, vs i.2.2.1, vs i.2.2.2]) (fun K G o h => stC_open h) (fun _ => rfl) fun ⟨cs0, i0, cur0, k0⟩ hR => ?_
  have hcl : 0 < cs0.length := List.length_pos_iff.mpr hR.1
  show Do _ _ ⟨[va (Adr.mk state), va many, none, none, none, none, none], [(state, ownS false [vs cs0, vs i0, vs cur0, vs k0])]⟩ _
  refine do_seq (do_asg (i := 2) (ev_opD (ev_var (i := 0) rfl) ev_int (r2_ixOS (j := 0) (k := 0) (y := cs0) rfl rfl rfl)) fun (cells : (List Int)) h_cells => ?_)
  show Do _ _ ⟨[va (Adr.mk state), va many, va cells, none, none, none, none], [(state, ownS false [vs cs0, vs i0, vs cur0, vs k0])]⟩ _
  refine do_seq (do_asg (i := 3) (ev_opD (ev_var (i := 2) rfl) (ev_opD (ev_cbD (ea_consD (ev_opD (ev_var (i := 0) rfl) ev_int (r2_ixOS (j := 0) (k := 1) (y := i0) rfl rfl rfl)) ea_nil) rc_int1) (ev_cbD (ea_consD (ev_var (i := 2) rfl) ea_nil) rc_lenL) (r2_mod (by rw [h_cells]; omega))) (r2_ixLp (d := (0 : Int)) (by exact emod_both (by rw [h_cells]; omega)))) fun (cell : Int) h_cell => ?_)
  show Do _ _ ⟨[va (Adr.mk state), va many, va cells, va cell, none, none, none], [(state, ownS false [vs cs0, vs i0, vs cur0, vs k0])]⟩ _
  refine do_seq (do_ifD (et_andD (et_test (ev_opD (ev_var (i := 3) rfl) (ev_opD ev_int ev_int (r2_pow (by walk_at "fsc"))) r2_ge)) (fun hb => (et_test (ev_opD (ev_opD (ev_var (i := 0) rfl) ev_int (r2_ixOS (j := 0) (k := 1) (y := i0) rfl rfl rfl)) (ev_cbD (ea_consD (ev_var (i := 2) rfl) ea_nil) rc_lenL) r2_lt)))) (fun h_if => ?_) (fun h_if => ?_))
  ·
    refine do_seq (do_ifD (et_test (ev_opD (ev_opD (ev_var (i := 0) rfl) ev_int (r2_ixOS (j := 0) (k := 3) (y := k0) rfl rfl rfl)) ev_int r2_eqI)) (fun h_if1 => ?_) (fun h_if1 => ?_))
    ·
      refine do_setOS (k := 0) (j := 2) rfl (ev_var (i := 3) rfl) (ev_var (i := 0) rfl) ev_int rfl (by simp) fun (y : Int) h_y => ?_
      show Do _ _ ⟨[va (Adr.mk state), va many, va cells, va cell, none, none, none], [(state, ownS false [vs cs0, vs i0, vs y, vs k0])]⟩ _
      refine do_seq (do_asg (i := 6) (ev_opD (ev_cbD (ea_consD (ev_opD (ev_var (i := 0) rfl) ev_int (r2_ixOS (j := 0) (k := 2) (y := y) rfl rfl rfl)) ea_nil) rc_int1) (ev_var (i := 1) rfl) (r2_mod (by walk_at "fsc"))) fun (told : Int) h_told => ?_)
      show Do _ _ ⟨[va (Adr.mk state), va many, va cells, va cell, none, none, va told], [(state, ownS false [vs cs0, vs i0, vs y, vs k0])]⟩ _
      refine do_seq (do_setOS (k := 0) (j := 2) rfl (ev_opD (ev_cbD (ea_consD (ev_opD (ev_var (i := 0) rfl) ev_int (r2_ixOS (j := 0) (k := 2) (y := y) rfl rfl rfl)) ea_nil) rc_int1) (ev_var (i := 1) rfl) (r2_fdiv (by walk_at "fsc"))) (ev_var (i := 0) rfl) ev_int rfl (by simp) fun (y1 : Int) h_y1 => ?_)
      show Do _ _ ⟨[va (Adr.mk state), va many, va cells, va cell, none, none, va told], [(state, ownS false [vs cs0, vs i0, vs y1, vs k0])]⟩ _
      refine do_seq (do_setOS (k := 0) (j := 3) rfl (ev_opD (ev_opD (ev_var (i := 0) rfl) ev_int (r2_ixOS (j := 0) (k := 3) (y := k0) rfl rfl rfl)) ev_int r2_add) (ev_var (i := 0) rfl) ev_int rfl (by simp) fun (y2 : Int) h_y2 => ?_)
      show Do _ _ ⟨[va (Adr.mk state), va many, va cells, va cell, none, none, va told], [(state, ownS false [vs cs0, vs i0, vs y1, vs y2])]⟩ _
      refine do_seq (do_ifD (et_orD (et_test (ev_opD (ev_opD (ev_var (i := 0) rfl) ev_int (r2_ixOS (j := 0) (k := 2) (y := y1) rfl rfl rfl)) ev_int r2_eqI)) (fun hb2 => (et_test (ev_opD (ev_opD (ev_var (i := 0) rfl) ev_int (r2_ixOS (j := 0) (k := 3) (y := y2) rfl rfl rfl)) ev_int r2_ge)))) (fun h_if2 => ?_) (fun h_if2 => ?_))
      ·
        refine do_seq (do_setOS (k := 0) (j := 1) rfl (ev_opD (ev_opD (ev_var (i := 0) rfl) ev_int (r2_ixOS (j := 0) (k := 1) (y := i0) rfl rfl rfl)) ev_int r2_add) (ev_var (i := 0) rfl) ev_int rfl (by simp) fun (y3 : Int) h_y3 => ?_)
        show Do _ _ ⟨[va (Adr.mk state), va many, va cells, va cell, none, none, va told], [(state, ownS false [vs cs0, vs y3, vs y1, vs y2])]⟩ _
        refine do_setOS (k := 0) (j := 3) rfl ev_int (ev_var (i := 0) rfl) ev_int rfl (by simp) fun (y4 : Int) h_y4 => ?_
        show Do _ _ ⟨[va (Adr.mk state), va many, va cells, va cell, none, none, va told], [(state, ownS false [vs cs0, vs y3, vs y1, vs y4])]⟩ _
        refine do_cells (cl' := [(state, stC false)]) rfl (fun p hp => by obtain rfl := List.mem_singleton.mp hp; exact ⟨_, List.mem_singleton.mpr rfl, rfl, fun K G o h => stC_of hR.1 hR.2 h⟩) ?_
        refine do_ret (ev_var (i := 6) rfl) fun z h_ret => ?_
        refine ⟨_, (.cons₂ _ .slnil), rfl, ?_⟩
        · -- vc 0
          subst h_ret; rw [h_told]; exact emod_both (by omega)
      ·
        refine do_next ?_
        show Do _ _ ⟨[va (Adr.mk state), va many, va cells, va cell, none, none, va told], [(state, ownS false [vs cs0, vs i0, vs y1, vs y2])]⟩ _
        refine do_cells (cl' := [(state, stC false)]) rfl (fun p hp => by obtain rfl := List.mem_singleton.mp hp; exact ⟨_, List.mem_singleton.mpr rfl, rfl, fun K G o h => stC_of hR.1 hR.2 h⟩) ?_
        refine do_ret (ev_var (i := 6) rfl) fun z h_ret => ?_
        refine ⟨_, (.cons₂ _ .slnil), rfl, ?_⟩
        · -- vc 1
          subst h_ret; rw [h_told]; exact emod_both (by omega)
    ·
      refine do_next ?_
      show Do _ _ ⟨[va (Adr.mk state), va many, va cells, va cell, none, none, none], [(state, ownS false [vs cs0, vs i0, vs cur0, vs k0])]⟩ _
      refine do_seq (do_asg (i := 6) (ev_opD (ev_cbD (ea_consD (ev_opD (ev_var (i := 0) rfl) ev_int (r2_ixOS (j := 0) (k := 2) (y := cur0) rfl rfl rfl)) ea_nil) rc_int1) (ev_var (i := 1) rfl) (r2_mod (by walk_at "fsc"))) fun (told1 : Int) h_told1 => ?_)
      show Do _ _ ⟨[va (Adr.mk state), va many, va cells, va cell, none, none, va told1], [(state, ownS false [vs cs0, vs i0, vs cur0, vs k0])]⟩ _
      refine do_seq (do_setOS (k := 0) (j := 2) rfl (ev_opD (ev_cbD (ea_consD (ev_opD (ev_var (i := 0) rfl) ev_int (r2_ixOS (j := 0) (k := 2) (y := cur0) rfl rfl rfl)) ea_nil) rc_int1) (ev_var (i := 1) rfl) (r2_fdiv (by walk_at "fsc"))) (ev_var (i := 0) rfl) ev_int rfl (by simp) fun (y5 : Int) h_y5 => ?_)
      show Do _ _ ⟨[va (Adr.mk state), va many, va cells, va cell, none, none, va told1], [(state, ownS false [vs cs0, vs i0, vs y5, vs k0])]⟩ _
      refine do_seq (do_setOS (k := 0) (j := 3) rfl (ev_opD (ev_opD (ev_var (i := 0) rfl) ev_int (r2_ixOS (j := 0) (k := 3) (y := k0) rfl rfl rfl)) ev_int r2_add) (ev_var (i := 0) rfl) ev_int rfl (by simp) fun (y6 : Int) h_y6 => ?_)
      show Do _ _ ⟨[va (Adr.mk state), va many, va cells, va cell, none, none, va told1], [(state, ownS false [vs cs0, vs i0, vs y5, vs y6])]⟩ _
      refine do_seq (do_ifD (et_orD (et_test (ev_opD (ev_opD (ev_var (i := 0) rfl) ev_int (r2_ixOS (j := 0) (k := 2) (y := y5) rfl rfl rfl)) ev_int r2_eqI)) (fun hb4 => (et_test (ev_opD (ev_opD (ev_var (i := 0) rfl) ev_int (r2_ixOS (j := 0) (k := 3) (y := y6) rfl rfl rfl)) ev_int r2_ge)))) (fun h_if3 => ?_) (fun h_if3 => ?_))
      ·
        refine do_seq (do_setOS (k := 0) (j := 1) rfl (ev_opD (ev_opD (ev_var (i := 0) rfl) ev_int (r2_ixOS (j := 0) (k := 1) (y := i0) rfl rfl rfl)) ev_int r2_add) (ev_var (i := 0) rfl) ev_int rfl (by simp) fun (y7 : Int) h_y7 => ?_)
        show Do _ _ ⟨[va (Adr.mk state), va many, va cells, va cell, none, none, va told1], [(state, ownS false [vs cs0, vs y7, vs y5, vs y6])]⟩ _
        refine do_setOS (k := 0) (j := 3) rfl ev_int (ev_var (i := 0) rfl) ev_int rfl (by simp) fun (y8 : Int) h_y8 => ?_
        show Do _ _ ⟨[va (Adr.mk state), va many, va cells, va cell, none, none, va told1], [(state, ownS false [vs cs0, vs y7, vs y5, vs y8])]⟩ _
        refine do_cells (cl' := [(state, stC false)]) rfl (fun p hp => by obtain rfl := List.mem_singleton.mp hp; exact ⟨_, List.mem_singleton.mpr rfl, rfl, fun K G o h => stC_of hR.1 hR.2 h⟩) ?_
        refine do_ret (ev_var (i := 6) rfl) fun z h_ret => ?_
        refine ⟨_, (.cons₂ _ .slnil), rfl, ?_⟩
        · -- vc 2
          subst h_ret; rw [h_told1]; exact emod_both (by omega)
      ·
        refine do_next ?_
        show Do _ _ ⟨[va (Adr.mk state), va many, va cells, va cell, none, none, va told1], [(state, ownS false [vs cs0, vs i0, vs y5, vs y6])]⟩ _
        refine do_cells (cl' := [(state, stC false)]) rfl (fun p hp => by obtain rfl := List.mem_singleton.mp hp; exact ⟨_, List.mem_singleton.mpr rfl, rfl, fun K G o h => stC_of hR.1 hR.2 h⟩) ?_
        refine do_ret (ev_var (i := 6) rfl) fun z h_ret => ?_
        refine ⟨_, (.cons₂ _ .slnil), rfl, ?_⟩
        · -- vc 3
          subst h_ret; rw [h_told1]; exact emod_both (by omega)
  ·
    refine do_next ?_
    show Do _ _ ⟨[va (Adr.mk state), va many, va cells, va cell, none, none, none], [(state, ownS false [vs cs0, vs i0, vs cur0, vs k0])]⟩ _
    refine do_seq (do_asg (i := 4) (ev_opD (ev_opD (ev_var (i := 0) rfl) ev_int (r2_ixOS (j := 0) (k := 3) (y := k0) rfl rfl rfl)) (ev_opD ev_int (ev_opD (ev_var (i := 0) rfl) ev_int (r2_ixOS (j := 0) (k := 1) (y := i0) rfl rfl rfl)) (r2_mul (by walk_at "fsc"))) r2_add) fun (turn : Int) h_turn => ?_)
    show Do _ _ ⟨[va (Adr.mk state), va many, va cells, va cell, va turn, none, none], [(state, ownS false [vs cs0, vs i0, vs cur0, vs k0])]⟩ _
    refine do_seq (do_asg (i := 5) (ev_opD (ev_opD (ev_opD (ev_cbD (ea_consD (ev_var (i := 3) rfl) ea_nil) rc_int1) ev_int (r2_mod (by walk_at "fsc"))) ev_int r2_add) (ev_opD ev_int (ev_opD ev_int (ev_var (i := 4) rfl) (r2_mul (by walk_at "fsc"))) r2_add) (r2_mul (by walk_at "fsc"))) fun (mixed : Int) h_mixed => ?_)
    show Do _ _ ⟨[va (Adr.mk state), va many, va cells, va cell, va turn, va mixed, none], [(state, ownS false [vs cs0, vs i0, vs cur0, vs k0])]⟩ _
    refine do_seq (do_asg (i := 5) (ev_opD (ev_cbD (ea_consD (ev_var (i := 5) rfl) ea_nil) rc_int1) ev_int (r2_mod (by walk_at "fsc"))) fun (mixed1 : Int) h_mixed1 => ?_)
    show Do _ _ ⟨[va (Adr.mk state), va many, va cells, va cell, va turn, va mixed1, none], [(state, ownS false [vs cs0, vs i0, vs cur0, vs k0])]⟩ _
    refine do_seq (do_asg (i := 5) (ev_opD (ev_cbD (ea_consD (ev_opD (ev_opD (ev_opD (ev_var (i := 5) rfl) (ev_var (i := 5) rfl) (r2_mul (by walk_at "fsc"))) (ev_opD ev_int (ev_var (i := 4) rfl) (r2_mul (by walk_at "fsc"))) r2_add) ev_int r2_add) ea_nil) rc_int1) ev_int (r2_mod (by walk_at "fsc"))) fun (mixed2 : Int) h_mixed2 => ?_)
    show Do _ _ ⟨[va (Adr.mk state), va many, va cells, va cell, va turn, va mixed2, none], [(state, ownS false [vs cs0, vs i0, vs cur0, vs k0])]⟩ _
    refine do_seq (do_setOS (k := 0) (j := 3) rfl (ev_opD (ev_opD (ev_var (i := 0) rfl) ev_int (r2_ixOS (j := 0) (k := 3) (y := k0) rfl rfl rfl)) ev_int r2_add) (ev_var (i := 0) rfl) ev_int rfl (by simp) fun (y9 : Int) h_y9 => ?_)
    show Do _ _ ⟨[va (Adr.mk state), va many, va cells, va cell, va turn, va mixed2, none], [(state, ownS false [vs cs0, vs i0, vs cur0, vs y9])]⟩ _
    refine do_seq (do_ifD (et_test (ev_opD (ev_opD (ev_var (i := 0) rfl) ev_int (r2_ixOS (j := 0) (k := 3) (y := y9) rfl rfl rfl)) ev_int r2_ge)) (fun h_if4 => ?_) (fun h_if4 => ?_))
    ·
      refine do_seq (do_setOS (k := 0) (j := 1) rfl (ev_opD (ev_opD (ev_var (i := 0) rfl) ev_int (r2_ixOS (j := 0) (k := 1) (y := i0) rfl rfl rfl)) ev_int r2_add) (ev_var (i := 0) rfl) ev_int rfl (by simp) fun (y10 : Int) h_y10 => ?_)
      show Do _ _ ⟨[va (Adr.mk state), va many, va cells, va cell, va turn, va mixed2, none], [(state, ownS false [vs cs0, vs y10, vs cur0, vs y9])]⟩ _
      refine do_setOS (k := 0) (j := 3) rfl ev_int (ev_var (i := 0) rfl) ev_int rfl (by simp) fun (y11 : Int) h_y11 => ?_
      show Do _ _ ⟨[va (Adr.mk state), va many, va cells, va cell, va turn, va mixed2, none], [(state, ownS false [vs cs0, vs y10, vs cur0, vs y11])]⟩ _
      refine do_cells (cl' := [(state, stC false)]) rfl (fun p hp => by obtain rfl := List.mem_singleton.mp hp; exact ⟨_, List.mem_singleton.mpr rfl, rfl, fun K G o h => stC_of hR.1 hR.2 h⟩) ?_
      refine do_ret (ev_opD (ev_cbD (ea_consD (ev_opD (ev_var (i := 5) rfl) ev_int (r2_fdiv (by walk_at "fsc"))) ea_nil) rc_int1) (ev_var (i := 1) rfl) (r2_mod (by walk_at "fsc"))) fun z h_ret => ?_
      refine ⟨_, (.cons₂ _ .slnil), rfl, ?_⟩
      · -- vc 4
        subst h_ret; exact emod_both (by omega)
    ·
      refine do_next ?_
      show Do _ _ ⟨[va (Adr.mk state), va many, va cells, va cell, va turn, va mixed2, none], [(state, ownS false [vs cs0, vs i0, vs cur0, vs y9])]⟩ _
      refine do_cells (cl' := [(state, stC false)]) rfl (fun p hp => by obtain rfl := List.mem_singleton.mp hp; exact ⟨_, List.mem_singleton.mpr rfl, rfl, fun K G o h => stC_of hR.1 hR.2 h⟩) ?_
      refine do_ret (ev_opD (ev_cbD (ea_consD (ev_opD (ev_var (i := 5) rfl) ev_int (r2_fdiv (by walk_at "fsc"))) ea_nil) rc_int1) (ev_var (i := 1) rfl) (r2_mod (by walk_at "fsc"))) fun z h_ret => ?_
      refine ⟨_, (.cons₂ _ .slnil), rfl, ?_⟩
      · -- vc 5
        subst h_ret; exact emod_both (by omega)

end
end L03

namespace L03
open PySem L2 Fw
local macro_rules | `(tactic| walk_at "fsc") => `(tactic| first | omega | assumption | trivial | exact sgn_split (by assumption) | exact sgn_split2 (by assumption) | (intros; omega) | (with_reducible exact emod_both (by omega)) | (simp only [Bool.not_eq_true', Bool.not_eq_false', decide_eq_true_eq, decide_eq_false_iff_not, Bool.or_eq_false_iff, Bool.and_eq_true, List.length_cons, List.length_nil, List.length_append, List.length_cons, List.length_nil, List.length_map, signs_len, rngI_len, enumI_len, keysD_len, pre_check_letters, post_check_letters, pre_check_word, post_check_word, pre_in_order, post_in_order, pre_words_to, post_words_to, pre_rank, post_rank, pre_word_at, post_word_at, pre_scattered_words, post_scattered_words, pre_windows, post_windows, pre_class_of, post_class_of, pre_law_start, pre_law_next, post_law_next, pre_law_integer, post_law_integer, pre_law_exact, post_law_exact, pre_law_rank, post_law_rank, pre_law_word_at, post_law_word_at, pre_law_strings, post_law_strings, pre_law_sorted, post_law_sorted, pre_law_all_words, post_law_all_words, pre_law_parts, post_law_parts, pre_law_class, post_law_class, pre_law_bad_letters, post_law_bad_letters, pre_law_bad_word, post_law_bad_word, pre_law_refused, post_law_refused, pre_law_small_parts, post_law_small_parts, pre_law, post_law] at *; first | omega | assumption | (refine ⟨?_, ?_⟩ <;> first | omega | assumption) | (refine ⟨?_, ?_, ?_⟩ <;> first | omega | assumption)) | (have hl_ := congrArg List.length hs_; simp only [List.length_append, List.length_cons, List.length_nil, List.length_map, signs_len, rngI_len, enumI_len, keysD_len] at hl_; omega) | (have hr_ := rng_split hs_; omega))
local macro_rules | `(tactic| walk_at "fvc") => `(tactic| first | rfl | trivial | assumption | omega)
local macro_rules | `(tactic| walk_at "fxp") => `(tactic| first | exact hx_ | assumption)
local macro_rules | `(tactic| walk_at "frs") => `(tactic| first | assumption)

section
variable {P : Program} {w : World} {K : PySem.W.Frag} {mg : Str → Option Value} {base : Heap} {A : Ad}
abbrev s_law_parts : Stmt := topS 27
abbrev N_law_parts : List Str := ["word", "most", "parts", "sign", "part", "one"]
theorem sc_law_parts : FnScope N_law_parts ["word", "most"] (defScope s_law_parts) := ⟨rfl, rfl, rfl, by decide +kernel, rfl, by decide +kernel, by decide +kernel⟩
set_option maxHeartbeats 4000000 in
theorem ok_law_parts (T : Tx K mg A) (h_law_sorted : Cal P w K mg base 1 A.law_sorted "_law_sorted" ["words"] (sp_law_sorted K)) {fd : FuncData} (F : Fun K "_law_parts" "_law_parts" s_law_parts A.law_parts fd) : FnOk P w K mg base (L2.CX P w) 2 A.law_parts fd ["word", "most"] (sp_law_parts K) := by
  refine F.okX sc_law_parts (fun us H Q E ⟨word, most, hpre, h⟩ => h.len) (fun cdv A_ outer s_ H us Q E hr ⟨word, most, hpre, h⟩ => ?_)
  refine ⟨_, (pss_cons (ps_set (i := 2) sc_law_parts.nd rfl (by first | exact Or.inl rfl | exact Or.inr rfl) (pe_lst (pa_cons pe_str pa_nil))) (pss_cons (ps_for (passes_of rfl) rfl (pi_str (pv 0)) (pg_name (i := 3) sc_law_parts.nd rfl (by first | exact Or.inl rfl | exact Or.inr rfl)) (pss_one (ps_for (passes_of rfl) rfl (pi_list (pe_lc (own := [("one", 5)]) (g := gName 5) (tt := _) rfl sc_law_parts.nd (pi_list (pv 2)) (blkOk_by (N := N_law_parts) (sc := defScope s_law_parts) (by decide +kernel)) (fun _ _ _ _ _ => (pg_name (i := 5) sc_law_parts.nd rfl (by first | exact Or.inl rfl | exact Or.inr rfl))) (fun _ _ _ _ _ => (pts_one (pt_cmpR op_lt (pe_callB cr_lenT (by rfl) T.m_len bb_len (pa_cons (pv 5) pa_nil)) (pv 1) (nomark _)))) (fun _ _ _ _ _ => (pe_op op_addS (pv 5) (pv 3))))) (pg_name (i := 4) sc_law_parts.nd rfl (by first | exact Or.inl rfl | exact Or.inr rfl)) (pss_one (ps_if (pt_cmpR op_notIn_seq (pv 4) (pv 2) rfl) (pss_one (ps_expr (pe_bm PySem.F.plainAttrs_list PySem.F.slot_list_append PySem.F.type_list_append mt_append (pv 2) (pa_cons (pv 4) pa_nil)))) pss_nil))))) (pss_one (ps_ret (pe_cal (W := (fun _ _ _ _ => False)) h_law_sorted (hr.mono (by decide)) takes0 (pa_cons (pv 2) pa_nil)))))), ?_⟩
  refine Call.body (sl := [va word, va most, none, none, none, none]) h rfl fun G0_ H0_ => ?_
  have hpre_ := hpre; unfold pre_law_parts at hpre_
  show Do _ _ ⟨[va word, va most, none, none, none, none], []⟩ _
  refine do_seq (do_asgL (i := 2) (evl_lstD (xs := ([("" : Str)] : List Str)) (ea_consD ev_str ea_nil) (by simp)) fun a_parts parts h_parts => ?_)
  show Do _ _ ⟨[va word, va most, va (Adr.mk a_parts), none, none, none], [(a_parts, ownL parts)]⟩ _
  refine do_seq (do_forW (ei_str (ev_var (i := 0) rfl)) eg_name (fun (pre : List Str) e_ => ∃ (t : List Str), (PaI word most pre t) ∧ e_ = ⟨[va word, va most, va (Adr.mk a_parts), none, none, none], [(a_parts, ownL t)]⟩) ?_ ?_ ?_)
  ·
    refine ⟨⟨[va word, va most, va (Adr.mk a_parts), none, none, none], [(a_parts, ownL _)]⟩, ⟨⟨Or.inr rfl, ⟨Or.inr rfl, ⟨Or.inr rfl, ⟨Or.inl rfl, ⟨Or.inl rfl, ⟨Or.inl rfl, trivial⟩⟩⟩⟩⟩⟩, rfl⟩, _, ?_, rfl⟩
    · -- vc 0
      exact paI_nil h_parts
  ·
    rintro pre x post e_ hsplit ⟨t, hI, rfl⟩
    have hlen_hsplit := congrArg List.length hsplit; simp only [List.length_append, List.length_cons, List.length_nil, List.length_map, signs_len, rngI_len, enumI_len, keysD_len] at hlen_hsplit
    show Do _ _ ⟨[va word, va most, va (Adr.mk a_parts), va x, none, none], [(a_parts, ownL t)]⟩ _
    refine do_forW (ei_list (evl_val (evl_lcCD (p := fun (one : Str) => (decide (((one).length : Int) < most))) (h := fun (one : Str) => (one ++ x)) (eic_own (k := 0) (xs := t) rfl (ev_var (i := 2) rfl)) eg_name (by simp) (by have h1 := (paI_bound hpre_ hsplit hI).1; omega) (fun pre_ one post_ hs_ dc_ => (et_test (ev_opD (ev_cbD (ea_consD (ev_var (i := 5) rfl) ea_nil) (rc_lenT (by have h1 := (paI_bound hpre_ hsplit hI).2 one (by rw [hs_]; simp); omega))) (ev_var (i := 1) rfl) r2_lt))) (fun pre_ one post_ hs_ hb dc_ => (ev_opD (ev_var (i := 5) rfl) (ev_var (i := 3) rfl) (r2_addS (by have h1 := (paI_bound hpre_ hsplit hI).2 one (by rw [hs_]; simp); have h2 := len_one (sgn_split hsplit); omega))))))) eg_name (fun (pre2 : List Str) e_ => ∃ (t2 : List Str), (PaJ word most pre x t pre2 t2) ∧ e_ = ⟨[va word, va most, va (Adr.mk a_parts), va x, none, none], [(a_parts, ownL t2)]⟩) ?_ ?_ ?_
    ·
      refine ⟨⟨[va word, va most, va (Adr.mk a_parts), va x, none, none], [(a_parts, ownL _)]⟩, ⟨⟨Or.inr rfl, ⟨Or.inr rfl, ⟨Or.inr rfl, ⟨Or.inr rfl, ⟨Or.inl rfl, ⟨Or.inl rfl, trivial⟩⟩⟩⟩⟩⟩, rfl⟩, _, ?_, rfl⟩
      · -- vc 1
        exact paJ_nil hI
    ·
      rintro pre2 y post2 e_ hsplit2 ⟨t2, hJ, rfl⟩
      have hlen_hsplit2 := congrArg List.length hsplit2; simp only [List.length_append, List.length_cons, List.length_nil, List.length_map, signs_len, rngI_len, enumI_len, keysD_len] at hlen_hsplit2
      show Do _ _ ⟨[va word, va most, va (Adr.mk a_parts), va x, va y, none], [(a_parts, ownL t2)]⟩ _
      refine do_ifD (et_test (ev_opD (ev_var (i := 4) rfl) (ev_var (i := 2) rfl) (r2_niOS (k := 0) rfl))) (fun h_if => ?_) (fun h_if => ?_)
      ·
        refine do_append (k := 0) rfl (ev_var (i := 2) rfl) (ev_var (i := 4) rfl) (by have h1 := paJ_bound hpre_ hsplit hI (fun z hz => by rw [hsplit2]; simp [hz]) hJ; omega) fun (y : Str) h_y => ?_
        refine ⟨⟨[va word, va most, va (Adr.mk a_parts), va x, none, none], [(a_parts, ownL _)]⟩, ⟨⟨Or.inr rfl, ⟨Or.inr rfl, ⟨Or.inr rfl, ⟨Or.inr rfl, ⟨Or.inl rfl, ⟨Or.inl rfl, trivial⟩⟩⟩⟩⟩⟩, rfl⟩, _, ?_, rfl⟩
        · -- vc 2
          rw [h_y]; exact paJ_yes hJ h_if
      ·
        refine do_next ?_
        refine ⟨⟨[va word, va most, va (Adr.mk a_parts), va x, none, none], [(a_parts, ownL _)]⟩, ⟨⟨Or.inr rfl, ⟨Or.inr rfl, ⟨Or.inr rfl, ⟨Or.inr rfl, ⟨Or.inl rfl, ⟨Or.inl rfl, trivial⟩⟩⟩⟩⟩⟩, rfl⟩, _, ?_, rfl⟩
        · -- vc 3
          exact paJ_no hJ h_if
    ·
      rintro e_ ⟨t2, hJ, rfl⟩
      refine ⟨⟨[va word, va most, va (Adr.mk a_parts), none, none, none], [(a_parts, ownL _)]⟩, ⟨⟨Or.inr rfl, ⟨Or.inr rfl, ⟨Or.inr rfl, ⟨Or.inl rfl, ⟨Or.inl rfl, ⟨Or.inl rfl, trivial⟩⟩⟩⟩⟩⟩, rfl⟩, _, ?_, rfl⟩
      · -- vc 4
        exact paJ_end hI hJ
  ·
    rintro e_ ⟨t, hI, rfl⟩
    show Do _ _ ⟨[va word, va most, va (Adr.mk a_parts), none, none, none], [(a_parts, ownL t)]⟩ _
    refine do_freeze (k := 0) (j := 2) rfl rfl ?_
    show Do _ _ ⟨[va word, va most, va t, none, none, none], []⟩ _
    refine do_ret (ev_callP (W := (fun _ _ _ _ => False)) (P' := (fun (z_ : (List Str)) => post_law_sorted t z_)) (fun _ => False) (ea_consD (ev_var (i := 2) rfl) ea_nil) (fun ss_ hs_ us_ H_ Q_ E_ h_ => by obtain rfl := hs_; exact ⟨t, (by have h1 := paI_bound (post := []) hpre_ (by simp) hI; exact h1), Call.imp h_ (fun r_ c_ hq_ => hq_) (fun x_ c_ hq_ => hq_)⟩) (fun x_ hx_ => hx_.elim)) fun z h_ret => ?_
    refine ⟨_, .slnil, rfl, ?_⟩
    · -- vc 5
      exact SUp.congr h_ret hI.2

end
end L03

namespace L03
open PySem L2 Fw
local macro_rules | `(tactic| walk_at "fsc") => `(tactic| first | omega | assumption | trivial | exact sgn_split (by assumption) | exact sgn_split2 (by assumption) | (intros; omega) | (with_reducible exact emod_both (by omega)) | (simp only [Bool.not_eq_true', Bool.not_eq_false', decide_eq_true_eq, decide_eq_false_iff_not, Bool.or_eq_false_iff, Bool.and_eq_true, List.length_cons, List.length_nil, List.length_append, List.length_cons, List.length_nil, List.length_map, signs_len, rngI_len, enumI_len, keysD_len, pre_check_letters, post_check_letters, pre_check_word, post_check_word, pre_in_order, post_in_order, pre_words_to, post_words_to, pre_rank, post_rank, pre_word_at, post_word_at, pre_scattered_words, post_scattered_words, pre_windows, post_windows, pre_class_of, post_class_of, pre_law_start, pre_law_next, post_law_next, pre_law_integer, post_law_integer, pre_law_exact, post_law_exact, pre_law_rank, post_law_rank, pre_law_word_at, post_law_word_at, pre_law_strings, post_law_strings, pre_law_sorted, post_law_sorted, pre_law_all_words, post_law_all_words, pre_law_parts, post_law_parts, pre_law_class, post_law_class, pre_law_bad_letters, post_law_bad_letters, pre_law_bad_word, post_law_bad_word, pre_law_refused, post_law_refused, pre_law_small_parts, post_law_small_parts, pre_law, post_law] at *; first | omega | assumption | (refine ⟨?_, ?_⟩ <;> first | omega | assumption) | (refine ⟨?_, ?_, ?_⟩ <;> first | omega | assumption)) | (have hl_ := congrArg List.length hs_; simp only [List.length_append, List.length_cons, List.length_nil, List.length_map, signs_len, rngI_len, enumI_len, keysD_len] at hl_; omega) | (have hr_ := rng_split hs_; omega))
local macro_rules | `(tactic| walk_at "fvc") => `(tactic| first | rfl | trivial | assumption | omega)
local macro_rules | `(tactic| walk_at "fxp") => `(tactic| first | exact hx_ | assumption)
local macro_rules | `(tactic| walk_at "frs") => `(tactic| first | assumption)

section
variable {P : Program} {w : World} {K : PySem.W.Frag} {mg : Str → Option Value} {base : Heap} {A : Ad}
abbrev s_law_rank : Stmt := topS 22
abbrev N_law_rank : List Str := ["letters", "word", "ahead", "power", "k", "value", "sign"]
theorem sc_law_rank : FnScope N_law_rank ["letters", "word"] (defScope s_law_rank) := ⟨rfl, rfl, rfl, by decide +kernel, rfl, by decide +kernel, by decide +kernel⟩
set_option maxHeartbeats 4000000 in
theorem ok_law_rank (T : Tx K mg A)  {fd : FuncData} (F : Fun K "_law_rank" "_law_rank" s_law_rank A.law_rank fd) : FnOk P w K mg base (L2.CX P w) 1 A.law_rank fd ["letters", "word"] (sp_law_rank K) := by
  refine F.okX sc_law_rank (fun us H Q E ⟨letters, word, hpre, h⟩ => h.len) (fun cdv A_ outer s_ H us Q E hr ⟨letters, word, hpre, h⟩ => ?_)
  refine ⟨_, (pss_cons (ps_set (i := 2) sc_law_rank.nd rfl (by first | exact Or.inl rfl | exact Or.inr rfl) pe_int) (pss_cons (ps_set (i := 3) sc_law_rank.nd rfl (by first | exact Or.inl rfl | exact Or.inr rfl) pe_int) (pss_cons (ps_for (passes_of rfl) rfl (pi_range1 (by rfl) T.m_range (pa_cons (pe_callB cr_lenT (by rfl) T.m_len bb_len (pa_cons (pv 1) pa_nil)) pa_nil)) (pg_name (i := 4) sc_law_rank.nd rfl (by first | exact Or.inl rfl | exact Or.inr rfl)) (pss_cons (ps_set (i := 2) sc_law_rank.nd rfl (by first | exact Or.inl rfl | exact Or.inr rfl) (pe_op op_add (pv 2) (pv 3))) (pss_one (ps_set (i := 3) sc_law_rank.nd rfl (by first | exact Or.inl rfl | exact Or.inr rfl) (pe_op op_mul (pv 3) (pe_callB cr_lenT (by rfl) T.m_len bb_len (pa_cons (pv 0) pa_nil))))))) (pss_cons (ps_set (i := 5) sc_law_rank.nd rfl (by first | exact Or.inl rfl | exact Or.inr rfl) pe_int) (pss_cons (ps_for (passes_of rfl) rfl (pi_str (pv 1)) (pg_name (i := 6) sc_law_rank.nd rfl (by first | exact Or.inl rfl | exact Or.inr rfl)) (pss_one (ps_set (i := 5) sc_law_rank.nd rfl (by first | exact Or.inl rfl | exact Or.inr rfl) (pe_op op_add (pe_op op_mul (pv 5) (pe_callB cr_lenT (by rfl) T.m_len bb_len (pa_cons (pv 0) pa_nil))) (pe_bmS PySem.F.plainAttrs_str PySem.F.slot_str_index PySem.F.type_str_index (mt_indexX (W := fun _ _ _ _ => False) rfl takes0) (pv 0) (pa_cons (pv 6) pa_nil)))))) (pss_one (ps_ret (pe_op op_add (pv 2) (pv 5))))))))), ?_⟩
  refine Call.body (sl := [va letters, va word, none, none, none, none, none]) h rfl fun G0_ H0_ => ?_
  have hpre_ := hpre; unfold pre_law_rank at hpre_
  show Do _ _ ⟨[va letters, va word, none, none, none, none, none], []⟩ _
  refine do_seq (do_asg (i := 2) ev_int fun (ahead : Int) h_ahead => ?_)
  show Do _ _ ⟨[va letters, va word, va ahead, none, none, none, none], []⟩ _
  refine do_seq (do_asg (i := 3) ev_int fun (power : Int) h_power => ?_)
  show Do _ _ ⟨[va letters, va word, va ahead, va power, none, none, none], []⟩ _
  refine do_seq (do_forW (ei_rng1 (ea_consD (ev_cbD (ea_consD (ev_var (i := 1) rfl) ea_nil) (rc_lenT (by walk_at "fsc"))) ea_nil) (by walk_at "fsc") (by walk_at "fsc")) eg_name (fun (pre : List Int) e_ => ∃ (a : Int) (pw : Int), (a = geo letters.length pre.length) ∧ (pw = (letters.length : Int) ^ pre.length) ∧ e_ = ⟨[va letters, va word, va a, va pw, none, none, none], []⟩) ?_ ?_ ?_)
  ·
    refine ⟨⟨[va letters, va word, va _, va _, none, none, none], []⟩, ⟨⟨Or.inr rfl, ⟨Or.inr rfl, ⟨Or.inr rfl, ⟨Or.inr rfl, ⟨Or.inl rfl, ⟨Or.inl rfl, ⟨Or.inl rfl, trivial⟩⟩⟩⟩⟩⟩⟩, rfl⟩, _, _, ?_, ?_, rfl⟩
    · walk_at "fvc"
    · walk_at "fvc"
  ·
    rintro pre x post e_ hsplit ⟨a, pw, hI, hJ, rfl⟩
    have hlen_hsplit := congrArg List.length hsplit; simp only [List.length_append, List.length_cons, List.length_nil, List.length_map, signs_len, rngI_len, enumI_len, keysD_len] at hlen_hsplit
    have hrng_hsplit := rng_split hsplit
    show Do _ _ ⟨[va letters, va word, va a, va pw, va x, none, none], []⟩ _
    refine do_seq (do_asg (i := 2) (ev_opD (ev_var (i := 2) rfl) (ev_var (i := 3) rfl) r2_add) fun (ahead1 : Int) h_ahead1 => ?_)
    show Do _ _ ⟨[va letters, va word, va ahead1, va pw, va x, none, none], []⟩ _
    refine do_asg (i := 3) (ev_opD (ev_var (i := 3) rfl) (ev_cbD (ea_consD (ev_var (i := 0) rfl) ea_nil) (rc_lenT (by walk_at "fsc"))) (r2_mul (by walk_at "fsc"))) fun (power1 : Int) h_power1 => ?_
    refine ⟨⟨[va letters, va word, va _, va _, none, none, none], []⟩, ⟨⟨Or.inr rfl, ⟨Or.inr rfl, ⟨Or.inr rfl, ⟨Or.inr rfl, ⟨Or.inl rfl, ⟨Or.inl rfl, ⟨Or.inl rfl, trivial⟩⟩⟩⟩⟩⟩⟩, rfl⟩, _, _, ?_, ?_, rfl⟩
    · -- vc 2
      rw [h_ahead1, hI, hJ, List.length_append]; rfl
    · -- vc 3
      rw [h_power1, hJ, List.length_append]; rfl
  ·
    rintro e_ ⟨a, pw, hI, hJ, rfl⟩
    show Do _ _ ⟨[va letters, va word, va a, va pw, none, none, none], []⟩ _
    refine do_seq (do_asg (i := 5) ev_int fun (value : Int) h_value => ?_)
    show Do _ _ ⟨[va letters, va word, va a, va pw, none, va value, none], []⟩ _
    refine do_seq (do_forW (ei_str (ev_var (i := 1) rfl)) eg_name (fun (pre : List Str) e_ => ∃ (v : Int), (v = valF letters pre) ∧ e_ = ⟨[va letters, va word, va a, va pw, none, va v, none], []⟩) ?_ ?_ ?_)
    ·
      refine ⟨⟨[va letters, va word, va a, va pw, none, va _, none], []⟩, ⟨⟨Or.inr rfl, ⟨Or.inr rfl, ⟨Or.inr rfl, ⟨Or.inr rfl, ⟨Or.inl rfl, ⟨Or.inr rfl, ⟨Or.inl rfl, trivial⟩⟩⟩⟩⟩⟩⟩, rfl⟩, _, ?_, rfl⟩
      · walk_at "fvc"
    ·
      rintro pre x post e_ hsplit ⟨v, hV, rfl⟩
      have hlen_hsplit := congrArg List.length hsplit; simp only [List.length_append, List.length_cons, List.length_nil, List.length_map, signs_len, rngI_len, enumI_len, keysD_len] at hlen_hsplit
      show Do _ _ ⟨[va letters, va word, va a, va pw, none, va v, va x], []⟩ _
      refine do_asg (i := 5) (ev_opD (ev_opD (ev_var (i := 5) rfl) (ev_cbD (ea_consD (ev_var (i := 0) rfl) ea_nil) (rc_lenT (by walk_at "fsc"))) (r2_mul (by walk_at "fsc"))) (ev_index (k := (idx letters x)) (ev_var (i := 0) rfl) (ea_consD (ev_var (i := 6) rfl) ea_nil) (by exact (index_sgn (sgn_split hsplit) (hpre_.2.2 _ (sgn_in hsplit))).1)) r2_add) fun (value1 : Int) h_value1 => ?_
      refine ⟨⟨[va letters, va word, va a, va pw, none, va _, none], []⟩, ⟨⟨Or.inr rfl, ⟨Or.inr rfl, ⟨Or.inr rfl, ⟨Or.inr rfl, ⟨Or.inl rfl, ⟨Or.inr rfl, ⟨Or.inl rfl, trivial⟩⟩⟩⟩⟩⟩⟩, rfl⟩, _, ?_, rfl⟩
      · -- vc 5
        rw [valF_snoc, ← hV, h_value1, (index_sgn (sgn_split hsplit) (hpre_.2.2 _ (sgn_in hsplit))).2]
    ·
      rintro e_ ⟨v, hV, rfl⟩
      show Do _ _ ⟨[va letters, va word, va a, va pw, none, va v, none], []⟩ _
      refine do_ret (ev_opD (ev_var (i := 2) rfl) (ev_var (i := 5) rfl) r2_add) fun z h_ret => ?_
      refine ⟨_, .slnil, rfl, ?_⟩
      · -- vc 6
        subst h_ret; show a + v = _; rw [rank_val, hI, hV, rngI_len, signs_len, Int.toNat_natCast]

end
end L03

namespace L03
open PySem L2 Fw
local macro_rules | `(tactic| walk_at "fsc") => `(tactic| first | omega | assumption | trivial | exact sgn_split (by assumption) | exact sgn_split2 (by assumption) | (intros; omega) | (with_reducible exact emod_both (by omega)) | (simp only [Bool.not_eq_true', Bool.not_eq_false', decide_eq_true_eq, decide_eq_false_iff_not, Bool.or_eq_false_iff, Bool.and_eq_true, List.length_cons, List.length_nil, List.length_append, List.length_cons, List.length_nil, List.length_map, signs_len, rngI_len, enumI_len, keysD_len, pre_check_letters, post_check_letters, pre_check_word, post_check_word, pre_in_order, post_in_order, pre_words_to, post_words_to, pre_rank, post_rank, pre_word_at, post_word_at, pre_scattered_words, post_scattered_words, pre_windows, post_windows, pre_class_of, post_class_of, pre_law_start, pre_law_next, post_law_next, pre_law_integer, post_law_integer, pre_law_exact, post_law_exact, pre_law_rank, post_law_rank, pre_law_word_at, post_law_word_at, pre_law_strings, post_law_strings, pre_law_sorted, post_law_sorted, pre_law_all_words, post_law_all_words, pre_law_parts, post_law_parts, pre_law_class, post_law_class, pre_law_bad_letters, post_law_bad_letters, pre_law_bad_word, post_law_bad_word, pre_law_refused, post_law_refused, pre_law_small_parts, post_law_small_parts, pre_law, post_law] at *; first | omega | assumption | (refine ⟨?_, ?_⟩ <;> first | omega | assumption) | (refine ⟨?_, ?_, ?_⟩ <;> first | omega | assumption)) | (have hl_ := congrArg List.length hs_; simp only [List.length_append, List.length_cons, List.length_nil, List.length_map, signs_len, rngI_len, enumI_len, keysD_len] at hl_; omega) | (have hr_ := rng_split hs_; omega))
local macro_rules | `(tactic| walk_at "fvc") => `(tactic| first | rfl | trivial | assumption | omega)
local macro_rules | `(tactic| walk_at "fxp") => `(tactic| first | exact hx_ | assumption)
local macro_rules | `(tactic| walk_at "frs") => `(tactic| first | assumption)

section
variable {P : Program} {w : World} {K : PySem.W.Frag} {mg : Str → Option Value} {base : Heap} {A : Ad}
abbrev s_law_refused : Stmt := topS 31
abbrev N_law_refused : List Str := ["state", "letters", "word", "bad", "call", "place", "sign", "spoilt"]
theorem sc_law_refused : FnScope N_law_refused ["state", "letters", "word"] (defScope s_law_refused) := ⟨rfl, rfl, rfl, by decide +kernel, rfl, by decide +kernel, by decide +kernel⟩
set_option maxHeartbeats 4000000 in
theorem ok_law_refused (T : Tx K mg A) (h_law_bad_letters : Cal P w K mg base 10 A.law_bad_letters "_law_bad_letters" ["call", "letters", "word"] (sp_law_bad_letters K)) (h_law_bad_word : Cal P w K mg base 10 A.law_bad_word "_law_bad_word" ["letters", "word", "place"] (sp_law_bad_word K)) (h_law_next : Cal P w K mg base 1 A.law_next "_law_next" ["state", "many"] (sp_law_next K)) {fd : FuncData} (F : Fun K "_law_refused" "_law_refused" s_law_refused A.law_refused fd) : FnOk P w K mg base (L2.CX P w) 11 A.law_refused fd ["state", "letters", "word"] (sp_law_refused K) := by
  refine F.okX sc_law_refused (fun us H Q E ⟨state, letters, word, hpre, h⟩ => h.len) (fun cdv A_ outer s_ H us Q E hr ⟨state, letters, word, hpre, h⟩ => ?_)
  refine ⟨_, (pss_cons (ps_set (i := 3) sc_law_refused.nd rfl (by first | exact Or.inl rfl | exact Or.inr rfl) (pe_ix ix_list (pe_lst (pa_cons pe_str (pa_cons pe_str (pa_cons pe_str (pa_cons pe_str (pa_cons pe_str (pa_cons pe_str (pa_cons pe_str (pa_cons pe_str pa_nil))))))))) (pe_cal (W := (fun _ _ _ _ => False)) h_law_next (hr.mono (by decide)) takes0 (pa_cons (pv 0) (pa_cons pe_int pa_nil))) (fun _ _ => rfl))) (pss_cons (ps_for (passes_of rfl) rfl (pi_range1 (by rfl) T.m_range (pa_cons pe_int pa_nil)) (pg_name (i := 4) sc_law_refused.nd rfl (by first | exact Or.inl rfl | exact Or.inr rfl)) (pss_one (ps_if (pt_not (pt_val (pe_cal (W := (fun _ _ _ _ => False)) h_law_bad_letters (hr.mono (by decide)) takes0 (pa_cons (pv 4) (pa_cons (pv 3) (pa_cons (pv 2) pa_nil)))))) (pss_one (ps_ret pe_bl)) pss_nil))) (pss_cons (ps_set (i := 5) sc_law_refused.nd rfl (by first | exact Or.inl rfl | exact Or.inr rfl) (pe_cal (W := (fun _ _ _ _ => False)) h_law_next (hr.mono (by decide)) takes0 (pa_cons (pv 0) (pa_cons (pe_op op_add (pe_callB cr_lenT (by rfl) T.m_len bb_len (pa_cons (pv 2) pa_nil)) pe_int) pa_nil)))) (pss_cons (ps_set (i := 6) sc_law_refused.nd rfl (by first | exact Or.inl rfl | exact Or.inr rfl) (pe_ix ix_list (pe_lst (pa_cons pe_str (pa_cons pe_str (pa_cons pe_str (pa_cons pe_str pa_nil))))) (pe_cal (W := (fun _ _ _ _ => False)) h_law_next (hr.mono (by decide)) takes0 (pa_cons (pv 0) (pa_cons pe_int pa_nil))) (fun _ _ => rfl))) (pss_cons (ps_set (i := 7) sc_law_refused.nd rfl (by first | exact Or.inl rfl | exact Or.inr rfl) (pe_op op_addS (pe_op op_addS (pe_slice sl_str (pv 2) po_none (po_some (pv 5))) (pv 6)) (pe_slice sl_str (pv 2) (po_some (pv 5)) po_none))) (pss_cons (ps_if (pt_cmpR op_eq (pe_cal (W := (fun _ _ _ _ => False)) h_law_next (hr.mono (by decide)) takes0 (pa_cons (pv 0) (pa_cons pe_int pa_nil))) pe_int (nomark _)) (pss_one (ps_set (i := 7) sc_law_refused.nd rfl (by first | exact Or.inl rfl | exact Or.inr rfl) (pe_op op_addS (pv 7) pe_str))) pss_nil) (pss_one (ps_ret (pe_cal (W := (fun _ _ _ _ => False)) h_law_bad_word (hr.mono (by decide)) takes0 (pa_cons (pv 1) (pa_cons (pv 7) (pa_cons (pv 5) pa_nil)))))))))))), ?_⟩
  refine Call.body h rfl fun G0_ H0_ => ?_
  have hpre_ := hpre; unfold pre_law_refused at hpre_
  show Do _ _ ⟨[va (Adr.mk state), va letters, va word, none, none, none, none, none], [(state, stC false)]⟩ _
  refine do_seq (do_asg (i := 3) (ev_op (P'' := (fun (z_ : Str) => ∃ (r : Int), post_law_next state (8 : Int) r ∧ z_ = (([("" : Str), ("ba" : Str), ("aa" : Str), ("abcde" : Str), ("aB" : Str), ("a1" : Str), ("a b" : Str), ("abca" : Str)] : List Str).getD (r).toNat dS))) (evl_val (evl_lstD (xs := ([("" : Str), ("ba" : Str), ("aa" : Str), ("abcde" : Str), ("aB" : Str), ("a1" : Str), ("a b" : Str), ("abca" : Str)] : List Str)) (ea_consD ev_str (ea_consD ev_str (ea_consD ev_str (ea_consD ev_str (ea_consD ev_str (ea_consD ev_str (ea_consD ev_str (ea_consD ev_str ea_nil)))))))) (by simp))) (fun x_ hx_ => (Ev.mono (P' := (fun (z_ : Int) => ∃ (r : Int), post_law_next state (8 : Int) r ∧ z_ = r)) (ev_call1 (W := (fun _ _ _ _ => False)) (k := 0) (c := stC false) (P' := (fun (z_ : Int) => post_law_next state (8 : Int) z_)) rfl rfl rfl (fun _ => False) (ea_consD (ev_var (i := 0) rfl) (ea_consD ev_int ea_nil)) (fun ss_ hs_ us_ H_ Q_ E_ h_ => by obtain rfl := hs_; exact ⟨state, (8 : Int), (by walk_at "fsc"), Call.imp h_ (fun r_ c_ hq_ => hq_) (fun x_ c_ hq_ => hq_)⟩) (fun x_ hx_ => hx_.elim)) (fun z_ hz_ => ⟨z_, hz_, rfl⟩))) (fun x_ y_ hx_ hy_ => by rw [hx_]; obtain ⟨r, hc_r, hy_⟩ := hy_; rw [hy_]; exact R2V.mono (r2_ixLp (d := dS) (by walk_at "fsc")) fun z_ hz_ => ⟨r, hc_r, hz_⟩)) fun (bad : Str) h_bad => ?_)
  obtain ⟨r, hc_r, h_bad⟩ := h_bad
  show Do _ _ ⟨[va (Adr.mk state), va letters, va word, va bad, none, none, none, none], [(state, stC false)]⟩ _
  refine do_seq (do_forW (ei_rng1 (ea_consD ev_int ea_nil) (by walk_at "fsc") (by walk_at "fsc")) eg_name (fun (pre : List Int) e_ => e_ = ⟨[va (Adr.mk state), va letters, va word, va bad, none, none, none, none], [(state, stC false)]⟩) ?_ ?_ ?_)
  ·
    refine ⟨⟨[va (Adr.mk state), va letters, va word, va bad, none, none, none, none], [(state, stC false)]⟩, ⟨⟨Or.inr rfl, ⟨Or.inr rfl, ⟨Or.inr rfl, ⟨Or.inr rfl, ⟨Or.inl rfl, ⟨Or.inl rfl, ⟨Or.inl rfl, ⟨Or.inl rfl, trivial⟩⟩⟩⟩⟩⟩⟩⟩, rfl⟩, rfl⟩
  ·
    rintro pre x post e_ hsplit rfl
    have hlen_hsplit := congrArg List.length hsplit; simp only [List.length_append, List.length_cons, List.length_nil, List.length_map, signs_len, rngI_len, enumI_len, keysD_len] at hlen_hsplit
    have hrng_hsplit := rng_split hsplit
    show Do _ _ ⟨[va (Adr.mk state), va letters, va word, va bad, va x, none, none, none], [(state, stC false)]⟩ _
    refine do_ifD (et_notD (et_B (ev_callP (W := (fun _ _ _ _ => False)) (P' := (· = true)) (fun _ => False) (ea_consD (ev_var (i := 4) rfl) (ea_consD (ev_var (i := 3) rfl) (ea_consD (ev_var (i := 2) rfl) ea_nil))) (fun ss_ hs_ us_ H_ Q_ E_ h_ => by obtain rfl := hs_; exact ⟨x, bad, word, (by have h1 := bad8 hc_r h_bad; exact ⟨h1.1, h1.2, by have h2 := hpre_.2.2; omega⟩), Call.imp h_ (fun r_ c_ hq_ => hq_) (fun x_ c_ hq_ => hq_)⟩) (fun x_ hx_ => hx_.elim)))) (fun h_if => ?_) (fun h_if => ?_)
    ·
      refine do_ret ev_bl fun z h_ret => ?_
      refine ⟨_, (.cons₂ _ .slnil), rfl, ?_⟩
      · walk_at "fvc"
    ·
      refine do_next ?_
      refine ⟨⟨[va (Adr.mk state), va letters, va word, va bad, none, none, none, none], [(state, stC false)]⟩, ⟨⟨Or.inr rfl, ⟨Or.inr rfl, ⟨Or.inr rfl, ⟨Or.inr rfl, ⟨Or.inl rfl, ⟨Or.inl rfl, ⟨Or.inl rfl, ⟨Or.inl rfl, trivial⟩⟩⟩⟩⟩⟩⟩⟩, rfl⟩, rfl⟩
  ·
    rintro e_ rfl
    show Do _ _ ⟨[va (Adr.mk state), va letters, va word, va bad, none, none, none, none], [(state, stC false)]⟩ _
    refine do_seq (do_asg (i := 5) (ev_call1 (W := (fun _ _ _ _ => False)) (k := 0) (c := stC false) (P' := (fun (z_ : Int) => post_law_next state (((word).length : Int) + (1 : Int)) z_)) rfl rfl rfl (fun _ => False) (ea_consD (ev_var (i := 0) rfl) (ea_consD (ev_opD (ev_cbD (ea_consD (ev_var (i := 2) rfl) ea_nil) (rc_lenT (by walk_at "fsc"))) ev_int r2_add) ea_nil)) (fun ss_ hs_ us_ H_ Q_ E_ h_ => by obtain rfl := hs_; exact ⟨state, (((word).length : Int) + (1 : Int)), (by walk_at "fsc"), Call.imp h_ (fun r_ c_ hq_ => hq_) (fun x_ c_ hq_ => hq_)⟩) (fun x_ hx_ => hx_.elim)) fun (place : Int) h_place => ?_)
    show Do _ _ ⟨[va (Adr.mk state), va letters, va word, va bad, none, va place, none, none], [(state, stC false)]⟩ _
    refine do_seq (do_asg (i := 6) (ev_op (P'' := (fun (z_ : Str) => ∃ (r3 : Int), post_law_next state (4 : Int) r3 ∧ z_ = (([("?" : Str), ("A" : Str), (" " : Str), ("0" : Str)] : List Str).getD (r3).toNat dS))) (evl_val (evl_lstD (xs := ([("?" : Str), ("A" : Str), (" " : Str), ("0" : Str)] : List Str)) (ea_consD ev_str (ea_consD ev_str (ea_consD ev_str (ea_consD ev_str ea_nil)))) (by simp))) (fun x_ hx_ => (Ev.mono (P' := (fun (z_ : Int) => ∃ (r3 : Int), post_law_next state (4 : Int) r3 ∧ z_ = r3)) (ev_call1 (W := (fun _ _ _ _ => False)) (k := 0) (c := stC false) (P' := (fun (z_ : Int) => post_law_next state (4 : Int) z_)) rfl rfl rfl (fun _ => False) (ea_consD (ev_var (i := 0) rfl) (ea_consD ev_int ea_nil)) (fun ss_ hs_ us_ H_ Q_ E_ h_ => by obtain rfl := hs_; exact ⟨state, (4 : Int), (by walk_at "fsc"), Call.imp h_ (fun r_ c_ hq_ => hq_) (fun x_ c_ hq_ => hq_)⟩) (fun x_ hx_ => hx_.elim)) (fun z_ hz_ => ⟨z_, hz_, rfl⟩))) (fun x_ y_ hx_ hy_ => by rw [hx_]; obtain ⟨r3, hc_r3, hy_⟩ := hy_; rw [hy_]; exact R2V.mono (r2_ixLp (d := dS) (by walk_at "fsc")) fun z_ hz_ => ⟨r3, hc_r3, hz_⟩)) fun (sign : Str) h_sign => ?_)
    obtain ⟨r3, hc_r3, h_sign⟩ := h_sign
    show Do _ _ ⟨[va (Adr.mk state), va letters, va word, va bad, none, va place, va sign, none], [(state, stC false)]⟩ _
    refine do_seq (do_asg (i := 7) (ev_opD (ev_opD (ev_slS (ev_var (i := 2) rfl) eo_none (eo_some (ev_var (i := 5) rfl)) (by walk_at "fsc")) (ev_var (i := 6) rfl) (r2_addS (by have h1 := spo_len (z := word) h_place.1; have h2 := (sgn4 hc_r3 h_sign).1; rw [len_tl] at h2; have h3 := hpre_.2.2; omega))) (ev_slS (ev_var (i := 2) rfl) (eo_some (ev_var (i := 5) rfl)) eo_none (by walk_at "fsc")) (r2_addS (by have h1 := spo_len (z := word) h_place.1; have h2 := (sgn4 hc_r3 h_sign).1; rw [len_tl] at h2; have h3 := hpre_.2.2; rw [len_app]; omega))) fun (spoilt : Str) h_spoilt => ?_)
    show Do _ _ ⟨[va (Adr.mk state), va letters, va word, va bad, none, va place, va sign, va spoilt], [(state, stC false)]⟩ _
    refine do_seqJ (fun e_ => ∃ (sp_ : Str), (SpoI letters word place sp_) ∧ e_ = ⟨[va (Adr.mk state), va letters, va word, va bad, none, va place, va sign, va sp_], [(state, stC false)]⟩) ?_ ?_
    ·
      refine do_if (et_test (ev_op (P'' := (fun (z_ : Bool) => ∃ (r4 : Int), post_law_next state (2 : Int) r4 ∧ z_ = (decide (r4 = (0 : Int))))) (Ev.mono (P' := (fun (z_ : Int) => ∃ (r4 : Int), post_law_next state (2 : Int) r4 ∧ z_ = r4)) (ev_call1 (W := (fun _ _ _ _ => False)) (k := 0) (c := stC false) (P' := (fun (z_ : Int) => post_law_next state (2 : Int) z_)) rfl rfl rfl (fun _ => False) (ea_consD (ev_var (i := 0) rfl) (ea_consD ev_int ea_nil)) (fun ss_ hs_ us_ H_ Q_ E_ h_ => by obtain rfl := hs_; exact ⟨state, (2 : Int), (by walk_at "fsc"), Call.imp h_ (fun r_ c_ hq_ => hq_) (fun x_ c_ hq_ => hq_)⟩) (fun x_ hx_ => hx_.elim)) (fun z_ hz_ => ⟨z_, hz_, rfl⟩)) (fun x_ hx_ => ev_int) (fun x_ y_ hx_ hy_ => by obtain ⟨r4, hc_r4, hx_⟩ := hx_; rw [hx_]; rw [hy_]; exact R2V.mono r2_eqI fun z_ hz_ => ⟨r4, hc_r4, hz_⟩))) (fun h_if1 => ?_) (fun h_if1 => ?_)
      ·
        obtain ⟨r4, hc_r4, h_if1⟩ := h_if1
        refine do_asg (i := 7) (ev_opD (ev_var (i := 7) rfl) ev_str (r2_addS (by have h1 := spo_len (z := word) h_place.1; have h2 := (sgn4 hc_r3 h_sign).1; rw [len_tl] at h2; have h3 := hpre_.2.2; rw [h_spoilt, len_app, len_app]; have h4 : ("!" : Str).length = 1 := (by decide); omega))) fun (spoilt1 : Str) h_spoilt1 => ?_
        refine ⟨⟨[va (Adr.mk state), va letters, va word, va bad, none, va place, va sign, va _], [(state, stC false)]⟩, ⟨⟨Or.inr rfl, ⟨Or.inr rfl, ⟨Or.inr rfl, ⟨Or.inr rfl, ⟨Or.inl rfl, ⟨Or.inr rfl, ⟨Or.inr rfl, ⟨Or.inr rfl, trivial⟩⟩⟩⟩⟩⟩⟩⟩, rfl⟩, _, ?_, rfl⟩
        · -- vc 1
          exact spo_of (rest := (tl word).drop place.toNat ++ tl ("!" : Str)) hpre_.1 hpre_.2.1 hpre_.2.2 h_place (sgn4 hc_r3 h_sign) (by rw [h_spoilt1, h_spoilt, tl_app, tl_app, tl_app, cut_lo h_place.1, cut_hi h_place.1, List.append_assoc]) (by rw [List.length_append, List.length_drop, len_tl]; exact Nat.le_refl _)
      ·
        obtain ⟨r4, hc_r4, h_if1⟩ := h_if1
        refine do_next ?_
        refine ⟨⟨[va (Adr.mk state), va letters, va word, va bad, none, va place, va sign, va _], [(state, stC false)]⟩, ⟨⟨Or.inr rfl, ⟨Or.inr rfl, ⟨Or.inr rfl, ⟨Or.inr rfl, ⟨Or.inl rfl, ⟨Or.inr rfl, ⟨Or.inr rfl, ⟨Or.inr rfl, trivial⟩⟩⟩⟩⟩⟩⟩⟩, rfl⟩, _, ?_, rfl⟩
        · -- vc 2
          exact spo_of (rest := (tl word).drop place.toNat) hpre_.1 hpre_.2.1 hpre_.2.2 h_place (sgn4 hc_r3 h_sign) (by rw [h_spoilt, tl_app, tl_app, cut_lo h_place.1, cut_hi h_place.1]) (by rw [List.length_drop, len_tl]; omega)
    ·
      rintro e_ ⟨sp_, hS, rfl⟩
      show Do _ _ ⟨[va (Adr.mk state), va letters, va word, va bad, none, va place, va sign, va sp_], [(state, stC false)]⟩ _
      refine do_ret (ev_callP (W := (fun _ _ _ _ => False)) (P' := (· = true)) (fun _ => False) (ea_consD (ev_var (i := 1) rfl) (ea_consD (ev_var (i := 7) rfl) (ea_consD (ev_var (i := 5) rfl) ea_nil))) (fun ss_ hs_ us_ H_ Q_ E_ h_ => by obtain rfl := hs_; exact ⟨letters, sp_, place, (by exact ⟨hpre_.1, hS.1, hS.2⟩), Call.imp h_ (fun r_ c_ hq_ => hq_) (fun x_ c_ hq_ => hq_)⟩) (fun x_ hx_ => hx_.elim)) fun z h_ret => ?_
      refine ⟨_, (.cons₂ _ .slnil), rfl, ?_⟩
      · walk_at "fvc"

end
end L03

namespace L03
open PySem L2 Fw
local macro_rules | `(tactic| walk_at "fsc") => `(tactic| first | omega | assumption | trivial | exact sgn_split (by assumption) | exact sgn_split2 (by assumption) | (intros; omega) | (with_reducible exact emod_both (by omega)) | (simp only [Bool.not_eq_true', Bool.not_eq_false', decide_eq_true_eq, decide_eq_false_iff_not, Bool.or_eq_false_iff, Bool.and_eq_true, List.length_cons, List.length_nil, List.length_append, List.length_cons, List.length_nil, List.length_map, signs_len, rngI_len, enumI_len, keysD_len, pre_check_letters, post_check_letters, pre_check_word, post_check_word, pre_in_order, post_in_order, pre_words_to, post_words_to, pre_rank, post_rank, pre_word_at, post_word_at, pre_scattered_words, post_scattered_words, pre_windows, post_windows, pre_class_of, post_class_of, pre_law_start, pre_law_next, post_law_next, pre_law_integer, post_law_integer, pre_law_exact, post_law_exact, pre_law_rank, post_law_rank, pre_law_word_at, post_law_word_at, pre_law_strings, post_law_strings, pre_law_sorted, post_law_sorted, pre_law_all_words, post_law_all_words, pre_law_parts, post_law_parts, pre_law_class, post_law_class, pre_law_bad_letters, post_law_bad_letters, pre_law_bad_word, post_law_bad_word, pre_law_refused, post_law_refused, pre_law_small_parts, post_law_small_parts, pre_law, post_law] at *; first | omega | assumption | (refine ⟨?_, ?_⟩ <;> first | omega | assumption) | (refine ⟨?_, ?_, ?_⟩ <;> first | omega | assumption)) | (have hl_ := congrArg List.length hs_; simp only [List.length_append, List.length_cons, List.length_nil, List.length_map, signs_len, rngI_len, enumI_len, keysD_len] at hl_; omega) | (have hr_ := rng_split hs_; omega))
local macro_rules | `(tactic| walk_at "fvc") => `(tactic| first | rfl | trivial | assumption | omega)
local macro_rules | `(tactic| walk_at "fxp") => `(tactic| first | exact hx_ | assumption)
local macro_rules | `(tactic| walk_at "frs") => `(tactic| first | assumption)

section
variable {P : Program} {w : World} {K : PySem.W.Frag} {mg : Str → Option Value} {base : Heap} {A : Ad}
abbrev s_law_small_parts : Stmt := topS 32
abbrev N_law_small_parts : List Str := ["state", "letters", "word", "most", "size", "due", "exact", "period", "told", "k", "count"]
theorem sc_law_small_parts : FnScope N_law_small_parts ["state", "letters"] (defScope s_law_small_parts) := ⟨rfl, rfl, rfl, by decide +kernel, rfl, by decide +kernel, by decide +kernel⟩
set_option maxHeartbeats 4000000 in
theorem ok_law_small_parts (T : Tx K mg A) (h_law_class : Cal P w K mg base 1 A.law_class "_law_class" ["letters", "word", "exact", "period"] (sp_law_class K)) (h_law_exact : Cal P w K mg base 2 A.law_exact "_law_exact" ["state", "letters", "size"] (sp_law_exact K)) (h_law_integer : Cal P w K mg base 1 A.law_integer "_law_integer" ["actual"] (sp_law_integer K)) (h_law_next : Cal P w K mg base 1 A.law_next "_law_next" ["state", "many"] (sp_law_next K)) (h_law_parts : Cal P w K mg base 2 A.law_parts "_law_parts" ["word", "most"] (sp_law_parts K)) (h_law_sorted : Cal P w K mg base 1 A.law_sorted "_law_sorted" ["words"] (sp_law_sorted K)) (h_law_strings : Cal P w K mg base 1 A.law_strings "_law_strings" ["actual", "due"] (sp_law_strings K)) (h_class_of : Cal P w K mg base 1 A.class_of "class_of" ["letters", "word", "exact", "period"] (sp_class_of K)) (h_scattered_words : Cal P w K mg base 5 A.scattered_words "scattered_words" ["word", "most"] (sp_scattered_words K)) (h_windows : Cal P w K mg base 6 A.windows "windows" ["word", "size"] (sp_windows K)) {fd : FuncData} (F : Fun K "_law_small_parts" "_law_small_parts" s_law_small_parts A.law_small_parts fd) : FnOk P w K mg base (L2.CX P w) 7 A.law_small_parts fd ["state", "letters"] (sp_law_small_parts K) := by
  refine F.okX sc_law_small_parts (fun us H Q E ⟨state, letters, hpre, h⟩ => h.len) (fun cdv A_ outer s_ H us Q E hr ⟨state, letters, hpre, h⟩ => ?_)
  refine ⟨_, (pss_cons (ps_set (i := 2) sc_law_small_parts.nd rfl (by first | exact Or.inl rfl | exact Or.inr rfl) (pe_cal (W := (fun _ _ _ _ => False)) h_law_exact (hr.mono (by decide)) takes0 (pa_cons (pv 0) (pa_cons (pv 1) (pa_cons (pe_cal (W := (fun _ _ _ _ => False)) h_law_next (hr.mono (by decide)) takes0 (pa_cons (pv 0) (pa_cons pe_int pa_nil))) pa_nil))))) (pss_cons (ps_if (pt_cmpR op_eq (pe_cal (W := (fun _ _ _ _ => False)) h_law_next (hr.mono (by decide)) takes0 (pa_cons (pv 0) (pa_cons pe_int pa_nil))) pe_int (nomark _)) (pss_one (ps_set (i := 2) sc_law_small_parts.nd rfl (by first | exact Or.inl rfl | exact Or.inr rfl) (pe_cal (W := (fun _ _ _ _ => False)) h_law_exact (hr.mono (by decide)) takes0 (pa_cons (pv 0) (pa_cons (pe_slice sl_str (pv 1) po_none (po_some pe_int)) (pa_cons pe_int pa_nil)))))) pss_nil) (pss_cons (ps_set (i := 3) sc_law_small_parts.nd rfl (by first | exact Or.inl rfl | exact Or.inr rfl) (pe_cal (W := (fun _ _ _ _ => False)) h_law_next (hr.mono (by decide)) takes0 (pa_cons (pv 0) (pa_cons pe_int pa_nil)))) (pss_cons (ps_set (i := 4) sc_law_small_parts.nd rfl (by first | exact Or.inl rfl | exact Or.inr rfl) (pe_op op_add pe_int (pe_cal (W := (fun _ _ _ _ => False)) h_law_next (hr.mono (by decide)) takes0 (pa_cons (pv 0) (pa_cons pe_int pa_nil))))) (pss_cons (ps_if (pt_not (pt_val (pe_cal (W := (fun _ _ _ _ => False)) h_law_strings (hr.mono (by decide)) takes0 (pa_cons (pe_cal (W := (fun _ _ _ _ => False)) h_scattered_words (hr.mono (by decide)) takes0 (pa_cons (pv 2) (pa_cons (pv 3) pa_nil))) (pa_cons (pe_cal (W := (fun _ _ _ _ => False)) h_law_parts (hr.mono (by decide)) takes0 (pa_cons (pv 2) (pa_cons (pv 3) pa_nil))) pa_nil))))) (pss_one (ps_ret pe_bl)) pss_nil) (pss_cons (ps_set (i := 5) sc_law_small_parts.nd rfl (by first | exact Or.inl rfl | exact Or.inr rfl) (pe_cal (W := (fun _ _ _ _ => False)) h_law_sorted (hr.mono (by decide)) takes0 (pa_cons (pe_lc (own := [("k", 9)]) (g := gName 9) (tt := tYes) rfl sc_law_small_parts.nd (pi_range1 (by rfl) T.m_range (pa_cons (pe_callB (cr_max2 rfl) (by rfl) T.m_max bb_max (pa_cons pe_int (pa_cons (pe_op op_add (pe_op op_sub (pe_callB cr_lenT (by rfl) T.m_len bb_len (pa_cons (pv 2) pa_nil)) (pv 4)) pe_int) pa_nil))) pa_nil)) (blkOk_by (N := N_law_small_parts) (sc := defScope s_law_small_parts) (by decide +kernel)) (fun _ _ _ _ _ => (pg_name (i := 9) sc_law_small_parts.nd rfl (by first | exact Or.inl rfl | exact Or.inr rfl))) (fun _ _ _ _ _ => pts_nil) (fun _ _ _ _ _ => (pe_slice sl_str (pv 2) (po_some (pv 9)) (po_some (pe_op op_add (pv 9) (pv 4)))))) pa_nil))) (pss_cons (ps_if (pt_not (pt_val (pe_cal (W := (fun _ _ _ _ => False)) h_law_strings (hr.mono (by decide)) takes0 (pa_cons (pe_cal (W := (fun _ _ _ _ => False)) h_windows (hr.mono (by decide)) takes0 (pa_cons (pv 2) (pa_cons (pv 4) pa_nil))) (pa_cons (pv 5) pa_nil))))) (pss_one (ps_ret pe_bl)) pss_nil) (pss_cons (ps_set (i := 6) sc_law_small_parts.nd rfl (by first | exact Or.inl rfl | exact Or.inr rfl) (pe_cal (W := (fun _ _ _ _ => False)) h_law_next (hr.mono (by decide)) takes0 (pa_cons (pv 0) (pa_cons pe_int pa_nil)))) (pss_cons (ps_set (i := 7) sc_law_small_parts.nd rfl (by first | exact Or.inl rfl | exact Or.inr rfl) (pe_op op_add pe_int (pe_cal (W := (fun _ _ _ _ => False)) h_law_next (hr.mono (by decide)) takes0 (pa_cons (pv 0) (pa_cons pe_int pa_nil))))) (pss_cons (ps_set (i := 8) sc_law_small_parts.nd rfl (by first | exact Or.inl rfl | exact Or.inr rfl) (pe_cal (W := (fun _ _ _ _ => False)) h_class_of (hr.mono (by decide)) takes0 (pa_cons (pv 1) (pa_cons (pv 2) (pa_cons (pv 6) (pa_cons (pv 7) pa_nil)))))) (pss_cons (ps_if (PW.pt (pw_or (pt_not (pt_val (pe_callB call_isi (by rfl) T.m_isinstance bb_isinstance (pa_cons (pv 8) (pa_cons (pe_bltn (v := .ty "tuple") (by rfl) T.m_tuple bb_tuple rfl) pa_nil))))) (pw_or1 (pt_val (pe_callB (cr_any rfl) (by rfl) T.m_any bb_any (pa_cons (pe_lc (own := [("count", 10)]) (g := gName 10) (tt := tYes) rfl sc_law_small_parts.nd (pi_tup (pv 8)) (blkOk_by (N := N_law_small_parts) (sc := defScope s_law_small_parts) (by decide +kernel)) (fun _ _ _ _ _ => (pg_name (i := 10) sc_law_small_parts.nd rfl (by first | exact Or.inl rfl | exact Or.inr rfl))) (fun _ _ _ _ _ => pts_nil) (fun _ _ _ _ _ => (pe_not (pe_cal (W := (fun _ _ _ _ => False)) h_law_integer (hr.mono (by decide)) takes0 (pa_cons (pv 10) pa_nil))))) pa_nil)))))) (pss_one (ps_ret pe_bl)) pss_nil) (pss_one (ps_ret (pe_cmpR (op_eqD hr.units) (pe_callTy cr_listOf (by rfl) T.m_list bb_list (pa_cons (pv 8) pa_nil)) (pe_cal (W := (fun _ _ _ _ => False)) h_law_class (hr.mono (by decide)) takes0 (pa_cons (pv 1) (pa_cons (pv 2) (pa_cons (pv 6) (pa_cons (pv 7) pa_nil))))) (nomark _))))))))))))))), ?_⟩
  refine Call.body h rfl fun G0_ H0_ => ?_
  have hpre_ := hpre; unfold pre_law_small_parts at hpre_
  show Do _ _ ⟨[va (Adr.mk state), va letters, none, none, none, none, none, none, none, none, none], [(state, stC false)]⟩ _
  refine do_seq (do_asg (i := 2) (Ev.mono (P' := (fun (z_ : Str) => ∃ (r : Int) (r1 : Str), post_law_next state (9 : Int) r ∧ post_law_exact state letters r r1 ∧ z_ = r1)) (ev_call1 (W := (fun _ _ _ _ => False)) (k := 0) (c := stC false) (P' := (fun (z_ : Str) => ∃ (r : Int), post_law_next state (9 : Int) r ∧ post_law_exact state letters r z_)) rfl rfl rfl (fun _ => False) (EvA.mono (P' := (fun ss_ => ∃ (r : Int), post_law_next state (9 : Int) r ∧ ss_ = [vs (Adr.mk state), vs letters, vs r])) (ea_cons (ev_var (i := 0) rfl) (fun x_ hx_ => (EvA.mono (P' := (fun ss_ => ∃ (r : Int), post_law_next state (9 : Int) r ∧ ss_ = [vs letters, vs r])) (ea_cons (ev_var (i := 1) rfl) (fun x_ hx_ => (EvA.mono (P' := (fun ss_ => ∃ (r : Int), post_law_next state (9 : Int) r ∧ ss_ = [vs r])) (ea_cons (Ev.mono (P' := (fun (z_ : Int) => ∃ (r : Int), post_law_next state (9 : Int) r ∧ z_ = r)) (ev_call1 (W := (fun _ _ _ _ => False)) (k := 0) (c := stC false) (P' := (fun (z_ : Int) => post_law_next state (9 : Int) z_)) rfl rfl rfl (fun _ => False) (ea_consD (ev_var (i := 0) rfl) (ea_consD ev_int ea_nil)) (fun ss_ hs_ us_ H_ Q_ E_ h_ => by obtain rfl := hs_; exact ⟨state, (9 : Int), (by walk_at "fsc"), Call.imp h_ (fun r_ c_ hq_ => hq_) (fun x_ c_ hq_ => hq_)⟩) (fun x_ hx_ => hx_.elim)) (fun z_ hz_ => ⟨z_, hz_, rfl⟩)) (fun x_ hx_ => ea_nil)) (fun ss_ h_ => by obtain ⟨x_, r_, hx_, hr_, rfl⟩ := h_; obtain ⟨r, hc_r, hx_⟩ := hx_; rw [hx_]; obtain rfl := hr_; exact ⟨r, hc_r, rfl⟩)))) (fun ss_ h_ => by obtain ⟨x_, r_, hx_, hr_, rfl⟩ := h_; rw [hx_]; obtain ⟨r, hc_r, rfl⟩ := hr_; exact ⟨r, hc_r, rfl⟩)))) (fun ss_ h_ => by obtain ⟨x_, r_, hx_, hr_, rfl⟩ := h_; rw [hx_]; obtain ⟨r, hc_r, rfl⟩ := hr_; exact ⟨r, hc_r, rfl⟩)) (fun ss_ hs_ us_ H_ Q_ E_ h_ => by obtain ⟨r, hc_r, rfl⟩ := hs_; exact ⟨state, letters, r, (by have h1 := hpre_.1; have h2 := hpre_.2.1; exact ⟨h1, by omega, hc_r.1, by have h3 := hc_r.2; omega⟩), Call.imp h_ (fun r_ c_ hq_ => ⟨hq_.1, ⟨r, hc_r, hq_.2⟩⟩) (fun x_ c_ hq_ => hq_)⟩) (fun x_ hx_ => hx_.elim)) (fun z_ hz_ => by obtain ⟨r, hc_r, hz_⟩ := hz_; exact ⟨r, z_, hc_r, hz_, rfl⟩)) fun (word : Str) h_word => ?_)
  obtain ⟨r, r1, hc_r, hc_r1, h_word⟩ := h_word
  rw [← h_word] at hc_r1
  show Do _ _ ⟨[va (Adr.mk state), va letters, va word, none, none, none, none, none, none, none, none], [(state, stC false)]⟩ _
  refine do_seqJ (fun e_ => ∃ (wd : Str), (SmW letters wd) ∧ e_ = ⟨[va (Adr.mk state), va letters, va wd, none, none, none, none, none, none, none, none], [(state, stC false)]⟩) ?_ ?_
  ·
    refine do_if (et_test (ev_op (P'' := (fun (z_ : Bool) => ∃ (r2 : Int), post_law_next state (8 : Int) r2 ∧ z_ = (decide (r2 = (2 : Int))))) (Ev.mono (P' := (fun (z_ : Int) => ∃ (r2 : Int), post_law_next state (8 : Int) r2 ∧ z_ = r2)) (ev_call1 (W := (fun _ _ _ _ => False)) (k := 0) (c := stC false) (P' := (fun (z_ : Int) => post_law_next state (8 : Int) z_)) rfl rfl rfl (fun _ => False) (ea_consD (ev_var (i := 0) rfl) (ea_consD ev_int ea_nil)) (fun ss_ hs_ us_ H_ Q_ E_ h_ => by obtain rfl := hs_; exact ⟨state, (8 : Int), (by walk_at "fsc"), Call.imp h_ (fun r_ c_ hq_ => hq_) (fun x_ c_ hq_ => hq_)⟩) (fun x_ hx_ => hx_.elim)) (fun z_ hz_ => ⟨z_, hz_, rfl⟩)) (fun x_ hx_ => ev_int) (fun x_ y_ hx_ hy_ => by obtain ⟨r2, hc_r2, hx_⟩ := hx_; rw [hx_]; rw [hy_]; exact R2V.mono r2_eqI fun z_ hz_ => ⟨r2, hc_r2, hz_⟩))) (fun h_if => ?_) (fun h_if => ?_)
    ·
      obtain ⟨r2, hc_r2, h_if⟩ := h_if
      refine do_asg (i := 2) (ev_call1 (W := (fun _ _ _ _ => False)) (k := 0) (c := stC false) (P' := (fun (z_ : Str) => post_law_exact state (cutS letters none (some (2 : Int))) (24 : Int) z_)) rfl rfl rfl (fun _ => False) (ea_consD (ev_var (i := 0) rfl) (ea_consD (ev_slS (ev_var (i := 1) rfl) eo_none (eo_some ev_int) (by have h2 := hpre_.2.1; omega)) (ea_consD ev_int ea_nil))) (fun ss_ hs_ us_ H_ Q_ E_ h_ => by obtain rfl := hs_; exact ⟨state, (cutS letters none (some (2 : Int))), (24 : Int), (by have h1 := cut2_len hpre_; exact ⟨h1.1, by omega, by decide, by decide⟩), Call.imp h_ (fun r_ c_ hq_ => hq_) (fun x_ c_ hq_ => hq_)⟩) (fun x_ hx_ => hx_.elim)) fun (word1 : Str) h_word1 => ?_
      refine ⟨⟨[va (Adr.mk state), va letters, va _, none, none, none, none, none, none, none, none], [(state, stC false)]⟩, ⟨⟨Or.inr rfl, ⟨Or.inr rfl, ⟨Or.inr rfl, ⟨Or.inl rfl, ⟨Or.inl rfl, ⟨Or.inl rfl, ⟨Or.inl rfl, ⟨Or.inl rfl, ⟨Or.inl rfl, ⟨Or.inl rfl, ⟨Or.inl rfl, trivial⟩⟩⟩⟩⟩⟩⟩⟩⟩⟩⟩, rfl⟩, _, ?_, rfl⟩
      · -- vc 0
        exact .inr ⟨by have h1 := h_word1.1; omega, h_word1.2⟩
    ·
      obtain ⟨r2, hc_r2, h_if⟩ := h_if
      refine do_next ?_
      refine ⟨⟨[va (Adr.mk state), va letters, va _, none, none, none, none, none, none, none, none], [(state, stC false)]⟩, ⟨⟨Or.inr rfl, ⟨Or.inr rfl, ⟨Or.inr rfl, ⟨Or.inl rfl, ⟨Or.inl rfl, ⟨Or.inl rfl, ⟨Or.inl rfl, ⟨Or.inl rfl, ⟨Or.inl rfl, ⟨Or.inl rfl, ⟨Or.inl rfl, trivial⟩⟩⟩⟩⟩⟩⟩⟩⟩⟩⟩, rfl⟩, _, ?_, rfl⟩
      · -- vc 1
        exact .inl ⟨by have h1 := hc_r1.1; have h2 := hc_r.2; omega, hc_r1.2⟩
  ·
    rintro e_ ⟨wd, hW, rfl⟩
    show Do _ _ ⟨[va (Adr.mk state), va letters, va wd, none, none, none, none, none, none, none, none], [(state, stC false)]⟩ _
    refine do_seq (do_asg (i := 3) (ev_call1 (W := (fun _ _ _ _ => False)) (k := 0) (c := stC false) (P' := (fun (z_ : Int) => post_law_next state (5 : Int) z_)) rfl rfl rfl (fun _ => False) (ea_consD (ev_var (i := 0) rfl) (ea_consD ev_int ea_nil)) (fun ss_ hs_ us_ H_ Q_ E_ h_ => by obtain rfl := hs_; exact ⟨state, (5 : Int), (by walk_at "fsc"), Call.imp h_ (fun r_ c_ hq_ => hq_) (fun x_ c_ hq_ => hq_)⟩) (fun x_ hx_ => hx_.elim)) fun (most : Int) h_most => ?_)
    show Do _ _ ⟨[va (Adr.mk state), va letters, va wd, va most, none, none, none, none, none, none, none], [(state, stC false)]⟩ _
    refine do_seq (do_asg (i := 4) (ev_op (P'' := (fun (z_ : Int) => ∃ (r5 : Int), post_law_next state (5 : Int) r5 ∧ z_ = ((1 : Int) + r5))) ev_int (fun x_ hx_ => (Ev.mono (P' := (fun (z_ : Int) => ∃ (r5 : Int), post_law_next state (5 : Int) r5 ∧ z_ = r5)) (ev_call1 (W := (fun _ _ _ _ => False)) (k := 0) (c := stC false) (P' := (fun (z_ : Int) => post_law_next state (5 : Int) z_)) rfl rfl rfl (fun _ => False) (ea_consD (ev_var (i := 0) rfl) (ea_consD ev_int ea_nil)) (fun ss_ hs_ us_ H_ Q_ E_ h_ => by obtain rfl := hs_; exact ⟨state, (5 : Int), (by walk_at "fsc"), Call.imp h_ (fun r_ c_ hq_ => hq_) (fun x_ c_ hq_ => hq_)⟩) (fun x_ hx_ => hx_.elim)) (fun z_ hz_ => ⟨z_, hz_, rfl⟩))) (fun x_ y_ hx_ hy_ => by rw [hx_]; obtain ⟨r5, hc_r5, hy_⟩ := hy_; rw [hy_]; exact R2V.mono r2_add fun z_ hz_ => ⟨r5, hc_r5, hz_⟩)) fun (size_ : Int) h_size_ => ?_)
    obtain ⟨r5, hc_r5, h_size_⟩ := h_size_
    show Do _ _ ⟨[va (Adr.mk state), va letters, va wd, va most, va size_, none, none, none, none, none, none], [(state, stC false)]⟩ _
    refine do_seq (do_if (EvT.mono (P' := (fun (z_ : Bool) => ∃ (r6 : (List Str)) (r7 : (List Str)), post_scattered_words wd most r6 ∧ post_law_parts wd most r7 ∧ z_ = (!true))) (et_not (et_B (Ev.mono (P' := (fun (z_ : Bool) => ∃ (r6 : (List Str)) (r7 : (List Str)), post_scattered_words wd most r6 ∧ post_law_parts wd most r7 ∧ z_ = true)) (ev_callP (W := (fun _ _ _ _ => False)) (P' := (fun (z_ : Bool) => ∃ (r6 : (List Str)) (r7 : (List Str)), post_scattered_words wd most r6 ∧ post_law_parts wd most r7 ∧ post_law_strings r6 r7 z_)) (fun _ => False) (EvA.mono (P' := (fun ss_ => ∃ (r6 : (List Str)) (r7 : (List Str)), post_scattered_words wd most r6 ∧ post_law_parts wd most r7 ∧ ss_ = [vs r6, vs r7])) (ea_cons (Ev.mono (P' := (fun (z_ : (List Str)) => ∃ (r6 : (List Str)), post_scattered_words wd most r6 ∧ z_ = r6)) (ev_callP (W := (fun _ _ _ _ => False)) (P' := (fun (z_ : (List Str)) => post_scattered_words wd most z_)) (fun _ => False) (ea_consD (ev_var (i := 2) rfl) (ea_consD (ev_var (i := 3) rfl) ea_nil)) (fun ss_ hs_ us_ H_ Q_ E_ h_ => by obtain rfl := hs_; exact ⟨wd, most, (by exact scB_of hpre_ (smw hW) h_most.2), Call.imp h_ (fun r_ c_ hq_ => hq_) (fun x_ c_ hq_ => hq_)⟩) (fun x_ hx_ => hx_.elim)) (fun z_ hz_ => ⟨z_, hz_, rfl⟩)) (fun x_ hx_ => (EvA.mono (P' := (fun ss_ => ∃ (r7 : (List Str)), post_law_parts wd most r7 ∧ ss_ = [vs r7])) (ea_cons (Ev.mono (P' := (fun (z_ : (List Str)) => ∃ (r7 : (List Str)), post_law_parts wd most r7 ∧ z_ = r7)) (ev_callP (W := (fun _ _ _ _ => False)) (P' := (fun (z_ : (List Str)) => post_law_parts wd most z_)) (fun _ => False) (ea_consD (ev_var (i := 2) rfl) (ea_consD (ev_var (i := 3) rfl) ea_nil)) (fun ss_ hs_ us_ H_ Q_ E_ h_ => by obtain rfl := hs_; exact ⟨wd, most, (by exact scB_of hpre_ (smw hW) h_most.2), Call.imp h_ (fun r_ c_ hq_ => hq_) (fun x_ c_ hq_ => hq_)⟩) (fun x_ hx_ => hx_.elim)) (fun z_ hz_ => ⟨z_, hz_, rfl⟩)) (fun x_ hx_ => ea_nil)) (fun ss_ h_ => by obtain ⟨x_, r_, hx_, hr_, rfl⟩ := h_; obtain ⟨r7, hc_r7, hx_⟩ := hx_; rw [hx_]; obtain rfl := hr_; exact ⟨r7, hc_r7, rfl⟩)))) (fun ss_ h_ => by obtain ⟨x_, r_, hx_, hr_, rfl⟩ := h_; obtain ⟨r6, hc_r6, hx_⟩ := hx_; rw [hx_]; obtain ⟨r7, hc_r7, rfl⟩ := hr_; exact ⟨r6, r7, hc_r6, hc_r7, rfl⟩)) (fun ss_ hs_ us_ H_ Q_ E_ h_ => by obtain ⟨r6, r7, hc_r6, hc_r7, rfl⟩ := hs_; exact ⟨r6, r7, (by exact ⟨SUp.uniq hc_r6 hc_r7, by have h1 := sc_len (scB_of hpre_ (smw hW) h_most.2) hc_r7; omega⟩), Call.imp h_ (fun r_ c_ hq_ => ⟨hq_.1, ⟨r6, r7, hc_r6, hc_r7, hq_.2⟩⟩) (fun x_ c_ hq_ => hq_)⟩) (fun x_ hx_ => hx_.elim)) (fun z_ hz_ => by obtain ⟨r6, r7, hc_r6, hc_r7, hz_⟩ := hz_; exact ⟨r6, r7, hc_r6, hc_r7, hz_⟩)))) (fun z_ hz_ => by obtain ⟨r6, r7, hc_r6, hc_r7, hz_⟩ := hz_; exact ⟨r6, r7, hc_r6, hc_r7, (by rw [← hz_, Bool.not_not])⟩)) (fun h_if1 => ?_) (fun h_if1 => ?_))
    ·
      obtain ⟨r6, r7, hc_r6, hc_r7, h_if1⟩ := h_if1
      refine do_ret ev_bl fun z h_ret => ?_
      refine ⟨_, (.cons₂ _ .slnil), rfl, ?_⟩
      · walk_at "fvc"
    ·
      obtain ⟨r6, r7, hc_r6, hc_r7, h_if1⟩ := h_if1
      refine do_next ?_
      show Do _ _ ⟨[va (Adr.mk state), va letters, va wd, va most, va size_, none, none, none, none, none, none], [(state, stC false)]⟩ _
      refine do_seq (do_asg (i := 5) (ev_callP (W := (fun _ _ _ _ => False)) (P' := (fun (z_ : (List Str)) => post_law_sorted ((rngI 0 ((if ((((wd).length : Int) - size_) + (1 : Int)) > (0 : Int) then ((((wd).length : Int) - size_) + (1 : Int)) else (0 : Int))).toNat).map fun (k : Int) => (cutS wd (some k) (some (k + size_)))) z_)) (fun _ => False) (ea_consD (evl_val (evl_lcM (h := fun (k : Int) => (cutS wd (some k) (some (k + size_)))) (ei_rng1 (ea_consD (ev_cbD (ea_consD ev_int (ea_consD (ev_opD (ev_opD (ev_cbD (ea_consD (ev_var (i := 2) rfl) ea_nil) (rc_lenT (by have h1 := (smw hW).1; omega))) (ev_var (i := 4) rfl) r2_sub) ev_int r2_add) ea_nil)) rc_max2) ea_nil) (by have h1 := (smw hW).1; have h2 := hc_r5.1; split <;> omega) (by walk_at "fsc")) eg_name (by simp) (by rw [if_toNat, rngI_len]; have h1 := (smw hW).1; have h2 := hc_r5.1; omega) (fun pre_ k post_ hs_ dc_ => (ev_slS (ev_var (i := 2) rfl) (eo_some (ev_var (i := 9) rfl)) (eo_some (ev_opD (ev_var (i := 9) rfl) (ev_var (i := 4) rfl) r2_add)) (by have h1 := (smw hW).1; omega))))) ea_nil) (fun ss_ hs_ us_ H_ Q_ E_ h_ => by obtain rfl := hs_; exact ⟨((rngI 0 ((if ((((wd).length : Int) - size_) + (1 : Int)) > (0 : Int) then ((((wd).length : Int) - size_) + (1 : Int)) else (0 : Int))).toNat).map fun (k : Int) => (cutS wd (some k) (some (k + size_)))), (by rw [if_toNat]; exact win_bound (word := wd) (size := size_) (by have h1 := (smw hW).1; omega) (by have h2 := hc_r5.1; omega)), Call.imp h_ (fun r_ c_ hq_ => hq_) (fun x_ c_ hq_ => hq_)⟩) (fun x_ hx_ => hx_.elim)) fun (due : (List Str)) h_due => ?_)
      show Do _ _ ⟨[va (Adr.mk state), va letters, va wd, va most, va size_, va due, none, none, none, none, none], [(state, stC false)]⟩ _
      refine do_seq (do_if (EvT.mono (P' := (fun (z_ : Bool) => ∃ (r10 : (List Str)), post_windows wd size_ r10 ∧ z_ = (!true))) (et_not (et_B (Ev.mono (P' := (fun (z_ : Bool) => ∃ (r10 : (List Str)), post_windows wd size_ r10 ∧ z_ = true)) (ev_callP (W := (fun _ _ _ _ => False)) (P' := (fun (z_ : Bool) => ∃ (r10 : (List Str)), post_windows wd size_ r10 ∧ post_law_strings r10 due z_)) (fun _ => False) (EvA.mono (P' := (fun ss_ => ∃ (r10 : (List Str)), post_windows wd size_ r10 ∧ ss_ = [vs r10, vs due])) (ea_cons (Ev.mono (P' := (fun (z_ : (List Str)) => ∃ (r10 : (List Str)), post_windows wd size_ r10 ∧ z_ = r10)) (ev_callP (W := (fun _ _ _ _ => False)) (P' := (fun (z_ : (List Str)) => post_windows wd size_ z_)) (fun _ => False) (ea_consD (ev_var (i := 2) rfl) (ea_consD (ev_var (i := 4) rfl) ea_nil)) (fun ss_ hs_ us_ H_ Q_ E_ h_ => by obtain rfl := hs_; exact ⟨wd, size_, (by have h1 := (smw hW).1; have h2 := hc_r5.1; have h3 := hc_r5.2; exact ⟨by omega, by omega, by omega⟩), Call.imp h_ (fun r_ c_ hq_ => hq_) (fun x_ c_ hq_ => hq_)⟩) (fun x_ hx_ => hx_.elim)) (fun z_ hz_ => ⟨z_, hz_, rfl⟩)) (fun x_ hx_ => (ea_consD (ev_var (i := 5) rfl) ea_nil))) (fun ss_ h_ => by obtain ⟨x_, r_, hx_, hr_, rfl⟩ := h_; obtain ⟨r10, hc_r10, hx_⟩ := hx_; rw [hx_]; obtain rfl := hr_; exact ⟨r10, hc_r10, rfl⟩)) (fun ss_ hs_ us_ H_ Q_ E_ h_ => by obtain ⟨r10, hc_r10, rfl⟩ := hs_; exact ⟨r10, due, (by rw [if_toNat] at h_due; exact ⟨SUp.uniq hc_r10 h_due, by have h3 := sup_len (l := winL wd size_) h_due; have h4 := (win_bound (word := wd) (size := size_) (by have h1 := (smw hW).1; omega) (by have h2 := hc_r5.1; omega)).1; omega⟩), Call.imp h_ (fun r_ c_ hq_ => ⟨hq_.1, ⟨r10, hc_r10, hq_.2⟩⟩) (fun x_ c_ hq_ => hq_)⟩) (fun x_ hx_ => hx_.elim)) (fun z_ hz_ => by obtain ⟨r10, hc_r10, hz_⟩ := hz_; exact ⟨r10, hc_r10, hz_⟩)))) (fun z_ hz_ => by obtain ⟨r10, hc_r10, hz_⟩ := hz_; exact ⟨r10, hc_r10, (by rw [← hz_, Bool.not_not])⟩)) (fun h_if2 => ?_) (fun h_if2 => ?_))
      ·
        obtain ⟨r10, hc_r10, h_if2⟩ := h_if2
        refine do_ret ev_bl fun z h_ret => ?_
        refine ⟨_, (.cons₂ _ .slnil), rfl, ?_⟩
        · walk_at "fvc"
      ·
        obtain ⟨r10, hc_r10, h_if2⟩ := h_if2
        refine do_next ?_
        show Do _ _ ⟨[va (Adr.mk state), va letters, va wd, va most, va size_, va due, none, none, none, none, none], [(state, stC false)]⟩ _
        refine do_seq (do_asg (i := 6) (ev_call1 (W := (fun _ _ _ _ => False)) (k := 0) (c := stC false) (P' := (fun (z_ : Int) => post_law_next state (5 : Int) z_)) rfl rfl rfl (fun _ => False) (ea_consD (ev_var (i := 0) rfl) (ea_consD ev_int ea_nil)) (fun ss_ hs_ us_ H_ Q_ E_ h_ => by obtain rfl := hs_; exact ⟨state, (5 : Int), (by walk_at "fsc"), Call.imp h_ (fun r_ c_ hq_ => hq_) (fun x_ c_ hq_ => hq_)⟩) (fun x_ hx_ => hx_.elim)) fun (exact_ : Int) h_exact_ => ?_)
        show Do _ _ ⟨[va (Adr.mk state), va letters, va wd, va most, va size_, va due, va exact_, none, none, none, none], [(state, stC false)]⟩ _
        refine do_seq (do_asg (i := 7) (ev_op (P'' := (fun (z_ : Int) => ∃ (r13 : Int), post_law_next state (5 : Int) r13 ∧ z_ = ((1 : Int) + r13))) ev_int (fun x_ hx_ => (Ev.mono (P' := (fun (z_ : Int) => ∃ (r13 : Int), post_law_next state (5 : Int) r13 ∧ z_ = r13)) (ev_call1 (W := (fun _ _ _ _ => False)) (k := 0) (c := stC false) (P' := (fun (z_ : Int) => post_law_next state (5 : Int) z_)) rfl rfl rfl (fun _ => False) (ea_consD (ev_var (i := 0) rfl) (ea_consD ev_int ea_nil)) (fun ss_ hs_ us_ H_ Q_ E_ h_ => by obtain rfl := hs_; exact ⟨state, (5 : Int), (by walk_at "fsc"), Call.imp h_ (fun r_ c_ hq_ => hq_) (fun x_ c_ hq_ => hq_)⟩) (fun x_ hx_ => hx_.elim)) (fun z_ hz_ => ⟨z_, hz_, rfl⟩))) (fun x_ y_ hx_ hy_ => by rw [hx_]; obtain ⟨r13, hc_r13, hy_⟩ := hy_; rw [hy_]; exact R2V.mono r2_add fun z_ hz_ => ⟨r13, hc_r13, hz_⟩)) fun (period : Int) h_period => ?_)
        obtain ⟨r13, hc_r13, h_period⟩ := h_period
        show Do _ _ ⟨[va (Adr.mk state), va letters, va wd, va most, va size_, va due, va exact_, va period, none, none, none], [(state, stC false)]⟩ _
        refine do_seq (do_asg (i := 8) (ev_callP (W := (fun _ _ _ _ => False)) (P' := (fun (z_ : (Tup Int)) => post_class_of letters wd exact_ period z_)) (fun _ => False) (ea_consD (ev_var (i := 1) rfl) (ea_consD (ev_var (i := 2) rfl) (ea_consD (ev_var (i := 6) rfl) (ea_consD (ev_var (i := 7) rfl) ea_nil)))) (fun ss_ hs_ us_ H_ Q_ E_ h_ => by obtain rfl := hs_; exact ⟨letters, wd, exact_, period, (by have h1 := (smw hW).1; have h2 := hpre_.2.1; exact ⟨by omega, by omega, h_exact_.1, by have h3 := hc_r13.1; omega⟩), Call.imp h_ (fun r_ c_ hq_ => hq_) (fun x_ c_ hq_ => hq_)⟩) (fun x_ hx_ => hx_.elim)) fun (told : (Tup Int)) h_told => ?_)
        show Do _ _ ⟨[va (Adr.mk state), va letters, va wd, va most, va size_, va due, va exact_, va period, va told, none, none], [(state, stC false)]⟩ _
        refine do_seq (do_ifD (et_orD (et_notD (et_B (isi_U (c := "tuple") (b := true) (ev_var (i := 8) rfl) (by decide +kernel)))) (fun hb => (et_B (ev_cbD (ea_consD (evl_val (evl_lcM (h := fun (count : Int) => (!true)) (ei_tup (ev_var (i := 8) rfl)) eg_name (by simp) (by rw [h_told]; show (clsL _ _ _ _).length ≤ _; rw [clsL_len]; have h2 := hpre_.2.1; omega) (fun pre_ count post_ hs_ dc_ => (ev_notD (ev_callP (W := (fun _ _ _ _ => False)) (P' := (· = true)) (fun _ => False) (ea_consD (ev_var (i := 10) rfl) ea_nil) (fun ss_ hs_ us_ H_ Q_ E_ h_ => by obtain rfl := hs_; exact ⟨count, (by walk_at "fsc"), Call.imp h_ (fun r_ c_ hq_ => hq_) (fun x_ c_ hq_ => hq_)⟩) (fun x_ hx_ => hx_.elim)))))) ea_nil) rc_any)))) (fun h_if3 => ?_) (fun h_if3 => ?_))
        ·
          refine do_ret ev_bl fun z h_ret => ?_
          refine ⟨_, (.cons₂ _ .slnil), rfl, ?_⟩
          · -- vc 4
            exfalso; simp at h_if3
        ·
          refine do_next ?_
          show Do _ _ ⟨[va (Adr.mk state), va letters, va wd, va most, va size_, va due, va exact_, va period, va told, none, none], [(state, stC false)]⟩ _
          refine do_ret (ev_opD (evl_val (evl_listU (ea_consD (ev_var (i := 8) rfl) ea_nil))) (ev_callP (W := (fun _ _ _ _ => False)) (P' := (· = (clsL letters wd exact_ period))) (fun _ => False) (ea_consD (ev_var (i := 1) rfl) (ea_consD (ev_var (i := 2) rfl) (ea_consD (ev_var (i := 6) rfl) (ea_consD (ev_var (i := 7) rfl) ea_nil)))) (fun ss_ hs_ us_ H_ Q_ E_ h_ => by obtain rfl := hs_; exact ⟨letters, wd, exact_, period, (by have h1 := (smw hW).1; have h2 := hpre_.2.1; exact ⟨by omega, by omega, h_exact_.1, by have h3 := hc_r13.1; omega⟩), Call.imp h_ (fun r_ c_ hq_ => hq_) (fun x_ c_ hq_ => hq_)⟩) (fun x_ hx_ => hx_.elim)) (r2_eqP (by exact okI _) (by exact okI _))) fun z h_ret => ?_
          refine ⟨_, (.cons₂ _ .slnil), rfl, ?_⟩
          · -- vc 5
            show z = true; rw [h_ret, h_told]; exact decide_eq_true rfl

end
end L03

namespace L03
open PySem L2 Fw
local macro_rules | `(tactic| walk_at "fsc") => `(tactic| first | omega | assumption | trivial | exact sgn_split (by assumption) | exact sgn_split2 (by assumption) | (intros; omega) | (with_reducible exact emod_both (by omega)) | (simp only [Bool.not_eq_true', Bool.not_eq_false', decide_eq_true_eq, decide_eq_false_iff_not, Bool.or_eq_false_iff, Bool.and_eq_true, List.length_cons, List.length_nil, List.length_append, List.length_cons, List.length_nil, List.length_map, signs_len, rngI_len, enumI_len, keysD_len, pre_check_letters, post_check_letters, pre_check_word, post_check_word, pre_in_order, post_in_order, pre_words_to, post_words_to, pre_rank, post_rank, pre_word_at, post_word_at, pre_scattered_words, post_scattered_words, pre_windows, post_windows, pre_class_of, post_class_of, pre_law_start, pre_law_next, post_law_next, pre_law_integer, post_law_integer, pre_law_exact, post_law_exact, pre_law_rank, post_law_rank, pre_law_word_at, post_law_word_at, pre_law_strings, post_law_strings, pre_law_sorted, post_law_sorted, pre_law_all_words, post_law_all_words, pre_law_parts, post_law_parts, pre_law_class, post_law_class, pre_law_bad_letters, post_law_bad_letters, pre_law_bad_word, post_law_bad_word, pre_law_refused, post_law_refused, pre_law_small_parts, post_law_small_parts, pre_law, post_law] at *; first | omega | assumption | (refine ⟨?_, ?_⟩ <;> first | omega | assumption) | (refine ⟨?_, ?_, ?_⟩ <;> first | omega | assumption)) | (have hl_ := congrArg List.length hs_; simp only [List.length_append, List.length_cons, List.length_nil, List.length_map, signs_len, rngI_len, enumI_len, keysD_len] at hl_; omega) | (have hr_ := rng_split hs_; omega))
local macro_rules | `(tactic| walk_at "fvc") => `(tactic| first | rfl | trivial | assumption | omega)
local macro_rules | `(tactic| walk_at "fxp") => `(tactic| first | exact hx_ | assumption)
local macro_rules | `(tactic| walk_at "frs") => `(tactic| first | assumption)

section
variable {P : Program} {w : World} {K : PySem.W.Frag} {mg : Str → Option Value} {base : Heap} {A : Ad}
abbrev s_law_sorted : Stmt := topS 25
abbrev N_law_sorted : List Str := ["words", "pairs", "told", "pair", "word"]
theorem sc_law_sorted : FnScope N_law_sorted ["words"] (defScope s_law_sorted) := ⟨rfl, rfl, rfl, by decide +kernel, rfl, by decide +kernel, by decide +kernel⟩
set_option maxHeartbeats 4000000 in
theorem ok_law_sorted (T : Tx K mg A)  {fd : FuncData} (F : Fun K "_law_sorted" "_law_sorted" s_law_sorted A.law_sorted fd) : FnOk P w K mg base (L2.CX P w) 1 A.law_sorted fd ["words"] (sp_law_sorted K) := by
  refine F.okX sc_law_sorted (fun us H Q E ⟨words, hpre, h⟩ => h.len) (fun cdv A_ outer s_ H us Q E hr ⟨words, hpre, h⟩ => ?_)
  refine ⟨_, (pss_cons (ps_set (i := 1) sc_law_sorted.nd rfl (by first | exact Or.inl rfl | exact Or.inr rfl) (pe_callB (cr_sortedPr hr.units) (by rfl) T.m_sorted bb_sorted (pa_cons (pe_lc (own := [("word", 4)]) (g := gName 4) (tt := tYes) rfl sc_law_sorted.nd (pi_list (pv 0)) (blkOk_by (N := N_law_sorted) (sc := defScope s_law_sorted) (by decide +kernel)) (fun _ _ _ _ _ => (pg_name (i := 4) sc_law_sorted.nd rfl (by first | exact Or.inl rfl | exact Or.inr rfl))) (fun _ _ _ _ _ => pts_nil) (fun _ _ _ _ _ => (pe_tup (pa_cons (pe_callB cr_lenT (by rfl) T.m_len bb_len (pa_cons (pv 4) pa_nil)) (pa_cons (pv 4) pa_nil))))) pa_nil))) (pss_cons (ps_set (i := 2) sc_law_sorted.nd rfl (by first | exact Or.inl rfl | exact Or.inr rfl) (pe_lst pa_nil)) (pss_cons (ps_for (passes_of rfl) rfl (pi_list (pv 1)) (pg_name (i := 3) sc_law_sorted.nd rfl (by first | exact Or.inl rfl | exact Or.inr rfl)) (pss_one (ps_if (PW.pt (pw_or (pt_cmpR op_eq (pe_callB cr_lenQ (by rfl) T.m_len bb_len (pa_cons (pv 2) pa_nil)) pe_int (nomark _)) (pw_or1 (pt_cmpR op_ne (pe_ix ix_list (pv 2) (pe_un un_neg pe_int) (fun _ _ => rfl)) (pe_ix ix_tup (pv 3) pe_int (fun _ _ => rfl)) (nomark _))))) (pss_one (ps_expr (pe_bm PySem.F.plainAttrs_list PySem.F.slot_list_append PySem.F.type_list_append mt_append (pv 2) (pa_cons (pe_ix ix_tup (pv 3) pe_int (fun _ _ => rfl)) pa_nil)))) pss_nil))) (pss_one (ps_ret (pv 2)))))), ?_⟩
  refine Call.body (sl := [va words, none, none, none, none]) h rfl fun G0_ H0_ => ?_
  have hpre_ := hpre; unfold pre_law_sorted at hpre_
  show Do _ _ ⟨[va words, none, none, none, none], []⟩ _
  refine do_seq (do_asg (i := 1) (evl_val (evl_sortedP (ea_consD (evl_val (evl_lcM (h := fun (word : Str) => (((word).length : Int), word)) (ei_list (ev_var (i := 0) rfl)) eg_name (by simp) (by walk_at "fsc") (fun pre_ word post_ hs_ dc_ => (ev_pair (ea_consD (ev_cbD (ea_consD (ev_var (i := 4) rfl) ea_nil) (rc_lenT (by have h1 := hpre_.2 word (by rw [hs_]; simp); omega))) (ea_consD (ev_var (i := 4) rfl) ea_nil)))))) ea_nil) (by walk_at "fsc"))) fun (pairs : (List (Int × Str))) h_pairs => ?_)
  show Do _ _ ⟨[va words, va pairs, none, none, none], []⟩ _
  refine do_seq (do_asgL (i := 2) (evl_lstD (xs := ([] : List Str)) ea_nil (by simp)) fun a_told told h_told => ?_)
  show Do _ _ ⟨[va words, va pairs, va (Adr.mk a_told), none, none], [(a_told, ownL told)]⟩ _
  refine do_seq (do_forW (ei_list (ev_var (i := 1) rfl)) eg_name (fun (pre : List (Int × Str)) e_ => ∃ (t : List Str), (SrtI pre t) ∧ e_ = ⟨[va words, va pairs, va (Adr.mk a_told), none, none], [(a_told, ownL t)]⟩) ?_ ?_ ?_)
  ·
    refine ⟨⟨[va words, va pairs, va (Adr.mk a_told), none, none], [(a_told, ownL _)]⟩, ⟨⟨Or.inr rfl, ⟨Or.inr rfl, ⟨Or.inr rfl, ⟨Or.inl rfl, ⟨Or.inl rfl, trivial⟩⟩⟩⟩⟩, rfl⟩, _, ?_, rfl⟩
    · -- vc 0
      rw [h_told]; exact srtI_nil
  ·
    rintro pre x post e_ hsplit ⟨t, hI, rfl⟩
    have hlen_hsplit := congrArg List.length hsplit; simp only [List.length_append, List.length_cons, List.length_nil, List.length_map, signs_len, rngI_len, enumI_len, keysD_len] at hlen_hsplit
    show Do _ _ ⟨[va words, va pairs, va (Adr.mk a_told), va x, none], [(a_told, ownL t)]⟩ _
    refine do_ifD (et_orD (et_test (ev_opD (ev_cbD (ea_consD (ev_var (i := 2) rfl) ea_nil) (rc_lenO (k := 0) rfl)) ev_int r2_eqI)) (fun hb => (et_test (ev_opD (ev_opD (ev_var (i := 2) rfl) (ev_neg ev_int) (r2_ixOn (j := 0) (d := dS) rfl (by walk_at "fsc"))) (ev_opD (ev_var (i := 3) rfl) ev_int (r2_snd rfl)) r2_neS)))) (fun h_if => ?_) (fun h_if => ?_)
    ·
      refine do_append (k := 0) rfl (ev_var (i := 2) rfl) (ev_opD (ev_var (i := 3) rfl) ev_int (r2_snd rfl)) (by have h1 := srtI_len hI; have h2 : pairs.length = words.length := (by rw [h_pairs]; simp [sortP]); omega) fun (y : Str) h_y => ?_
      refine ⟨⟨[va words, va pairs, va (Adr.mk a_told), none, none], [(a_told, ownL _)]⟩, ⟨⟨Or.inr rfl, ⟨Or.inr rfl, ⟨Or.inr rfl, ⟨Or.inl rfl, ⟨Or.inl rfl, trivial⟩⟩⟩⟩⟩, rfl⟩, _, ?_, rfl⟩
      · -- vc 1
        exact srtI_yes (by rw [← hsplit, h_pairs]) hI h_y h_if
    ·
      refine do_next ?_
      refine ⟨⟨[va words, va pairs, va (Adr.mk a_told), none, none], [(a_told, ownL _)]⟩, ⟨⟨Or.inr rfl, ⟨Or.inr rfl, ⟨Or.inr rfl, ⟨Or.inl rfl, ⟨Or.inl rfl, trivial⟩⟩⟩⟩⟩, rfl⟩, _, ?_, rfl⟩
      · -- vc 2
        exact srtI_no hI h_if
  ·
    rintro e_ ⟨t, hI, rfl⟩
    show Do _ _ ⟨[va words, va pairs, va (Adr.mk a_told), none, none], [(a_told, ownL t)]⟩ _
    refine do_freeze (k := 0) (j := 2) rfl rfl ?_
    show Do _ _ ⟨[va words, va pairs, va t, none, none], []⟩ _
    refine do_ret (ev_var (i := 2) rfl) fun z h_ret => ?_
    refine ⟨_, .slnil, rfl, ?_⟩
    · -- vc 3
      subst h_ret; rw [h_pairs] at hI; exact srtI_end hI

end
end L03

namespace L03
open PySem L2 Fw
local macro_rules | `(tactic| walk_at "fsc") => `(tactic| first | omega | assumption | trivial | exact sgn_split (by assumption) | exact sgn_split2 (by assumption) | (intros; omega) | (with_reducible exact emod_both (by omega)) | (simp only [Bool.not_eq_true', Bool.not_eq_false', decide_eq_true_eq, decide_eq_false_iff_not, Bool.or_eq_false_iff, Bool.and_eq_true, List.length_cons, List.length_nil, List.length_append, List.length_cons, List.length_nil, List.length_map, signs_len, rngI_len, enumI_len, keysD_len, pre_check_letters, post_check_letters, pre_check_word, post_check_word, pre_in_order, post_in_order, pre_words_to, post_words_to, pre_rank, post_rank, pre_word_at, post_word_at, pre_scattered_words, post_scattered_words, pre_windows, post_windows, pre_class_of, post_class_of, pre_law_start, pre_law_next, post_law_next, pre_law_integer, post_law_integer, pre_law_exact, post_law_exact, pre_law_rank, post_law_rank, pre_law_word_at, post_law_word_at, pre_law_strings, post_law_strings, pre_law_sorted, post_law_sorted, pre_law_all_words, post_law_all_words, pre_law_parts, post_law_parts, pre_law_class, post_law_class, pre_law_bad_letters, post_law_bad_letters, pre_law_bad_word, post_law_bad_word, pre_law_refused, post_law_refused, pre_law_small_parts, post_law_small_parts, pre_law, post_law] at *; first | omega | assumption | (refine ⟨?_, ?_⟩ <;> first | omega | assumption) | (refine ⟨?_, ?_, ?_⟩ <;> first | omega | assumption)) | (have hl_ := congrArg List.length hs_; simp only [List.length_append, List.length_cons, List.length_nil, List.length_map, signs_len, rngI_len, enumI_len, keysD_len] at hl_; omega) | (have hr_ := rng_split hs_; omega))
local macro_rules | `(tactic| walk_at "fvc") => `(tactic| first | rfl | trivial | assumption | omega)
local macro_rules | `(tactic| walk_at "fxp") => `(tactic| first | exact hx_ | assumption)
local macro_rules | `(tactic| walk_at "frs") => `(tactic| first | assumption)

section
variable {P : Program} {w : World} {K : PySem.W.Frag} {mg : Str → Option Value} {base : Heap} {A : Ad}
abbrev s_law_start : Stmt := topS 18
abbrev N_law_start : List Str := ["script", "cells", "cell"]
theorem sc_law_start : FnScope N_law_start ["script"] (defScope s_law_start) := ⟨rfl, rfl, rfl, by decide +kernel, rfl, by decide +kernel, by decide +kernel⟩
set_option maxHeartbeats 4000000 in
theorem ok_law_start (T : Tx K mg A)  {fd : FuncData} (F : Fun K "_law_start" "_law_start" s_law_start A.law_start fd) : FnOk P w K mg base (L2.CX P w) 1 A.law_start fd ["script"] (sp_law_start K) := by
  refine F.okX sc_law_start (fun us H Q E ⟨script, hpre, h⟩ => h.len) (fun cdv A_ outer s_ H us Q E hr ⟨script, hpre, h⟩ => ?_)
  refine ⟨_, (pss_cons (ps_setLc (i := 1) (own := [("cell", 2)]) (g := gName 2) (tt := tYes) rfl sc_law_start.nd rfl rfl (sw_true rfl rfl rfl (by decide +kernel)) (pi_list (pv 0)) (blkOk_by (N := N_law_start) (sc := defScope s_law_start) (by decide +kernel)) (fun _ _ _ _ _ => (pg_name (i := 2) sc_law_start.nd rfl (by first | exact Or.inl rfl | exact Or.inr rfl))) (fun _ _ _ _ _ => pts_nil) (fun _ _ _ _ _ => (pe_callB cr_abs (by rfl) T.m_abs bb_abs (pa_cons (pv 2) pa_nil)))) (pss_cons (ps_if (pt_cmpR op_eq (pe_callB cr_lenQ (by rfl) T.m_len bb_len (pa_cons (pv 1) pa_nil)) pe_int (nomark _)) (pss_one (ps_set (i := 1) sc_law_start.nd rfl (by first | exact Or.inl rfl | exact Or.inr rfl) (pe_lst (pa_cons pe_int pa_nil)))) pss_nil) (pss_one (ps_ret (pe_lst (pa_cons (pv 1) (pa_cons pe_int (pa_cons pe_int (pa_cons pe_int pa_nil))))))))), ?_⟩
  refine Call.body (sl := [va script, none, none]) h rfl fun G0_ H0_ => ?_
  have hpre_ := hpre; unfold pre_law_start at hpre_
  show Do _ _ ⟨[va script, none, none], []⟩ _
  refine do_seq (do_asg (i := 1) (evl_val (evl_lcM (h := fun (cell : Int) => (if cell < 0 then -cell else cell)) (ei_scr (ev_var (i := 0) rfl)) eg_name (by simp) (by walk_at "fsc") (fun pre_ cell post_ hs_ dc_ => (ev_cbD (ea_consD (ev_var (i := 2) rfl) ea_nil) rc_abs)))) fun (cells : (List Int)) h_cells => ?_)
  show Do _ _ ⟨[va script, va cells, none], []⟩ _
  refine do_seq (do_ifD (et_test (ev_opD (ev_cbD (ea_consD (ev_var (i := 1) rfl) ea_nil) rc_lenL) ev_int r2_eqI)) (fun h_if => ?_) (fun h_if => ?_))
  ·
    refine do_asg (i := 1) (evl_val (evl_lstD (xs := ([(0 : Int)] : List Int)) (ea_consD ev_int ea_nil) (by simp))) fun (cells1 : (List Int)) h_cells1 => ?_
    show Do _ _ ⟨[va script, va cells1, none], []⟩ _
    refine do_retS (c' := stC true) (ea_consD (ev_var (i := 1) rfl) (ea_consD ev_int (ea_consD ev_int (ea_consD ev_int ea_nil)))) (by simp) rfl ?_ fun p_ => ⟨_, .cons₂ _ .slnil, rfl⟩
    · -- vc 0
      exact fun K G o h => stC_of (by rw [h_cells1]; simp) (by rw [h_cells1]; simp) h
  ·
    refine do_next ?_
    show Do _ _ ⟨[va script, va cells, none], []⟩ _
    refine do_retS (c' := stC true) (ea_consD (ev_var (i := 1) rfl) (ea_consD ev_int (ea_consD ev_int (ea_consD ev_int ea_nil)))) (by simp) rfl ?_ fun p_ => ⟨_, .cons₂ _ .slnil, rfl⟩
    · -- vc 1
      exact fun K G o h => stC_of (by intro z; rw [z] at h_if; simp at h_if) (by rw [h_cells, List.length_map]; omega) h

end
end L03

namespace L03
open PySem L2 Fw
local macro_rules | `(tactic| walk_at "fsc") => `(tactic| first | omega | assumption | trivial | exact sgn_split (by assumption) | exact sgn_split2 (by assumption) | (intros; omega) | (with_reducible exact emod_both (by omega)) | (simp only [Bool.not_eq_true', Bool.not_eq_false', decide_eq_true_eq, decide_eq_false_iff_not, Bool.or_eq_false_iff, Bool.and_eq_true, List.length_cons, List.length_nil, List.length_append, List.length_cons, List.length_nil, List.length_map, signs_len, rngI_len, enumI_len, keysD_len, pre_check_letters, post_check_letters, pre_check_word, post_check_word, pre_in_order, post_in_order, pre_words_to, post_words_to, pre_rank, post_rank, pre_word_at, post_word_at, pre_scattered_words, post_scattered_words, pre_windows, post_windows, pre_class_of, post_class_of, pre_law_start, pre_law_next, post_law_next, pre_law_integer, post_law_integer, pre_law_exact, post_law_exact, pre_law_rank, post_law_rank, pre_law_word_at, post_law_word_at, pre_law_strings, post_law_strings, pre_law_sorted, post_law_sorted, pre_law_all_words, post_law_all_words, pre_law_parts, post_law_parts, pre_law_class, post_law_class, pre_law_bad_letters, post_law_bad_letters, pre_law_bad_word, post_law_bad_word, pre_law_refused, post_law_refused, pre_law_small_parts, post_law_small_parts, pre_law, post_law] at *; first | omega | assumption | (refine ⟨?_, ?_⟩ <;> first | omega | assumption) | (refine ⟨?_, ?_, ?_⟩ <;> first | omega | assumption)) | (have hl_ := congrArg List.length hs_; simp only [List.length_append, List.length_cons, List.length_nil, List.length_map, signs_len, rngI_len, enumI_len, keysD_len] at hl_; omega) | (have hr_ := rng_split hs_; omega))
local macro_rules | `(tactic| walk_at "fvc") => `(tactic| first | rfl | trivial | assumption | omega)
local macro_rules | `(tactic| walk_at "fxp") => `(tactic| first | exact hx_ | assumption)
local macro_rules | `(tactic| walk_at "frs") => `(tactic| first | assumption)

section
variable {P : Program} {w : World} {K : PySem.W.Frag} {mg : Str → Option Value} {base : Heap} {A : Ad}
abbrev s_law_strings : Stmt := topS 24
abbrev N_law_strings : List Str := ["actual", "due", "k"]
theorem sc_law_strings : FnScope N_law_strings ["actual", "due"] (defScope s_law_strings) := ⟨rfl, rfl, rfl, by decide +kernel, rfl, by decide +kernel, by decide +kernel⟩
set_option maxHeartbeats 4000000 in
theorem ok_law_strings (T : Tx K mg A)  {fd : FuncData} (F : Fun K "_law_strings" "_law_strings" s_law_strings A.law_strings fd) : FnOk P w K mg base (L2.CX P w) 1 A.law_strings fd ["actual", "due"] (sp_law_strings K) := by
  refine F.okX sc_law_strings (fun us H Q E ⟨actual, due, hpre, h⟩ => h.len) (fun cdv A_ outer s_ H us Q E hr ⟨actual, due, hpre, h⟩ => ?_)
  refine ⟨_, (pss_cons (ps_if (PW.pt (pw_or (pt_not (pt_val (pe_callB call_isi (by rfl) T.m_isinstance bb_isinstance (pa_cons (pv 0) (pa_cons (pe_bltn (v := .ty "list") (by rfl) T.m_list bb_list rfl) pa_nil))))) (pw_or1 (pt_cmpR op_ne (pe_callB cr_lenQ (by rfl) T.m_len bb_len (pa_cons (pv 0) pa_nil)) (pe_callB cr_lenQ (by rfl) T.m_len bb_len (pa_cons (pv 1) pa_nil)) (nomark _))))) (pss_one (ps_ret pe_bl)) pss_nil) (pss_cons (ps_for (passes_of rfl) rfl (pi_range1 (by rfl) T.m_range (pa_cons (pe_callB cr_lenQ (by rfl) T.m_len bb_len (pa_cons (pv 1) pa_nil)) pa_nil)) (pg_name (i := 2) sc_law_strings.nd rfl (by first | exact Or.inl rfl | exact Or.inr rfl)) (pss_one (ps_if (PW.pt (pw_or (pt_not (pt_val (pe_callB call_isi (by rfl) T.m_isinstance bb_isinstance (pa_cons (pe_ix ix_list (pv 0) (pv 2) (fun _ _ => rfl)) (pa_cons (pe_bltn (v := .ty "str") (by rfl) T.m_str bb_str rfl) pa_nil))))) (pw_or1 (pt_cmpR op_ne (pe_ix ix_list (pv 0) (pv 2) (fun _ _ => rfl)) (pe_ix ix_list (pv 1) (pv 2) (fun _ _ => rfl)) (nomark _))))) (pss_one (ps_ret pe_bl)) pss_nil))) (pss_one (ps_ret pe_bl)))), ?_⟩
  refine Call.body (sl := [va actual, va due, none]) h rfl fun G0_ H0_ => ?_
  have hpre_ := hpre; unfold pre_law_strings at hpre_
  show Do _ _ ⟨[va actual, va due, none], []⟩ _
  refine do_seq (do_ifD (et_orD (et_notD (et_B (isi_L (c := "list") (b := true) (ev_var (i := 0) rfl) (by decide +kernel)))) (fun hb => (et_test (ev_opD (ev_cbD (ea_consD (ev_var (i := 0) rfl) ea_nil) rc_lenL) (ev_cbD (ea_consD (ev_var (i := 1) rfl) ea_nil) rc_lenL) r2_neI)))) (fun h_if => ?_) (fun h_if => ?_))
  ·
    refine do_ret ev_bl fun z h_ret => ?_
    refine ⟨_, .slnil, rfl, ?_⟩
    · -- vc 0
      rw [hpre_.1] at h_if; simp at h_if
  ·
    refine do_next ?_
    show Do _ _ ⟨[va actual, va due, none], []⟩ _
    refine do_seq (do_forW (ei_rng1 (ea_consD (ev_cbD (ea_consD (ev_var (i := 1) rfl) ea_nil) rc_lenL) ea_nil) (by walk_at "fsc") (by walk_at "fsc")) eg_name (fun (pre : List Int) e_ => e_ = ⟨[va actual, va due, none], []⟩) ?_ ?_ ?_)
    ·
      refine ⟨⟨[va actual, va due, none], []⟩, ⟨⟨Or.inr rfl, ⟨Or.inr rfl, ⟨Or.inl rfl, trivial⟩⟩⟩, rfl⟩, rfl⟩
    ·
      rintro pre x post e_ hsplit rfl
      have hlen_hsplit := congrArg List.length hsplit; simp only [List.length_append, List.length_cons, List.length_nil, List.length_map, signs_len, rngI_len, enumI_len, keysD_len] at hlen_hsplit
      have hrng_hsplit := rng_split hsplit
      show Do _ _ ⟨[va actual, va due, va x], []⟩ _
      refine do_ifD (et_orD (et_notD (et_B (isi_F (ty := "str") (c := "str") (b := true) (ev_opD (ev_var (i := 0) rfl) (ev_var (i := 2) rfl) (r2_ixLp (d := dS) (by walk_at "fsc"))) (fun _ => TyOf.str _) (by decide +kernel)))) (fun hb2 => (et_test (ev_opD (ev_opD (ev_var (i := 0) rfl) (ev_var (i := 2) rfl) (r2_ixLp (d := dS) (by walk_at "fsc"))) (ev_opD (ev_var (i := 1) rfl) (ev_var (i := 2) rfl) (r2_ixLp (d := dS) (by walk_at "fsc"))) r2_neS)))) (fun h_if1 => ?_) (fun h_if1 => ?_)
      ·
        refine do_ret ev_bl fun z h_ret => ?_
        refine ⟨_, .slnil, rfl, ?_⟩
        · -- vc 1
          rw [hpre_.1] at h_if1; simp at h_if1
      ·
        refine do_next ?_
        refine ⟨⟨[va actual, va due, none], []⟩, ⟨⟨Or.inr rfl, ⟨Or.inr rfl, ⟨Or.inl rfl, trivial⟩⟩⟩, rfl⟩, rfl⟩
    ·
      rintro e_ rfl
      show Do _ _ ⟨[va actual, va due, none], []⟩ _
      refine do_ret ev_bl fun z h_ret => ?_
      refine ⟨_, .slnil, rfl, ?_⟩
      · walk_at "fvc"

end
end L03

namespace L03
open PySem L2 Fw
local macro_rules | `(tactic| walk_at "fsc") => `(tactic| first | omega | assumption | trivial | exact sgn_split (by assumption) | exact sgn_split2 (by assumption) | (intros; omega) | (with_reducible exact emod_both (by omega)) | (simp only [Bool.not_eq_true', Bool.not_eq_false', decide_eq_true_eq, decide_eq_false_iff_not, Bool.or_eq_false_iff, Bool.and_eq_true, List.length_cons, List.length_nil, List.length_append, List.length_cons, List.length_nil, List.length_map, signs_len, rngI_len, enumI_len, keysD_len, pre_check_letters, post_check_letters, pre_check_word, post_check_word, pre_in_order, post_in_order, pre_words_to, post_words_to, pre_rank, post_rank, pre_word_at, post_word_at, pre_scattered_words, post_scattered_words, pre_windows, post_windows, pre_class_of, post_class_of, pre_law_start, pre_law_next, post_law_next, pre_law_integer, post_law_integer, pre_law_exact, post_law_exact, pre_law_rank, post_law_rank, pre_law_word_at, post_law_word_at, pre_law_strings, post_law_strings, pre_law_sorted, post_law_sorted, pre_law_all_words, post_law_all_words, pre_law_parts, post_law_parts, pre_law_class, post_law_class, pre_law_bad_letters, post_law_bad_letters, pre_law_bad_word, post_law_bad_word, pre_law_refused, post_law_refused, pre_law_small_parts, post_law_small_parts, pre_law, post_law] at *; first | omega | assumption | (refine ⟨?_, ?_⟩ <;> first | omega | assumption) | (refine ⟨?_, ?_, ?_⟩ <;> first | omega | assumption)) | (have hl_ := congrArg List.length hs_; simp only [List.length_append, List.length_cons, List.length_nil, List.length_map, signs_len, rngI_len, enumI_len, keysD_len] at hl_; omega) | (have hr_ := rng_split hs_; omega))
local macro_rules | `(tactic| walk_at "fvc") => `(tactic| first | rfl | trivial | assumption | omega)
local macro_rules | `(tactic| walk_at "fxp") => `(tactic| first | exact hx_ | assumption)
local macro_rules | `(tactic| walk_at "frs") => `(tactic| first | assumption)

section
variable {P : Program} {w : World} {K : PySem.W.Frag} {mg : Str → Option Value} {base : Heap} {A : Ad}
abbrev s_law_word_at : Stmt := topS 23
abbrev N_law_word_at : List Str := ["letters", "number", "length", "power", "k", "word"]
theorem sc_law_word_at : FnScope N_law_word_at ["letters", "number"] (defScope s_law_word_at) := ⟨rfl, rfl, rfl, by decide +kernel, rfl, by decide +kernel, by decide +kernel⟩
set_option maxHeartbeats 4000000 in
theorem ok_law_word_at (T : Tx K mg A)  {fd : FuncData} (F : Fun K "_law_word_at" "_law_word_at" s_law_word_at A.law_word_at fd) : FnOk P w K mg base (L2.CX P w) 1 A.law_word_at fd ["letters", "number"] (sp_law_word_at K) := by
  refine F.okX sc_law_word_at (fun us H Q E ⟨letters, number, hpre, h⟩ => h.len) (fun cdv A_ outer s_ H us Q E hr ⟨letters, number, hpre, h⟩ => ?_)
  refine ⟨_, (pss_cons (ps_set (i := 2) sc_law_word_at.nd rfl (by first | exact Or.inl rfl | exact Or.inr rfl) pe_int) (pss_cons (ps_set (i := 3) sc_law_word_at.nd rfl (by first | exact Or.inl rfl | exact Or.inr rfl) pe_int) (pss_cons (ps_for (passes_of rfl) rfl (pi_range1 (by rfl) T.m_range (pa_cons pe_int pa_nil)) (pg_name (i := 4) sc_law_word_at.nd rfl (by first | exact Or.inl rfl | exact Or.inr rfl)) (pss_one (ps_if (pt_cmpR op_ge (pv 1) (pv 3) (nomark _)) (pss_cons (ps_set (i := 1) sc_law_word_at.nd rfl (by first | exact Or.inl rfl | exact Or.inr rfl) (pe_op op_sub (pv 1) (pv 3))) (pss_cons (ps_set (i := 3) sc_law_word_at.nd rfl (by first | exact Or.inl rfl | exact Or.inr rfl) (pe_op op_mul (pv 3) (pe_callB cr_lenT (by rfl) T.m_len bb_len (pa_cons (pv 0) pa_nil)))) (pss_one (ps_set (i := 2) sc_law_word_at.nd rfl (by first | exact Or.inl rfl | exact Or.inr rfl) (pe_op op_add (pv 2) pe_int))))) (pss_one ps_break)))) (pss_cons (ps_set (i := 5) sc_law_word_at.nd rfl (by first | exact Or.inl rfl | exact Or.inr rfl) pe_str) (pss_cons (ps_for (passes_of rfl) rfl (pi_range1 (by rfl) T.m_range (pa_cons (pv 2) pa_nil)) (pg_name (i := 4) sc_law_word_at.nd rfl (by first | exact Or.inl rfl | exact Or.inr rfl)) (pss_cons (ps_set (i := 5) sc_law_word_at.nd rfl (by first | exact Or.inl rfl | exact Or.inr rfl) (pe_op op_addS (pe_ix ix_str (pv 0) (pe_op op_mod (pe_callTy cr_int1 (by rfl) T.m_int bb_int (pa_cons (pv 1) pa_nil)) (pe_callB cr_lenT (by rfl) T.m_len bb_len (pa_cons (pv 0) pa_nil))) (fun _ _ => rfl)) (pv 5))) (pss_one (ps_set (i := 1) sc_law_word_at.nd rfl (by first | exact Or.inl rfl | exact Or.inr rfl) (pe_op op_fdiv (pe_callTy cr_int1 (by rfl) T.m_int bb_int (pa_cons (pv 1) pa_nil)) (pe_callB cr_lenT (by rfl) T.m_len bb_len (pa_cons (pv 0) pa_nil))))))) (pss_one (ps_ret (pv 5)))))))), ?_⟩
  refine Call.body (sl := [va letters, va number, none, none, none, none]) h rfl fun G0_ H0_ => ?_
  have hpre_ := hpre; unfold pre_law_word_at at hpre_
  show Do _ _ ⟨[va letters, va number, none, none, none, none], []⟩ _
  refine do_seq (do_asg (i := 2) ev_int fun (length : Int) h_length => ?_)
  show Do _ _ ⟨[va letters, va number, va length, none, none, none], []⟩ _
  refine do_seq (do_asg (i := 3) ev_int fun (power : Int) h_power => ?_)
  show Do _ _ ⟨[va letters, va number, va length, va power, none, none], []⟩ _
  refine do_seq (do_forW (ei_rng1 (ea_consD ev_int ea_nil) (by walk_at "fsc") (by walk_at "fsc")) eg_name (fun (pre : List Int) e_ => ∃ (n : Int) (ln : Int) (pw : Int), (LwI letters number pre.length n ln pw) ∧ e_ = ⟨[va letters, va n, va ln, va pw, none, none], []⟩) ?_ ?_ ?_)
  ·
    refine ⟨⟨[va letters, va _, va _, va _, none, none], []⟩, ⟨⟨Or.inr rfl, ⟨Or.inr rfl, ⟨Or.inr rfl, ⟨Or.inr rfl, ⟨Or.inl rfl, ⟨Or.inl rfl, trivial⟩⟩⟩⟩⟩⟩, rfl⟩, _, _, _, ?_, rfl⟩
    · -- vc 0
      rw [h_length, h_power]; exact lwI_nil hpre_.2.1
  ·
    rintro pre x post e_ hsplit ⟨n, ln, pw, hI, rfl⟩
    have hlen_hsplit := congrArg List.length hsplit; simp only [List.length_append, List.length_cons, List.length_nil, List.length_map, signs_len, rngI_len, enumI_len, keysD_len] at hlen_hsplit
    have hrng_hsplit := rng_split hsplit
    show Do _ _ ⟨[va letters, va n, va ln, va pw, va x, none], []⟩ _
    refine do_ifD (et_test (ev_opD (ev_var (i := 1) rfl) (ev_var (i := 3) rfl) r2_ge)) (fun h_if => ?_) (fun h_if => ?_)
    ·
      refine do_seq (do_asg (i := 1) (ev_opD (ev_var (i := 1) rfl) (ev_var (i := 3) rfl) r2_sub) fun (number1 : Int) h_number1 => ?_)
      show Do _ _ ⟨[va letters, va number1, va ln, va pw, va x, none], []⟩ _
      refine do_seq (do_asg (i := 3) (ev_opD (ev_var (i := 3) rfl) (ev_cbD (ea_consD (ev_var (i := 0) rfl) ea_nil) (rc_lenT (by have h1 := hpre_.1.1; have h2 := hpre_.1.2.1; omega))) (r2_mul (by have h1 := hpre_.1.1; have h2 := hpre_.1.2.1; exact .inr (by omega)))) fun (power1 : Int) h_power1 => ?_)
      show Do _ _ ⟨[va letters, va number1, va ln, va power1, va x, none], []⟩ _
      refine do_asg (i := 2) (ev_opD (ev_var (i := 2) rfl) ev_int r2_add) fun (length1 : Int) h_length1 => ?_
      refine ⟨⟨[va letters, va _, va _, va _, none, none], []⟩, ⟨⟨Or.inr rfl, ⟨Or.inr rfl, ⟨Or.inr rfl, ⟨Or.inr rfl, ⟨Or.inl rfl, ⟨Or.inl rfl, trivial⟩⟩⟩⟩⟩⟩, rfl⟩, _, _, _, ?_, rfl⟩
      · -- vc 1
        rw [List.length_append, List.length_singleton]; exact lwI_step hI h_if h_number1 h_power1 h_length1
    ·
      refine do_break ?_
      show Do _ _ ⟨[va letters, va n, va ln, va pw, va x, none], []⟩ _
      refine do_seq (do_asg (i := 5) ev_str fun (word : Str) h_word => ?_)
      show Do _ _ ⟨[va letters, va n, va ln, va pw, va x, va word], []⟩ _
      refine do_seq (do_forW (ei_rng1 (ea_consD (ev_var (i := 2) rfl) ea_nil) (by have h1 := hI.1; have h2 := hrng_hsplit.2; omega) (by have h1 := hI.1; have h2 := hrng_hsplit.2; omega)) eg_name (fun (pre2 : List Int) e_ => ∃ (w : Str) (m : Int), (LwJ letters number pre2.length ln m w) ∧ e_ = ⟨[va letters, va m, va ln, va pw, none, va w], []⟩) ?_ ?_ ?_)
      ·
        refine ⟨⟨[va letters, va _, va ln, va pw, none, va _], []⟩, ⟨⟨Or.inr rfl, ⟨Or.inr rfl, ⟨Or.inr rfl, ⟨Or.inr rfl, ⟨Or.inl rfl, ⟨Or.inr rfl, trivial⟩⟩⟩⟩⟩⟩, rfl⟩, _, _, ?_, rfl⟩
        · -- vc 2
          exact lwJ_nil (lwE_of hI h_if) h_word
      ·
        rintro pre2 y post2 e_ hsplit2 ⟨w, m, hJ, rfl⟩
        have hlen_hsplit2 := congrArg List.length hsplit2; simp only [List.length_append, List.length_cons, List.length_nil, List.length_map, signs_len, rngI_len, enumI_len, keysD_len] at hlen_hsplit2
        have hrng_hsplit2 := rng_split hsplit2
        show Do _ _ ⟨[va letters, va m, va ln, va pw, va y, va w], []⟩ _
        refine do_seq (do_asg (i := 5) (ev_opD (ev_opD (ev_var (i := 0) rfl) (ev_opD (ev_cbD (ea_consD (ev_var (i := 1) rfl) ea_nil) rc_int1) (ev_cbD (ea_consD (ev_var (i := 0) rfl) ea_nil) (rc_lenT (by have h1 := hpre_.1.1; have h2 := hpre_.1.2.1; omega))) (r2_mod (by have h1 := hpre_.1.1; have h2 := hpre_.1.2.1; omega))) (r2_ixSp (by have h1 := hpre_.1.1; have h2 := hpre_.1.2.1; omega) (by have h1 := hpre_.1.1; exact emod_both (by omega)))) (ev_var (i := 5) rfl) (r2_addS (by have h1 := hJ.2.2.2.1; have h2 := hrng_hsplit2.2; have h3 := hI.1; have h4 := hrng_hsplit.2; rw [sgnAt_len]; omega))) fun (word1 : Str) h_word1 => ?_)
        show Do _ _ ⟨[va letters, va m, va ln, va pw, va y, va word1], []⟩ _
        refine do_asg (i := 1) (ev_opD (ev_cbD (ea_consD (ev_var (i := 1) rfl) ea_nil) rc_int1) (ev_cbD (ea_consD (ev_var (i := 0) rfl) ea_nil) (rc_lenT (by have h1 := hpre_.1.1; have h2 := hpre_.1.2.1; omega))) (r2_fdiv (by have h1 := hpre_.1.1; have h2 := hpre_.1.2.1; omega))) fun (number2 : Int) h_number2 => ?_
        refine ⟨⟨[va letters, va _, va ln, va pw, none, va _], []⟩, ⟨⟨Or.inr rfl, ⟨Or.inr rfl, ⟨Or.inr rfl, ⟨Or.inr rfl, ⟨Or.inl rfl, ⟨Or.inr rfl, trivial⟩⟩⟩⟩⟩⟩, rfl⟩, _, _, ?_, rfl⟩
        · -- vc 3
          rw [List.length_append, List.length_singleton]; exact lwJ_step hpre_.1 hJ (by have h1 := hrng_hsplit2.2; omega) h_word1 h_number2
      ·
        rintro e_ ⟨w, m, hJ, rfl⟩
        show Do _ _ ⟨[va letters, va m, va ln, va pw, none, va w], []⟩ _
        refine do_ret (ev_var (i := 5) rfl) fun z h_ret => ?_
        refine ⟨_, .slnil, rfl, ?_⟩
        · -- vc 4
          subst h_ret; exact lwJ_end hJ (.inr rngI_len)
  ·
    rintro e_ ⟨n, ln, pw, hI, rfl⟩
    show Do _ _ ⟨[va letters, va n, va ln, va pw, none, none], []⟩ _
    refine do_seq (do_asg (i := 5) ev_str fun (word2 : Str) h_word2 => ?_)
    show Do _ _ ⟨[va letters, va n, va ln, va pw, none, va word2], []⟩ _
    refine do_seq (do_forW (ei_rng1 (ea_consD (ev_var (i := 2) rfl) ea_nil) (by exfalso; rw [rngI_len] at hI; exact lw_over hpre_.1 hpre_.2.2 hI) (by exfalso; rw [rngI_len] at hI; exact lw_over hpre_.1 hpre_.2.2 hI)) eg_name (fun (pre2 : List Int) e_ => ∃ (w : Str) (m : Int), (LwJ letters number pre2.length ln m w) ∧ e_ = ⟨[va letters, va m, va ln, va pw, none, va w], []⟩) ?_ ?_ ?_)
    ·
      refine ⟨⟨[va letters, va _, va ln, va pw, none, va _], []⟩, ⟨⟨Or.inr rfl, ⟨Or.inr rfl, ⟨Or.inr rfl, ⟨Or.inr rfl, ⟨Or.inl rfl, ⟨Or.inr rfl, trivial⟩⟩⟩⟩⟩⟩, rfl⟩, _, _, ?_, rfl⟩
      · -- vc 5
        exfalso; rw [rngI_len] at hI; exact lw_over hpre_.1 hpre_.2.2 hI
    ·
      rintro pre2 y post2 e_ hsplit2 ⟨w, m, hJ, rfl⟩
      have hlen_hsplit2 := congrArg List.length hsplit2; simp only [List.length_append, List.length_cons, List.length_nil, List.length_map, signs_len, rngI_len, enumI_len, keysD_len] at hlen_hsplit2
      have hrng_hsplit2 := rng_split hsplit2
      show Do _ _ ⟨[va letters, va m, va ln, va pw, va y, va w], []⟩ _
      refine do_seq (do_asg (i := 5) (ev_opD (ev_opD (ev_var (i := 0) rfl) (ev_opD (ev_cbD (ea_consD (ev_var (i := 1) rfl) ea_nil) rc_int1) (ev_cbD (ea_consD (ev_var (i := 0) rfl) ea_nil) (rc_lenT (by exfalso; rw [rngI_len] at hI; exact lw_over hpre_.1 hpre_.2.2 hI))) (r2_mod (by exfalso; rw [rngI_len] at hI; exact lw_over hpre_.1 hpre_.2.2 hI))) (r2_ixSp (by exfalso; rw [rngI_len] at hI; exact lw_over hpre_.1 hpre_.2.2 hI) (by exfalso; rw [rngI_len] at hI; exact lw_over hpre_.1 hpre_.2.2 hI))) (ev_var (i := 5) rfl) (r2_addS (by exfalso; rw [rngI_len] at hI; exact lw_over hpre_.1 hpre_.2.2 hI))) fun (word3 : Str) h_word3 => ?_)
      show Do _ _ ⟨[va letters, va m, va ln, va pw, va y, va word3], []⟩ _
      refine do_asg (i := 1) (ev_opD (ev_cbD (ea_consD (ev_var (i := 1) rfl) ea_nil) rc_int1) (ev_cbD (ea_consD (ev_var (i := 0) rfl) ea_nil) (rc_lenT (by exfalso; rw [rngI_len] at hI; exact lw_over hpre_.1 hpre_.2.2 hI))) (r2_fdiv (by exfalso; rw [rngI_len] at hI; exact lw_over hpre_.1 hpre_.2.2 hI))) fun (number3 : Int) h_number3 => ?_
      refine ⟨⟨[va letters, va _, va ln, va pw, none, va _], []⟩, ⟨⟨Or.inr rfl, ⟨Or.inr rfl, ⟨Or.inr rfl, ⟨Or.inr rfl, ⟨Or.inl rfl, ⟨Or.inr rfl, trivial⟩⟩⟩⟩⟩⟩, rfl⟩, _, _, ?_, rfl⟩
      · -- vc 6
        exfalso; rw [rngI_len] at hI; exact lw_over hpre_.1 hpre_.2.2 hI
    ·
      rintro e_ ⟨w, m, hJ, rfl⟩
      show Do _ _ ⟨[va letters, va m, va ln, va pw, none, va w], []⟩ _
      refine do_ret (ev_var (i := 5) rfl) fun z h_ret => ?_
      refine ⟨_, .slnil, rfl, ?_⟩
      · -- vc 7
        exfalso; rw [rngI_len] at hI; exact lw_over hpre_.1 hpre_.2.2 hI

end
end L03

namespace L03
open PySem L2 Fw
local macro_rules | `(tactic| walk_at "fsc") => `(tactic| first | omega | assumption | trivial | exact sgn_split (by assumption) | exact sgn_split2 (by assumption) | (intros; omega) | (with_reducible exact emod_both (by omega)) | (simp only [Bool.not_eq_true', Bool.not_eq_false', decide_eq_true_eq, decide_eq_false_iff_not, Bool.or_eq_false_iff, Bool.and_eq_true, List.length_cons, List.length_nil, List.length_append, List.length_cons, List.length_nil, List.length_map, signs_len, rngI_len, enumI_len, keysD_len, pre_check_letters, post_check_letters, pre_check_word, post_check_word, pre_in_order, post_in_order, pre_words_to, post_words_to, pre_rank, post_rank, pre_word_at, post_word_at, pre_scattered_words, post_scattered_words, pre_windows, post_windows, pre_class_of, post_class_of, pre_law_start, pre_law_next, post_law_next, pre_law_integer, post_law_integer, pre_law_exact, post_law_exact, pre_law_rank, post_law_rank, pre_law_word_at, post_law_word_at, pre_law_strings, post_law_strings, pre_law_sorted, post_law_sorted, pre_law_all_words, post_law_all_words, pre_law_parts, post_law_parts, pre_law_class, post_law_class, pre_law_bad_letters, post_law_bad_letters, pre_law_bad_word, post_law_bad_word, pre_law_refused, post_law_refused, pre_law_small_parts, post_law_small_parts, pre_law, post_law] at *; first | omega | assumption | (refine ⟨?_, ?_⟩ <;> first | omega | assumption) | (refine ⟨?_, ?_, ?_⟩ <;> first | omega | assumption)) | (have hl_ := congrArg List.length hs_; simp only [List.length_append, List.length_cons, List.length_nil, List.length_map, signs_len, rngI_len, enumI_len, keysD_len] at hl_; omega) | (have hr_ := rng_split hs_; omega))
local macro_rules | `(tactic| walk_at "fvc") => `(tactic| first | rfl | trivial | assumption | omega)
local macro_rules | `(tactic| walk_at "fxp") => `(tactic| first | exact hx_ | assumption)
local macro_rules | `(tactic| walk_at "frs") => `(tactic| first | assumption)

section
variable {P : Program} {w : World} {K : PySem.W.Frag} {mg : Str → Option Value} {base : Heap} {A : Ad}
abbrev s_rank : Stmt := topS 12
abbrev N_rank : List Str := ["letters", "word", "number", "letter"]
theorem sc_rank : FnScope N_rank ["letters", "word"] (defScope s_rank) := ⟨rfl, rfl, rfl, by decide +kernel, rfl, by decide +kernel, by decide +kernel⟩
set_option maxHeartbeats 4000000 in
theorem ok_rank (T : Tx K mg A) (h_check_letters : Cal P w K mg base 1 A.check_letters "check_letters" ["letters"] (sp_check_letters K A)) (h_check_word : Cal P w K mg base 3 A.check_word "check_word" ["letters", "word"] (sp_check_word K A)) {fd : FuncData} (F : Fun K "rank" "rank" s_rank A.rank fd) : FnOk P w K mg base (L2.CX P w) 4 A.rank fd ["letters", "word"] (sp_rank K A) := by
  refine F.okX sc_rank (fun us H Q E ⟨letters, word, hpre, h⟩ => h.len) (fun cdv A_ outer s_ H us Q E hr ⟨letters, word, hpre, h⟩ => ?_)
  refine ⟨_, (pss_cons (ps_expr (pe_cal (W := (fun cls d _ H => E cls d H)) h_check_letters (hr.mono (by decide)) (takes_of rfl rfl rfl rfl) (pa_cons (pv 0) pa_nil))) (pss_cons (ps_expr (pe_cal (W := (fun cls d _ H => E cls d H)) h_check_word (hr.mono (by decide)) (takes_of rfl rfl rfl rfl) (pa_cons (pv 0) (pa_cons (pv 1) pa_nil)))) (pss_cons (ps_set (i := 2) sc_rank.nd rfl (by first | exact Or.inl rfl | exact Or.inr rfl) pe_int) (pss_cons (ps_for (passes_of rfl) rfl (pi_str (pv 1)) (pg_name (i := 3) sc_rank.nd rfl (by first | exact Or.inl rfl | exact Or.inr rfl)) (pss_one (ps_set (i := 2) sc_rank.nd rfl (by first | exact Or.inl rfl | exact Or.inr rfl) (pe_op op_add (pe_op op_add (pe_op op_mul (pv 2) (pe_callB cr_lenT (by rfl) T.m_len bb_len (pa_cons (pv 0) pa_nil))) (pe_bmS PySem.F.plainAttrs_str PySem.F.slot_str_index PySem.F.type_str_index (mt_indexX (W := fun _ _ _ _ => False) rfl takes0) (pv 0) (pa_cons (pv 3) pa_nil))) pe_int)))) (pss_one (ps_ret (pv 2))))))), ?_⟩
  refine Call.body (sl := [va letters, va word, none, none]) h rfl fun G0_ H0_ => ?_
  have hpre_ := hpre; unfold pre_rank at hpre_
  show Do _ _ ⟨[va letters, va word, none, none], []⟩ _
  refine do_seq (do_drop (ev_callP (W := (fun cls d _ H => E cls d H)) (P' := (fun (z_ : Unit) => post_check_letters letters z_)) (fun x_ => xp_check_letters A letters x_) (ea_consD (ev_var (i := 0) rfl) ea_nil) (fun ss_ hs_ us_ H_ Q_ E_ h_ => by obtain rfl := hs_; exact ⟨letters, (by walk_at "fsc"), Call.imp h_ (fun r_ c_ hq_ => hq_) (fun x_ c_ hq_ => hq_)⟩) (fun x_ hx_ => ⟨rfl, by refine ⟨_, .slnil, rfl, ?_⟩; exact .inl hx_⟩)) fun r_ h_call => ?_)
  show Do _ _ ⟨[va letters, va word, none, none], []⟩ _
  refine do_seq (do_drop (ev_callP (W := (fun cls d _ H => E cls d H)) (P' := (fun (z_ : Unit) => post_check_word letters word z_)) (fun x_ => xp_check_word A letters word x_) (ea_consD (ev_var (i := 0) rfl) (ea_consD (ev_var (i := 1) rfl) ea_nil)) (fun ss_ hs_ us_ H_ Q_ E_ h_ => by obtain rfl := hs_; exact ⟨letters, word, (by walk_at "fsc"), Call.imp h_ (fun r_ c_ hq_ => hq_) (fun x_ c_ hq_ => hq_)⟩) (fun x_ hx_ => ⟨rfl, by refine ⟨_, .slnil, rfl, ?_⟩; exact .inr ⟨h_call, hx_⟩⟩)) fun r_ h_call1 => ?_)
  show Do _ _ ⟨[va letters, va word, none, none], []⟩ _
  refine do_seq (do_asg (i := 2) ev_int fun (number : Int) h_number => ?_)
  show Do _ _ ⟨[va letters, va word, va number, none], []⟩ _
  refine do_seq (do_forW (ei_str (ev_var (i := 1) rfl)) eg_name (fun (pre : List Str) e_ => ∃ (n : Int), (n = rankF letters pre) ∧ e_ = ⟨[va letters, va word, va n, none], []⟩) ?_ ?_ ?_)
  ·
    refine ⟨⟨[va letters, va word, va _, none], []⟩, ⟨⟨Or.inr rfl, ⟨Or.inr rfl, ⟨Or.inr rfl, ⟨Or.inl rfl, trivial⟩⟩⟩⟩, rfl⟩, _, ?_, rfl⟩
    · walk_at "fvc"
  ·
    rintro pre x post e_ hsplit ⟨n, hI, rfl⟩
    have hlen_hsplit := congrArg List.length hsplit; simp only [List.length_append, List.length_cons, List.length_nil, List.length_map, signs_len, rngI_len, enumI_len, keysD_len] at hlen_hsplit
    show Do _ _ ⟨[va letters, va word, va n, va x], []⟩ _
    refine do_asg (i := 2) (ev_opD (ev_opD (ev_opD (ev_var (i := 2) rfl) (ev_cbD (ea_consD (ev_var (i := 0) rfl) ea_nil) (rc_lenT (by walk_at "fsc"))) (r2_mul (by walk_at "fsc"))) (ev_index (k := (idx letters x)) (ev_var (i := 0) rfl) (ea_consD (ev_var (i := 3) rfl) ea_nil) (by exact (index_sgn (sgn_split hsplit) (h_call1 _ (sgn_in hsplit))).1)) r2_add) ev_int r2_add) fun (number1 : Int) h_number1 => ?_
    refine ⟨⟨[va letters, va word, va _, none], []⟩, ⟨⟨Or.inr rfl, ⟨Or.inr rfl, ⟨Or.inr rfl, ⟨Or.inl rfl, trivial⟩⟩⟩⟩, rfl⟩, _, ?_, rfl⟩
    · -- vc 1
      rw [rankF_snoc, ← hI, h_number1, (index_sgn (sgn_split hsplit) (h_call1 _ (sgn_in hsplit))).2]
  ·
    rintro e_ ⟨n, hI, rfl⟩
    show Do _ _ ⟨[va letters, va word, va n, none], []⟩ _
    refine do_ret (ev_var (i := 2) rfl) fun z h_ret => ?_
    refine ⟨_, .slnil, rfl, ?_⟩
    · -- vc 2
      subst h_ret; exact ⟨h_call, h_call1, hI⟩

end
end L03

namespace L03
open PySem L2 Fw
local macro_rules | `(tactic| walk_at "fsc") => `(tactic| first | omega | assumption | trivial | exact sgn_split (by assumption) | exact sgn_split2 (by assumption) | (intros; omega) | (with_reducible exact emod_both (by omega)) | (simp only [Bool.not_eq_true', Bool.not_eq_false', decide_eq_true_eq, decide_eq_false_iff_not, Bool.or_eq_false_iff, Bool.and_eq_true, List.length_cons, List.length_nil, List.length_append, List.length_cons, List.length_nil, List.length_map, signs_len, rngI_len, enumI_len, keysD_len, pre_check_letters, post_check_letters, pre_check_word, post_check_word, pre_in_order, post_in_order, pre_words_to, post_words_to, pre_rank, post_rank, pre_word_at, post_word_at, pre_scattered_words, post_scattered_words, pre_windows, post_windows, pre_class_of, post_class_of, pre_law_start, pre_law_next, post_law_next, pre_law_integer, post_law_integer, pre_law_exact, post_law_exact, pre_law_rank, post_law_rank, pre_law_word_at, post_law_word_at, pre_law_strings, post_law_strings, pre_law_sorted, post_law_sorted, pre_law_all_words, post_law_all_words, pre_law_parts, post_law_parts, pre_law_class, post_law_class, pre_law_bad_letters, post_law_bad_letters, pre_law_bad_word, post_law_bad_word, pre_law_refused, post_law_refused, pre_law_small_parts, post_law_small_parts, pre_law, post_law] at *; first | omega | assumption | (refine ⟨?_, ?_⟩ <;> first | omega | assumption) | (refine ⟨?_, ?_, ?_⟩ <;> first | omega | assumption)) | (have hl_ := congrArg List.length hs_; simp only [List.length_append, List.length_cons, List.length_nil, List.length_map, signs_len, rngI_len, enumI_len, keysD_len] at hl_; omega) | (have hr_ := rng_split hs_; omega))
local macro_rules | `(tactic| walk_at "fvc") => `(tactic| first | rfl | trivial | assumption | omega)
local macro_rules | `(tactic| walk_at "fxp") => `(tactic| first | exact hx_ | assumption)
local macro_rules | `(tactic| walk_at "frs") => `(tactic| first | assumption)

section
variable {P : Program} {w : World} {K : PySem.W.Frag} {mg : Str → Option Value} {base : Heap} {A : Ad}
abbrev s_scattered_words : Stmt := topS 14
abbrev N_scattered_words : List Str := ["word", "most", "found", "letter", "part"]
theorem sc_scattered_words : FnScope N_scattered_words ["word", "most"] (defScope s_scattered_words) := ⟨rfl, rfl, rfl, by decide +kernel, rfl, by decide +kernel, by decide +kernel⟩
set_option maxHeartbeats 4000000 in
theorem ok_scattered_words (T : Tx K mg A) (k_order_key : KeyF P w K mg base A.order_key) (g_order_key : mg "order_key" = some (.ref A.order_key)) {fd : FuncData} (F : Fun K "scattered_words" "scattered_words" s_scattered_words A.scattered_words fd) : FnOk P w K mg base (L2.CX P w) 5 A.scattered_words fd ["word", "most"] (sp_scattered_words K) := by
  refine F.okX sc_scattered_words (fun us H Q E ⟨word, most, hpre, h⟩ => h.len) (fun cdv A_ outer s_ H us Q E hr ⟨word, most, hpre, h⟩ => ?_)
  refine ⟨_, (pss_cons (ps_set (i := 2) sc_scattered_words.nd rfl (by first | exact Or.inl rfl | exact Or.inr rfl) (pe_disp (pps_cons pe_str pe_bl pps_nil) rfl rfl (by simp) (by decide))) (pss_cons (ps_for (passes_of rfl) rfl (pi_str (pv 0)) (pg_name (i := 3) sc_scattered_words.nd rfl (by first | exact Or.inl rfl | exact Or.inr rfl)) (pss_one (ps_for (passes_of rfl) rfl (pi_list (pe_callTy (call_list_dK rfl) (by rfl) T.m_list bb_list (pa_cons (pv 2) pa_nil))) (pg_name (i := 4) sc_scattered_words.nd rfl (by first | exact Or.inl rfl | exact Or.inr rfl)) (pss_one (ps_if (pt_cmpR op_lt (pe_callB cr_lenT (by rfl) T.m_len bb_len (pa_cons (pv 4) pa_nil)) (pv 1) (nomark _)) (pss_one (ps_dput (hu_of hr) (pv 2) (pe_op op_addS (pv 4) (pv 3)) pe_bl rfl)) pss_nil))))) (pss_one (ps_ret (pe_sortedK (hr.mono (by decide)) k_order_key g_order_key T.m_sorted (pe_callTy (call_list_dK rfl) (by rfl) T.m_list bb_list (pa_cons (pv 2) pa_nil))))))), ?_⟩
  refine Call.body (sl := [va word, va most, none, none, none]) h rfl fun G0_ H0_ => ?_
  have hpre_ := hpre; unfold pre_scattered_words at hpre_
  show Do _ _ ⟨[va word, va most, none, none, none], []⟩ _
  refine do_seq (do_dnew1 (i := 2) (x := ("" : Str)) (y := true) fun a_found => ?_)
  show Do _ _ ⟨[va word, va most, va (Adr.mk a_found), none, none], [(a_found, ownD [(("" : Str), true)])]⟩ _
  refine do_seq (do_forW (ei_str (ev_var (i := 0) rfl)) eg_name (fun (pre : List Str) e_ => ∃ (d : List (Str × Bool)), (ScI word most pre d) ∧ e_ = ⟨[va word, va most, va (Adr.mk a_found), none, none], [(a_found, ownD d)]⟩) ?_ ?_ ?_)
  ·
    refine ⟨⟨[va word, va most, va (Adr.mk a_found), none, none], [(a_found, ownD _)]⟩, ⟨⟨Or.inr rfl, ⟨Or.inr rfl, ⟨Or.inr rfl, ⟨Or.inl rfl, ⟨Or.inl rfl, trivial⟩⟩⟩⟩⟩, rfl⟩, _, ?_, rfl⟩
    · -- vc 0
      exact scI_nil
  ·
    rintro pre x post e_ hsplit ⟨d, hI, rfl⟩
    have hlen_hsplit := congrArg List.length hsplit; simp only [List.length_append, List.length_cons, List.length_nil, List.length_map, signs_len, rngI_len, enumI_len, keysD_len] at hlen_hsplit
    show Do _ _ ⟨[va word, va most, va (Adr.mk a_found), va x, none], [(a_found, ownD d)]⟩ _
    refine do_forW (ei_list (evl_val (evl_listD (k := 0) rfl (ea_consD (ev_var (i := 2) rfl) ea_nil)))) eg_name (fun (pre2 : List Str) e_ => ∃ (d2 : List (Str × Bool)), (ScJ word most pre x pre2 d2) ∧ e_ = ⟨[va word, va most, va (Adr.mk a_found), va x, none], [(a_found, ownD d2)]⟩) ?_ ?_ ?_
    ·
      refine ⟨⟨[va word, va most, va (Adr.mk a_found), va x, none], [(a_found, ownD _)]⟩, ⟨⟨Or.inr rfl, ⟨Or.inr rfl, ⟨Or.inr rfl, ⟨Or.inr rfl, ⟨Or.inl rfl, trivial⟩⟩⟩⟩⟩, rfl⟩, _, ?_, rfl⟩
      · -- vc 1
        exact scJ_nil hI
    ·
      rintro pre2 y post2 e_ hsplit2 ⟨d2, hJ, rfl⟩
      have hlen_hsplit2 := congrArg List.length hsplit2; simp only [List.length_append, List.length_cons, List.length_nil, List.length_map, signs_len, rngI_len, enumI_len, keysD_len] at hlen_hsplit2
      show Do _ _ ⟨[va word, va most, va (Adr.mk a_found), va x, va y], [(a_found, ownD d2)]⟩ _
      refine do_ifD (et_test (ev_opD (ev_cbD (ea_consD (ev_var (i := 4) rfl) ea_nil) (rc_lenT (by have h1 := (scI_bound hpre_ hsplit hI).2 y (by rw [hsplit2]; simp); omega))) (ev_var (i := 1) rfl) r2_lt)) (fun h_if => ?_) (fun h_if => ?_)
      ·
        refine do_dput (k := 0) rfl ev_bl (ev_var (i := 2) rfl) (ev_opD (ev_var (i := 4) rfl) (ev_var (i := 3) rfl) (r2_addS (by have h1 := (scI_bound hpre_ hsplit hI).2 y (by rw [hsplit2]; simp); have h2 := len_one (sgn_split hsplit); omega))) (by have h1 := scJ_bound hpre_ hsplit hI (fun z hz => by rw [hsplit2]; simp [hz]) hJ; omega) fun (y : Bool) h_y => ?_
        refine ⟨⟨[va word, va most, va (Adr.mk a_found), va x, none], [(a_found, ownD _)]⟩, ⟨⟨Or.inr rfl, ⟨Or.inr rfl, ⟨Or.inr rfl, ⟨Or.inr rfl, ⟨Or.inl rfl, trivial⟩⟩⟩⟩⟩, rfl⟩, _, ?_, rfl⟩
        · -- vc 2
          exact scJ_yes hJ h_if
      ·
        refine do_next ?_
        refine ⟨⟨[va word, va most, va (Adr.mk a_found), va x, none], [(a_found, ownD _)]⟩, ⟨⟨Or.inr rfl, ⟨Or.inr rfl, ⟨Or.inr rfl, ⟨Or.inr rfl, ⟨Or.inl rfl, trivial⟩⟩⟩⟩⟩, rfl⟩, _, ?_, rfl⟩
        · -- vc 3
          exact scJ_no hJ h_if
    ·
      rintro e_ ⟨d2, hJ, rfl⟩
      refine ⟨⟨[va word, va most, va (Adr.mk a_found), none, none], [(a_found, ownD _)]⟩, ⟨⟨Or.inr rfl, ⟨Or.inr rfl, ⟨Or.inr rfl, ⟨Or.inl rfl, ⟨Or.inl rfl, trivial⟩⟩⟩⟩⟩, rfl⟩, _, ?_, rfl⟩
      · -- vc 4
        exact scJ_end hI hJ
  ·
    rintro e_ ⟨d, hI, rfl⟩
    show Do _ _ ⟨[va word, va most, va (Adr.mk a_found), none, none], [(a_found, ownD d)]⟩ _
    refine do_ret (evl_val (evl_sortedK (evl_val (evl_listD (k := 0) rfl (ea_consD (ev_var (i := 2) rfl) ea_nil))) (by have h1 := (scI_bound (post := []) hpre_ (by simp) hI).1; omega) (by exact fun x hx => by have h1 := (scI_bound (post := []) hpre_ (by simp) hI).2 x hx; omega))) fun z h_ret => ?_
    refine ⟨_, (.cons _ .slnil), rfl, ?_⟩
    · -- vc 5
      subst h_ret; exact (sortW_sup hI.1).congr hI.2

end
end L03

namespace L03
open PySem L2 Fw
local macro_rules | `(tactic| walk_at "fsc") => `(tactic| first | omega | assumption | trivial | exact sgn_split (by assumption) | exact sgn_split2 (by assumption) | (intros; omega) | (with_reducible exact emod_both (by omega)) | (simp only [Bool.not_eq_true', Bool.not_eq_false', decide_eq_true_eq, decide_eq_false_iff_not, Bool.or_eq_false_iff, Bool.and_eq_true, List.length_cons, List.length_nil, List.length_append, List.length_cons, List.length_nil, List.length_map, signs_len, rngI_len, enumI_len, keysD_len, pre_check_letters, post_check_letters, pre_check_word, post_check_word, pre_in_order, post_in_order, pre_words_to, post_words_to, pre_rank, post_rank, pre_word_at, post_word_at, pre_scattered_words, post_scattered_words, pre_windows, post_windows, pre_class_of, post_class_of, pre_law_start, pre_law_next, post_law_next, pre_law_integer, post_law_integer, pre_law_exact, post_law_exact, pre_law_rank, post_law_rank, pre_law_word_at, post_law_word_at, pre_law_strings, post_law_strings, pre_law_sorted, post_law_sorted, pre_law_all_words, post_law_all_words, pre_law_parts, post_law_parts, pre_law_class, post_law_class, pre_law_bad_letters, post_law_bad_letters, pre_law_bad_word, post_law_bad_word, pre_law_refused, post_law_refused, pre_law_small_parts, post_law_small_parts, pre_law, post_law] at *; first | omega | assumption | (refine ⟨?_, ?_⟩ <;> first | omega | assumption) | (refine ⟨?_, ?_, ?_⟩ <;> first | omega | assumption)) | (have hl_ := congrArg List.length hs_; simp only [List.length_append, List.length_cons, List.length_nil, List.length_map, signs_len, rngI_len, enumI_len, keysD_len] at hl_; omega) | (have hr_ := rng_split hs_; omega))
local macro_rules | `(tactic| walk_at "fvc") => `(tactic| first | rfl | trivial | assumption | omega)
local macro_rules | `(tactic| walk_at "fxp") => `(tactic| first | exact hx_ | assumption)
local macro_rules | `(tactic| walk_at "frs") => `(tactic| first | assumption)

section
variable {P : Program} {w : World} {K : PySem.W.Frag} {mg : Str → Option Value} {base : Heap} {A : Ad}
abbrev s_windows : Stmt := topS 15
abbrev N_windows : List Str := ["word", "size", "at"]
theorem sc_windows : FnScope N_windows ["word", "size"] (defScope s_windows) := ⟨rfl, rfl, rfl, by decide +kernel, rfl, by decide +kernel, by decide +kernel⟩
set_option maxHeartbeats 4000000 in
theorem ok_windows (T : Tx K mg A) (h_in_order : Cal P w K mg base 5 A.in_order "in_order" ["words"] (sp_in_order K)) {fd : FuncData} (F : Fun K "windows" "windows" s_windows A.windows fd) : FnOk P w K mg base (L2.CX P w) 6 A.windows fd ["word", "size"] (sp_windows K) := by
  refine F.okX sc_windows (fun us H Q E ⟨word, size, hpre, h⟩ => h.len) (fun cdv A_ outer s_ H us Q E hr ⟨word, size, hpre, h⟩ => ?_)
  refine ⟨_, (pss_one (ps_ret (pe_cal (W := (fun _ _ _ _ => False)) h_in_order (hr.mono (by decide)) takes0 (pa_cons (pe_lc (own := [("at", 2)]) (g := gName 2) (tt := tYes) rfl sc_windows.nd (pi_range1 (by rfl) T.m_range (pa_cons (pe_op op_add (pe_op op_sub (pe_callB cr_lenT (by rfl) T.m_len bb_len (pa_cons (pv 0) pa_nil)) (pv 1)) pe_int) pa_nil)) (blkOk_by (N := N_windows) (sc := defScope s_windows) (by decide +kernel)) (fun _ _ _ _ _ => (pg_name (i := 2) sc_windows.nd rfl (by first | exact Or.inl rfl | exact Or.inr rfl))) (fun _ _ _ _ _ => pts_nil) (fun _ _ _ _ _ => (pe_slice sl_str (pv 0) (po_some (pv 2)) (po_some (pe_op op_add (pv 2) (pv 1)))))) pa_nil)))), ?_⟩
  refine Call.body (sl := [va word, va size, none]) h rfl fun G0_ H0_ => ?_
  have hpre_ := hpre; unfold pre_windows at hpre_
  show Do _ _ ⟨[va word, va size, none], []⟩ _
  refine do_ret (ev_callP (W := (fun _ _ _ _ => False)) (P' := (fun (z_ : (List Str)) => post_in_order ((rngI 0 (((((word).length : Int) - size) + (1 : Int))).toNat).map fun (at_ : Int) => (cutS word (some at_) (some (at_ + size)))) z_)) (fun _ => False) (ea_consD (evl_val (evl_lcM (h := fun (at_ : Int) => (cutS word (some at_) (some (at_ + size)))) (ei_rng1 (ea_consD (ev_opD (ev_opD (ev_cbD (ea_consD (ev_var (i := 0) rfl) ea_nil) (rc_lenT (by walk_at "fsc"))) (ev_var (i := 1) rfl) r2_sub) ev_int r2_add) ea_nil) (by walk_at "fsc") (by walk_at "fsc")) eg_name (by simp) (by walk_at "fsc") (fun pre_ at_ post_ hs_ dc_ => (ev_slS (ev_var (i := 0) rfl) (eo_some (ev_var (i := 2) rfl)) (eo_some (ev_opD (ev_var (i := 2) rfl) (ev_var (i := 1) rfl) r2_add)) (by walk_at "fsc"))))) ea_nil) (fun ss_ hs_ us_ H_ Q_ E_ h_ => by obtain rfl := hs_; exact ⟨((rngI 0 (((((word).length : Int) - size) + (1 : Int))).toNat).map fun (at_ : Int) => (cutS word (some at_) (some (at_ + size)))), (by exact win_bound hpre_.1 hpre_.2.1), Call.imp h_ (fun r_ c_ hq_ => hq_) (fun x_ c_ hq_ => hq_)⟩) (fun x_ hx_ => hx_.elim)) fun z h_ret => ?_
  refine ⟨_, .slnil, rfl, ?_⟩
  · walk_at "fvc"

end
end L03

namespace L03
open PySem L2 Fw
local macro_rules | `(tactic| walk_at "fsc") => `(tactic| first | omega | assumption | trivial | exact sgn_split (by assumption) | exact sgn_split2 (by assumption) | (intros; omega) | (with_reducible exact emod_both (by omega)) | (simp only [Bool.not_eq_true', Bool.not_eq_false', decide_eq_true_eq, decide_eq_false_iff_not, Bool.or_eq_false_iff, Bool.and_eq_true, List.length_cons, List.length_nil, List.length_append, List.length_cons, List.length_nil, List.length_map, signs_len, rngI_len, enumI_len, keysD_len, pre_check_letters, post_check_letters, pre_check_word, post_check_word, pre_in_order, post_in_order, pre_words_to, post_words_to, pre_rank, post_rank, pre_word_at, post_word_at, pre_scattered_words, post_scattered_words, pre_windows, post_windows, pre_class_of, post_class_of, pre_law_start, pre_law_next, post_law_next, pre_law_integer, post_law_integer, pre_law_exact, post_law_exact, pre_law_rank, post_law_rank, pre_law_word_at, post_law_word_at, pre_law_strings, post_law_strings, pre_law_sorted, post_law_sorted, pre_law_all_words, post_law_all_words, pre_law_parts, post_law_parts, pre_law_class, post_law_class, pre_law_bad_letters, post_law_bad_letters, pre_law_bad_word, post_law_bad_word, pre_law_refused, post_law_refused, pre_law_small_parts, post_law_small_parts, pre_law, post_law] at *; first | omega | assumption | (refine ⟨?_, ?_⟩ <;> first | omega | assumption) | (refine ⟨?_, ?_, ?_⟩ <;> first | omega | assumption)) | (have hl_ := congrArg List.length hs_; simp only [List.length_append, List.length_cons, List.length_nil, List.length_map, signs_len, rngI_len, enumI_len, keysD_len] at hl_; omega) | (have hr_ := rng_split hs_; omega))
local macro_rules | `(tactic| walk_at "fvc") => `(tactic| first | rfl | trivial | assumption | omega)
local macro_rules | `(tactic| walk_at "fxp") => `(tactic| first | exact hx_ | assumption)
local macro_rules | `(tactic| walk_at "frs") => `(tactic| first | assumption)

section
variable {P : Program} {w : World} {K : PySem.W.Frag} {mg : Str → Option Value} {base : Heap} {A : Ad}
abbrev s_word_at : Stmt := topS 13
abbrev N_word_at : List Str := ["letters", "number", "word", "digit"]
theorem sc_word_at : FnScope N_word_at ["letters", "number"] (defScope s_word_at) := ⟨rfl, rfl, rfl, by decide +kernel, rfl, by decide +kernel, by decide +kernel⟩
set_option maxHeartbeats 4000000 in
theorem ok_word_at (T : Tx K mg A) (h_check_letters : Cal P w K mg base 1 A.check_letters "check_letters" ["letters"] (sp_check_letters K A)) {fd : FuncData} (F : Fun K "word_at" "word_at" s_word_at A.word_at fd) : FnOk P w K mg base (L2.CX P w) 2 A.word_at fd ["letters", "number"] (sp_word_at K A) := by
  refine F.okX sc_word_at (fun us H Q E ⟨letters, number, hpre, h⟩ => h.len) (fun cdv A_ outer s_ H us Q E hr ⟨letters, number, hpre, h⟩ => ?_)
  refine ⟨_, (pss_cons (ps_expr (pe_cal (W := (fun cls d _ H => E cls d H)) h_check_letters (hr.mono (by decide)) (takes_of rfl rfl rfl rfl) (pa_cons (pv 0) pa_nil))) (pss_cons (ps_set (i := 2) sc_word_at.nd rfl (by first | exact Or.inl rfl | exact Or.inr rfl) pe_str) (pss_cons (ps_while (passes_of rfl) (pt_cmpR op_gt (pv 1) pe_int (nomark _)) (pss_cons (ps_asg (pe_callB cr_divmod (by rfl) T.m_divmod bb_divmod (pa_cons (pe_op op_sub (pv 1) pe_int) (pa_cons (pe_callB cr_lenT (by rfl) T.m_len bb_len (pa_cons (pv 0) pa_nil)) pa_nil))) (pg_tup rfl (pgs_cons (pg_name (i := 1) sc_word_at.nd rfl (by first | exact Or.inl rfl | exact Or.inr rfl)) (pgs_cons (pg_name (i := 3) sc_word_at.nd rfl (by first | exact Or.inl rfl | exact Or.inr rfl)) pgs_nil)))) (pss_one (ps_set (i := 2) sc_word_at.nd rfl (by first | exact Or.inl rfl | exact Or.inr rfl) (pe_op op_addS (pe_ix ix_str (pv 0) (pv 3) (fun _ _ => rfl)) (pv 2)))))) (pss_one (ps_ret (pv 2)))))), ?_⟩
  refine Call.body (sl := [va letters, va number, none, none]) h rfl fun G0_ H0_ => ?_
  have hpre_ := hpre; unfold pre_word_at at hpre_
  show Do _ _ ⟨[va letters, va number, none, none], []⟩ _
  refine do_seq (do_drop (ev_callP (W := (fun cls d _ H => E cls d H)) (P' := (fun (z_ : Unit) => post_check_letters letters z_)) (fun x_ => xp_check_letters A letters x_) (ea_consD (ev_var (i := 0) rfl) ea_nil) (fun ss_ hs_ us_ H_ Q_ E_ h_ => by obtain rfl := hs_; exact ⟨letters, (by walk_at "fsc"), Call.imp h_ (fun r_ c_ hq_ => hq_) (fun x_ c_ hq_ => hq_)⟩) (fun x_ hx_ => ⟨rfl, by refine ⟨_, .slnil, rfl, ?_⟩; walk_at "fxp"⟩)) fun r_ h_call => ?_)
  show Do _ _ ⟨[va letters, va number, none, none], []⟩ _
  refine do_seq (do_asg (i := 2) ev_str fun (word : Str) h_word => ?_)
  show Do _ _ ⟨[va letters, va number, va word, none], []⟩ _
  refine do_seq (do_whileW (ι := Str × Int) (fun i => ⟨[va letters, va i.2, va i.1, none], []⟩) (fun i => WatI letters number i) (fun i => i.2.toNat) (dS, number) ?_ ⟨⟨Or.inr (by first | rfl | (subst_vars; rfl)), ⟨Or.inr (by first | rfl | (subst_vars; rfl)), ⟨Or.inr (by first | rfl | (subst_vars; rfl)), ⟨Or.inl rfl, trivial⟩⟩⟩⟩, rfl⟩ ?_)
  ·
    · -- vc 0
      exact ⟨Nat.le_refl _, by show _ = _ ++ ([] : List Nat); rw [List.append_nil]⟩
  ·
    intro i hw
    refine ⟨(decide ((0 : Int) < i.2)), (et_test (ev_opD (ev_var (i := 1) rfl) ev_int r2_gt)), fun h_while => ?_, fun h_while => ?_⟩
    ·
      show Do _ _ ⟨[va letters, va i.2, va i.1, none], []⟩ _
      refine do_seq (do_asgG (ev_cbD (ea_consD (ev_opD (ev_var (i := 1) rfl) ev_int r2_sub) (ea_consD (ev_cbD (ea_consD (ev_var (i := 0) rfl) ea_nil) (rc_lenT (by walk_at "fsc"))) ea_nil)) (rc_divmod (by have h1 := (show goodL letters from h_call).1; omega))) eg_pair fun (qr : Int × Int) h_qr => ?_)
      show Do _ _ ⟨[va letters, va qr.1, va i.1, va qr.2], []⟩ _
      refine do_asg (i := 2) (ev_opD (ev_opD (ev_var (i := 0) rfl) (ev_var (i := 3) rfl) (r2_ixSp (by walk_at "fsc") (by exact (wat_step (w1 := dS) h_call hw h_while h_qr).1))) (ev_var (i := 2) rfl) (r2_addS (by have h1 := wat_len hw hpre_.2; rw [sgnAt_len]; omega))) fun (word1 : Str) h_word1 => ?_
      refine ⟨(word1, qr.1), ?_, ?_, ⟨⟨Or.inr rfl, ⟨Or.inr rfl, ⟨Or.inr rfl, ⟨Or.inl rfl, trivial⟩⟩⟩⟩, rfl⟩⟩
      · -- vc 1
        exact (wat_step h_call hw h_while h_qr).2.2 h_word1
      · -- vc 2
        exact (wat_step (w1 := word1) h_call hw h_while h_qr).2.1
    ·
      show Do _ _ ⟨[va letters, va i.2, va i.1, none], []⟩ _
      refine do_ret (ev_var (i := 2) rfl) fun z h_ret => ?_
      refine ⟨_, .slnil, rfl, ?_⟩
      · -- vc 3
        subst h_ret; exact ⟨h_call, wat_end hw h_while⟩

end
end L03

namespace L03
open PySem L2 Fw
local macro_rules | `(tactic| walk_at "fsc") => `(tactic| first | omega | assumption | trivial | exact sgn_split (by assumption) | exact sgn_split2 (by assumption) | (intros; omega) | (with_reducible exact emod_both (by omega)) | (simp only [Bool.not_eq_true', Bool.not_eq_false', decide_eq_true_eq, decide_eq_false_iff_not, Bool.or_eq_false_iff, Bool.and_eq_true, List.length_cons, List.length_nil, List.length_append, List.length_cons, List.length_nil, List.length_map, signs_len, rngI_len, enumI_len, keysD_len, pre_check_letters, post_check_letters, pre_check_word, post_check_word, pre_in_order, post_in_order, pre_words_to, post_words_to, pre_rank, post_rank, pre_word_at, post_word_at, pre_scattered_words, post_scattered_words, pre_windows, post_windows, pre_class_of, post_class_of, pre_law_start, pre_law_next, post_law_next, pre_law_integer, post_law_integer, pre_law_exact, post_law_exact, pre_law_rank, post_law_rank, pre_law_word_at, post_law_word_at, pre_law_strings, post_law_strings, pre_law_sorted, post_law_sorted, pre_law_all_words, post_law_all_words, pre_law_parts, post_law_parts, pre_law_class, post_law_class, pre_law_bad_letters, post_law_bad_letters, pre_law_bad_word, post_law_bad_word, pre_law_refused, post_law_refused, pre_law_small_parts, post_law_small_parts, pre_law, post_law] at *; first | omega | assumption | (refine ⟨?_, ?_⟩ <;> first | omega | assumption) | (refine ⟨?_, ?_, ?_⟩ <;> first | omega | assumption)) | (have hl_ := congrArg List.length hs_; simp only [List.length_append, List.length_cons, List.length_nil, List.length_map, signs_len, rngI_len, enumI_len, keysD_len] at hl_; omega) | (have hr_ := rng_split hs_; omega))
local macro_rules | `(tactic| walk_at "fvc") => `(tactic| first | rfl | trivial | assumption | omega)
local macro_rules | `(tactic| walk_at "fxp") => `(tactic| first | exact hx_ | assumption)
local macro_rules | `(tactic| walk_at "frs") => `(tactic| first | assumption)

section
variable {P : Program} {w : World} {K : PySem.W.Frag} {mg : Str → Option Value} {base : Heap} {A : Ad}
abbrev s_words_to : Stmt := topS 11
abbrev N_words_to : List Str := ["letters", "most", "layer", "told", "_", "word", "letter"]
theorem sc_words_to : FnScope N_words_to ["letters", "most"] (defScope s_words_to) := ⟨rfl, rfl, rfl, by decide +kernel, rfl, by decide +kernel, by decide +kernel⟩
set_option maxHeartbeats 4000000 in
theorem ok_words_to (T : Tx K mg A) (h_check_letters : Cal P w K mg base 1 A.check_letters "check_letters" ["letters"] (sp_check_letters K A)) {fd : FuncData} (F : Fun K "words_to" "words_to" s_words_to A.words_to fd) : FnOk P w K mg base (L2.CX P w) 2 A.words_to fd ["letters", "most"] (sp_words_to K A) := by
  refine F.okX sc_words_to (fun us H Q E ⟨letters, most, hpre, h⟩ => h.len) (fun cdv A_ outer s_ H us Q E hr ⟨letters, most, hpre, h⟩ => ?_)
  refine ⟨_, (pss_cons (ps_expr (pe_cal (W := (fun cls d _ H => E cls d H)) h_check_letters (hr.mono (by decide)) (takes_of rfl rfl rfl rfl) (pa_cons (pv 0) pa_nil))) (pss_cons (ps_set (i := 2) sc_words_to.nd rfl (by first | exact Or.inl rfl | exact Or.inr rfl) (pe_lst (pa_cons pe_str pa_nil))) (pss_cons (ps_set (i := 3) sc_words_to.nd rfl (by first | exact Or.inl rfl | exact Or.inr rfl) (pe_lst (pa_cons pe_str pa_nil))) (pss_cons (ps_for (passes_of rfl) rfl (pi_range1 (by rfl) T.m_range (pa_cons (pv 1) pa_nil)) (pg_name (i := 4) sc_words_to.nd rfl (by first | exact Or.inl rfl | exact Or.inr rfl)) (pss_cons (ps_setLc2 (i := 2) (own := [("word", 5), ("letter", 6)]) (vs1 := [6]) (g := gName 5) (g1 := gName 6) (tt := tYes) (tt1 := tYes) rfl sc_words_to.nd rfl rfl (sw_true rfl rfl rfl (by decide +kernel)) (pi_list (pv 2)) (blkOk_by (N := N_words_to) (sc := defScope s_words_to) (by decide +kernel)) (by decide) (fun _ _ _ _ _ => (pg_name (i := 5) sc_words_to.nd rfl (by first | exact Or.inl rfl | exact Or.inr rfl))) (fun _ _ _ _ _ => pts_nil) (fun _ _ _ _ _ => (pi_str (pv 0))) (fun _ _ _ _ _ => (pg_name (i := 6) sc_words_to.nd rfl (by first | exact Or.inl rfl | exact Or.inr rfl))) (fun _ _ _ _ _ => pts_nil) (fun _ _ _ _ _ => (pe_op op_addS (pv 5) (pv 6)))) (pss_one (ps_set (i := 3) sc_words_to.nd rfl (by first | exact Or.inl rfl | exact Or.inr rfl) (pe_op op_cat (pv 3) (pv 2)))))) (pss_one (ps_ret (pv 3))))))), ?_⟩
  refine Call.body (sl := [va letters, va most, none, none, none, none, none]) h rfl fun G0_ H0_ => ?_
  have hpre_ := hpre; unfold pre_words_to at hpre_
  show Do _ _ ⟨[va letters, va most, none, none, none, none, none], []⟩ _
  refine do_seq (do_drop (ev_callP (W := (fun cls d _ H => E cls d H)) (P' := (fun (z_ : Unit) => post_check_letters letters z_)) (fun x_ => xp_check_letters A letters x_) (ea_consD (ev_var (i := 0) rfl) ea_nil) (fun ss_ hs_ us_ H_ Q_ E_ h_ => by obtain rfl := hs_; exact ⟨letters, (by walk_at "fsc"), Call.imp h_ (fun r_ c_ hq_ => hq_) (fun x_ c_ hq_ => hq_)⟩) (fun x_ hx_ => ⟨rfl, by refine ⟨_, .slnil, rfl, ?_⟩; walk_at "fxp"⟩)) fun r_ h_call => ?_)
  show Do _ _ ⟨[va letters, va most, none, none, none, none, none], []⟩ _
  refine do_seq (do_asg (i := 2) (evl_val (evl_lstD (xs := ([("" : Str)] : List Str)) (ea_consD ev_str ea_nil) (by simp))) fun (layer : (List Str)) h_layer => ?_)
  show Do _ _ ⟨[va letters, va most, va layer, none, none, none, none], []⟩ _
  refine do_seq (do_asg (i := 3) (evl_val (evl_lstD (xs := ([("" : Str)] : List Str)) (ea_consD ev_str ea_nil) (by simp))) fun (told : (List Str)) h_told => ?_)
  show Do _ _ ⟨[va letters, va most, va layer, va told, none, none, none], []⟩ _
  refine do_seq (do_forW (ei_rng1 (ea_consD (ev_var (i := 1) rfl) ea_nil) (by walk_at "fsc") (by walk_at "fsc")) eg_name (fun (pre : List Int) e_ => ∃ (la : List Str) (to : List Str), (LayI letters pre.length la to) ∧ e_ = ⟨[va letters, va most, va la, va to, none, none, none], []⟩) ?_ ?_ ?_)
  ·
    refine ⟨⟨[va letters, va most, va _, va _, none, none, none], []⟩, ⟨⟨Or.inr rfl, ⟨Or.inr rfl, ⟨Or.inr rfl, ⟨Or.inr rfl, ⟨Or.inl rfl, ⟨Or.inl rfl, ⟨Or.inl rfl, trivial⟩⟩⟩⟩⟩⟩⟩, rfl⟩, _, _, ?_, rfl⟩
    · -- vc 0
      exact layI_nil h_layer h_told
  ·
    rintro pre x post e_ hsplit ⟨la, to, hI, rfl⟩
    have hlen_hsplit := congrArg List.length hsplit; simp only [List.length_append, List.length_cons, List.length_nil, List.length_map, signs_len, rngI_len, enumI_len, keysD_len] at hlen_hsplit
    have hrng_hsplit := rng_split hsplit
    show Do _ _ ⟨[va letters, va most, va la, va to, va x, none, none], []⟩ _
    refine do_seq (do_asg (i := 2) (evl_val (evl_lc2D (ys := fun (word : Str) => (signs letters)) (h := fun (word : Str) (letter : Str) => (word ++ letter)) (ei_list (ev_var (i := 2) rfl)) eg_name (by simp) (by simp) eg_name (by simp) (by intro n hn; have h1 := lay_flat (show goodL letters from h_call) (lay_len (show goodL letters from h_call) (by omega) hI).1 n; omega) (by walk_at "fsc") (fun pre_ word post_ hs_ dc_ => (ei_str (ev_var (i := 0) rfl))) (fun pre_ word post_ hs_ pre1_ letter post1_ hs1_ dc_ => (ev_opD (ev_var (i := 5) rfl) (ev_var (i := 6) rfl) (r2_addS (by have h1 := (lay_len (show goodL letters from h_call) (by omega) hI).2.2 word (by rw [hs_]; simp); have h2 := len_one (sgn_split hs1_); omega)))))) fun (layer1 : (List Str)) h_layer1 => ?_)
    show Do _ _ ⟨[va letters, va most, va layer1, va to, va x, none, none], []⟩ _
    refine do_asg (i := 3) (evl_val (evl_cat (ev_var (i := 3) rfl) (ev_var (i := 2) rfl) (by have h1 := lay_flat (show goodL letters from h_call) (lay_len (show goodL letters from h_call) (by omega) hI).1 la.length; rw [List.take_length, ← h_layer1] at h1; have h2 := (lay_len (show goodL letters from h_call) (by omega) hI).2.1; omega))) fun (told1 : (List Str)) h_told1 => ?_
    refine ⟨⟨[va letters, va most, va _, va _, none, none, none], []⟩, ⟨⟨Or.inr rfl, ⟨Or.inr rfl, ⟨Or.inr rfl, ⟨Or.inr rfl, ⟨Or.inl rfl, ⟨Or.inl rfl, ⟨Or.inl rfl, trivial⟩⟩⟩⟩⟩⟩⟩, rfl⟩, _, _, ?_, rfl⟩
    · -- vc 1
      rw [List.length_append, List.length_singleton]; exact layI_step hI h_layer1 h_told1
  ·
    rintro e_ ⟨la, to, hI, rfl⟩
    show Do _ _ ⟨[va letters, va most, va la, va to, none, none, none], []⟩ _
    refine do_ret (ev_var (i := 3) rfl) fun z h_ret => ?_
    refine ⟨_, .slnil, rfl, ?_⟩
    · -- vc 2
      subst h_ret; exact ⟨h_call, layI_end hI⟩

end
end L03

namespace L03
open PySem L2 Fw FwX NdefX
theorem all_mk {P : Program} {w : World} {K : PySem.W.Frag} {h : Heap} {mg : Str → Option Value} {fa : Addr} {f_check_letters f_check_word f_order_key f_in_order f_words_to f_rank f_word_at f_scattered_words f_windows f_class_of f_law_start f_law_next f_law_integer f_law_exact f_law_rank f_law_word_at f_law_strings f_law_sorted f_law_all_words f_law_parts f_law_class f_law_bad_letters f_law_bad_word f_law_refused f_law_small_parts f_law C_LanguageError C_BadLetters C_BadWord f_BadWord___init : Addr}
    (X : K.In h) (G : h.Ns mainGlobals mg) (hfa : mg "law" = some (.ref fa))
    {od_check_letters an_check_letters : Option Addr} {sl_check_letters : Array (Option Value)} {oc_check_letters kV_check_letters dc_check_letters pm_check_letters cd_check_letters ct_check_letters : Value}
    (a_check_letters : PySem.W.nsIn K mainGlobals "check_letters" = some (some (.ref f_check_letters)))
    (l_check_letters : K.lookup f_check_letters = some ⟨oc_check_letters, od_check_letters, .func (PySem.W.fnOf "check_letters" "check_letters" (defArgs (topS 7)) (defBody (topS 7)) (defScope (topS 7)) .none kV_check_letters dc_check_letters pm_check_letters an_check_letters cd_check_letters ct_check_letters), sl_check_letters⟩)
    (c_check_letters : PySem.W.codeIn K cd_check_letters "check_letters" = true) (k_check_letters : PySem.W.keepIn K (.ref f_check_letters) = true)
    {od_check_word an_check_word : Option Addr} {sl_check_word : Array (Option Value)} {oc_check_word kV_check_word dc_check_word pm_check_word cd_check_word ct_check_word : Value}
    (a_check_word : PySem.W.nsIn K mainGlobals "check_word" = some (some (.ref f_check_word)))
    (l_check_word : K.lookup f_check_word = some ⟨oc_check_word, od_check_word, .func (PySem.W.fnOf "check_word" "check_word" (defArgs (topS 8)) (defBody (topS 8)) (defScope (topS 8)) .none kV_check_word dc_check_word pm_check_word an_check_word cd_check_word ct_check_word), sl_check_word⟩)
    (c_check_word : PySem.W.codeIn K cd_check_word "check_word" = true) (k_check_word : PySem.W.keepIn K (.ref f_check_word) = true)
    {od_order_key an_order_key : Option Addr} {sl_order_key : Array (Option Value)} {oc_order_key kV_order_key dc_order_key pm_order_key cd_order_key ct_order_key : Value}
    (a_order_key : PySem.W.nsIn K mainGlobals "order_key" = some (some (.ref f_order_key)))
    (l_order_key : K.lookup f_order_key = some ⟨oc_order_key, od_order_key, .func (PySem.W.fnOf "order_key" "order_key" (defArgs (topS 9)) (defBody (topS 9)) (defScope (topS 9)) .none kV_order_key dc_order_key pm_order_key an_order_key cd_order_key ct_order_key), sl_order_key⟩)
    (c_order_key : PySem.W.codeIn K cd_order_key "order_key" = true) (k_order_key : PySem.W.keepIn K (.ref f_order_key) = true)
    {od_in_order an_in_order : Option Addr} {sl_in_order : Array (Option Value)} {oc_in_order kV_in_order dc_in_order pm_in_order cd_in_order ct_in_order : Value}
    (a_in_order : PySem.W.nsIn K mainGlobals "in_order" = some (some (.ref f_in_order)))
    (l_in_order : K.lookup f_in_order = some ⟨oc_in_order, od_in_order, .func (PySem.W.fnOf "in_order" "in_order" (defArgs (topS 10)) (defBody (topS 10)) (defScope (topS 10)) .none kV_in_order dc_in_order pm_in_order an_in_order cd_in_order ct_in_order), sl_in_order⟩)
    (c_in_order : PySem.W.codeIn K cd_in_order "in_order" = true) (k_in_order : PySem.W.keepIn K (.ref f_in_order) = true)
    {od_words_to an_words_to : Option Addr} {sl_words_to : Array (Option Value)} {oc_words_to kV_words_to dc_words_to pm_words_to cd_words_to ct_words_to : Value}
    (a_words_to : PySem.W.nsIn K mainGlobals "words_to" = some (some (.ref f_words_to)))
    (l_words_to : K.lookup f_words_to = some ⟨oc_words_to, od_words_to, .func (PySem.W.fnOf "words_to" "words_to" (defArgs (topS 11)) (defBody (topS 11)) (defScope (topS 11)) .none kV_words_to dc_words_to pm_words_to an_words_to cd_words_to ct_words_to), sl_words_to⟩)
    (c_words_to : PySem.W.codeIn K cd_words_to "words_to" = true) (k_words_to : PySem.W.keepIn K (.ref f_words_to) = true)
    {od_rank an_rank : Option Addr} {sl_rank : Array (Option Value)} {oc_rank kV_rank dc_rank pm_rank cd_rank ct_rank : Value}
    (a_rank : PySem.W.nsIn K mainGlobals "rank" = some (some (.ref f_rank)))
    (l_rank : K.lookup f_rank = some ⟨oc_rank, od_rank, .func (PySem.W.fnOf "rank" "rank" (defArgs (topS 12)) (defBody (topS 12)) (defScope (topS 12)) .none kV_rank dc_rank pm_rank an_rank cd_rank ct_rank), sl_rank⟩)
    (c_rank : PySem.W.codeIn K cd_rank "rank" = true) (k_rank : PySem.W.keepIn K (.ref f_rank) = true)
    {od_word_at an_word_at : Option Addr} {sl_word_at : Array (Option Value)} {oc_word_at kV_word_at dc_word_at pm_word_at cd_word_at ct_word_at : Value}
    (a_word_at : PySem.W.nsIn K mainGlobals "word_at" = some (some (.ref f_word_at)))
    (l_word_at : K.lookup f_word_at = some ⟨oc_word_at, od_word_at, .func (PySem.W.fnOf "word_at" "word_at" (defArgs (topS 13)) (defBody (topS 13)) (defScope (topS 13)) .none kV_word_at dc_word_at pm_word_at an_word_at cd_word_at ct_word_at), sl_word_at⟩)
    (c_word_at : PySem.W.codeIn K cd_word_at "word_at" = true) (k_word_at : PySem.W.keepIn K (.ref f_word_at) = true)
    {od_scattered_words an_scattered_words : Option Addr} {sl_scattered_words : Array (Option Value)} {oc_scattered_words kV_scattered_words dc_scattered_words pm_scattered_words cd_scattered_words ct_scattered_words : Value}
    (a_scattered_words : PySem.W.nsIn K mainGlobals "scattered_words" = some (some (.ref f_scattered_words)))
    (l_scattered_words : K.lookup f_scattered_words = some ⟨oc_scattered_words, od_scattered_words, .func (PySem.W.fnOf "scattered_words" "scattered_words" (defArgs (topS 14)) (defBody (topS 14)) (defScope (topS 14)) .none kV_scattered_words dc_scattered_words pm_scattered_words an_scattered_words cd_scattered_words ct_scattered_words), sl_scattered_words⟩)
    (c_scattered_words : PySem.W.codeIn K cd_scattered_words "scattered_words" = true) (k_scattered_words : PySem.W.keepIn K (.ref f_scattered_words) = true)
    {od_windows an_windows : Option Addr} {sl_windows : Array (Option Value)} {oc_windows kV_windows dc_windows pm_windows cd_windows ct_windows : Value}
    (a_windows : PySem.W.nsIn K mainGlobals "windows" = some (some (.ref f_windows)))
    (l_windows : K.lookup f_windows = some ⟨oc_windows, od_windows, .func (PySem.W.fnOf "windows" "windows" (defArgs (topS 15)) (defBody (topS 15)) (defScope (topS 15)) .none kV_windows dc_windows pm_windows an_windows cd_windows ct_windows), sl_windows⟩)
    (c_windows : PySem.W.codeIn K cd_windows "windows" = true) (k_windows : PySem.W.keepIn K (.ref f_windows) = true)
    {od_class_of an_class_of : Option Addr} {sl_class_of : Array (Option Value)} {oc_class_of kV_class_of dc_class_of pm_class_of cd_class_of ct_class_of : Value}
    (a_class_of : PySem.W.nsIn K mainGlobals "class_of" = some (some (.ref f_class_of)))
    (l_class_of : K.lookup f_class_of = some ⟨oc_class_of, od_class_of, .func (PySem.W.fnOf "class_of" "class_of" (defArgs (topS 16)) (defBody (topS 16)) (defScope (topS 16)) .none kV_class_of dc_class_of pm_class_of an_class_of cd_class_of ct_class_of), sl_class_of⟩)
    (c_class_of : PySem.W.codeIn K cd_class_of "class_of" = true) (k_class_of : PySem.W.keepIn K (.ref f_class_of) = true)
    {od_law_start an_law_start : Option Addr} {sl_law_start : Array (Option Value)} {oc_law_start kV_law_start dc_law_start pm_law_start cd_law_start ct_law_start : Value}
    (a_law_start : PySem.W.nsIn K mainGlobals "_law_start" = some (some (.ref f_law_start)))
    (l_law_start : K.lookup f_law_start = some ⟨oc_law_start, od_law_start, .func (PySem.W.fnOf "_law_start" "_law_start" (defArgs (topS 18)) (defBody (topS 18)) (defScope (topS 18)) .none kV_law_start dc_law_start pm_law_start an_law_start cd_law_start ct_law_start), sl_law_start⟩)
    (c_law_start : PySem.W.codeIn K cd_law_start "_law_start" = true) (k_law_start : PySem.W.keepIn K (.ref f_law_start) = true)
    {od_law_next an_law_next : Option Addr} {sl_law_next : Array (Option Value)} {oc_law_next kV_law_next dc_law_next pm_law_next cd_law_next ct_law_next : Value}
    (a_law_next : PySem.W.nsIn K mainGlobals "_law_next" = some (some (.ref f_law_next)))
    (l_law_next : K.lookup f_law_next = some ⟨oc_law_next, od_law_next, .func (PySem.W.fnOf "_law_next" "_law_next" (defArgs (topS 19)) (defBody (topS 19)) (defScope (topS 19)) .none kV_law_next dc_law_next pm_law_next an_law_next cd_law_next ct_law_next), sl_law_next⟩)
    (c_law_next : PySem.W.codeIn K cd_law_next "_law_next" = true) (k_law_next : PySem.W.keepIn K (.ref f_law_next) = true)
    {od_law_integer an_law_integer : Option Addr} {sl_law_integer : Array (Option Value)} {oc_law_integer kV_law_integer dc_law_integer pm_law_integer cd_law_integer ct_law_integer : Value}
    (a_law_integer : PySem.W.nsIn K mainGlobals "_law_integer" = some (some (.ref f_law_integer)))
    (l_law_integer : K.lookup f_law_integer = some ⟨oc_law_integer, od_law_integer, .func (PySem.W.fnOf "_law_integer" "_law_integer" (defArgs (topS 20)) (defBody (topS 20)) (defScope (topS 20)) .none kV_law_integer dc_law_integer pm_law_integer an_law_integer cd_law_integer ct_law_integer), sl_law_integer⟩)
    (c_law_integer : PySem.W.codeIn K cd_law_integer "_law_integer" = true) (k_law_integer : PySem.W.keepIn K (.ref f_law_integer) = true)
    {od_law_exact an_law_exact : Option Addr} {sl_law_exact : Array (Option Value)} {oc_law_exact kV_law_exact dc_law_exact pm_law_exact cd_law_exact ct_law_exact : Value}
    (a_law_exact : PySem.W.nsIn K mainGlobals "_law_exact" = some (some (.ref f_law_exact)))
    (l_law_exact : K.lookup f_law_exact = some ⟨oc_law_exact, od_law_exact, .func (PySem.W.fnOf "_law_exact" "_law_exact" (defArgs (topS 21)) (defBody (topS 21)) (defScope (topS 21)) .none kV_law_exact dc_law_exact pm_law_exact an_law_exact cd_law_exact ct_law_exact), sl_law_exact⟩)
    (c_law_exact : PySem.W.codeIn K cd_law_exact "_law_exact" = true) (k_law_exact : PySem.W.keepIn K (.ref f_law_exact) = true)
    {od_law_rank an_law_rank : Option Addr} {sl_law_rank : Array (Option Value)} {oc_law_rank kV_law_rank dc_law_rank pm_law_rank cd_law_rank ct_law_rank : Value}
    (a_law_rank : PySem.W.nsIn K mainGlobals "_law_rank" = some (some (.ref f_law_rank)))
    (l_law_rank : K.lookup f_law_rank = some ⟨oc_law_rank, od_law_rank, .func (PySem.W.fnOf "_law_rank" "_law_rank" (defArgs (topS 22)) (defBody (topS 22)) (defScope (topS 22)) .none kV_law_rank dc_law_rank pm_law_rank an_law_rank cd_law_rank ct_law_rank), sl_law_rank⟩)
    (c_law_rank : PySem.W.codeIn K cd_law_rank "_law_rank" = true) (k_law_rank : PySem.W.keepIn K (.ref f_law_rank) = true)
    {od_law_word_at an_law_word_at : Option Addr} {sl_law_word_at : Array (Option Value)} {oc_law_word_at kV_law_word_at dc_law_word_at pm_law_word_at cd_law_word_at ct_law_word_at : Value}
    (a_law_word_at : PySem.W.nsIn K mainGlobals "_law_word_at" = some (some (.ref f_law_word_at)))
    (l_law_word_at : K.lookup f_law_word_at = some ⟨oc_law_word_at, od_law_word_at, .func (PySem.W.fnOf "_law_word_at" "_law_word_at" (defArgs (topS 23)) (defBody (topS 23)) (defScope (topS 23)) .none kV_law_word_at dc_law_word_at pm_law_word_at an_law_word_at cd_law_word_at ct_law_word_at), sl_law_word_at⟩)
    (c_law_word_at : PySem.W.codeIn K cd_law_word_at "_law_word_at" = true) (k_law_word_at : PySem.W.keepIn K (.ref f_law_word_at) = true)
    {od_law_strings an_law_strings : Option Addr} {sl_law_strings : Array (Option Value)} {oc_law_strings kV_law_strings dc_law_strings pm_law_strings cd_law_strings ct_law_strings : Value}
    (a_law_strings : PySem.W.nsIn K mainGlobals "_law_strings" = some (some (.ref f_law_strings)))
    (l_law_strings : K.lookup f_law_strings = some ⟨oc_law_strings, od_law_strings, .func (PySem.W.fnOf "_law_strings" "_law_strings" (defArgs (topS 24)) (defBody (topS 24)) (defScope (topS 24)) .none kV_law_strings dc_law_strings pm_law_strings an_law_strings cd_law_strings ct_law_strings), sl_law_strings⟩)
    (c_law_strings : PySem.W.codeIn K cd_law_strings "_law_strings" = true) (k_law_strings : PySem.W.keepIn K (.ref f_law_strings) = true)
    {od_law_sorted an_law_sorted : Option Addr} {sl_law_sorted : Array (Option Value)} {oc_law_sorted kV_law_sorted dc_law_sorted pm_law_sorted cd_law_sorted ct_law_sorted : Value}
    (a_law_sorted : PySem.W.nsIn K mainGlobals "_law_sorted" = some (some (.ref f_law_sorted)))
    (l_law_sorted : K.lookup f_law_sorted = some ⟨oc_law_sorted, od_law_sorted, .func (PySem.W.fnOf "_law_sorted" "_law_sorted" (defArgs (topS 25)) (defBody (topS 25)) (defScope (topS 25)) .none kV_law_sorted dc_law_sorted pm_law_sorted an_law_sorted cd_law_sorted ct_law_sorted), sl_law_sorted⟩)
    (c_law_sorted : PySem.W.codeIn K cd_law_sorted "_law_sorted" = true) (k_law_sorted : PySem.W.keepIn K (.ref f_law_sorted) = true)
    {od_law_all_words an_law_all_words : Option Addr} {sl_law_all_words : Array (Option Value)} {oc_law_all_words kV_law_all_words dc_law_all_words pm_law_all_words cd_law_all_words ct_law_all_words : Value}
    (a_law_all_words : PySem.W.nsIn K mainGlobals "_law_all_words" = some (some (.ref f_law_all_words)))
    (l_law_all_words : K.lookup f_law_all_words = some ⟨oc_law_all_words, od_law_all_words, .func (PySem.W.fnOf "_law_all_words" "_law_all_words" (defArgs (topS 26)) (defBody (topS 26)) (defScope (topS 26)) .none kV_law_all_words dc_law_all_words pm_law_all_words an_law_all_words cd_law_all_words ct_law_all_words), sl_law_all_words⟩)
    (c_law_all_words : PySem.W.codeIn K cd_law_all_words "_law_all_words" = true) (k_law_all_words : PySem.W.keepIn K (.ref f_law_all_words) = true)
    {od_law_parts an_law_parts : Option Addr} {sl_law_parts : Array (Option Value)} {oc_law_parts kV_law_parts dc_law_parts pm_law_parts cd_law_parts ct_law_parts : Value}
    (a_law_parts : PySem.W.nsIn K mainGlobals "_law_parts" = some (some (.ref f_law_parts)))
    (l_law_parts : K.lookup f_law_parts = some ⟨oc_law_parts, od_law_parts, .func (PySem.W.fnOf "_law_parts" "_law_parts" (defArgs (topS 27)) (defBody (topS 27)) (defScope (topS 27)) .none kV_law_parts dc_law_parts pm_law_parts an_law_parts cd_law_parts ct_law_parts), sl_law_parts⟩)
    (c_law_parts : PySem.W.codeIn K cd_law_parts "_law_parts" = true) (k_law_parts : PySem.W.keepIn K (.ref f_law_parts) = true)
    {od_law_class an_law_class : Option Addr} {sl_law_class : Array (Option Value)} {oc_law_class kV_law_class dc_law_class pm_law_class cd_law_class ct_law_class : Value}
    (a_law_class : PySem.W.nsIn K mainGlobals "_law_class" = some (some (.ref f_law_class)))
    (l_law_class : K.lookup f_law_class = some ⟨oc_law_class, od_law_class, .func (PySem.W.fnOf "_law_class" "_law_class" (defArgs (topS 28)) (defBody (topS 28)) (defScope (topS 28)) .none kV_law_class dc_law_class pm_law_class an_law_class cd_law_class ct_law_class), sl_law_class⟩)
    (c_law_class : PySem.W.codeIn K cd_law_class "_law_class" = true) (k_law_class : PySem.W.keepIn K (.ref f_law_class) = true)
    {od_law_bad_letters an_law_bad_letters : Option Addr} {sl_law_bad_letters : Array (Option Value)} {oc_law_bad_letters kV_law_bad_letters dc_law_bad_letters pm_law_bad_letters cd_law_bad_letters ct_law_bad_letters : Value}
    (a_law_bad_letters : PySem.W.nsIn K mainGlobals "_law_bad_letters" = some (some (.ref f_law_bad_letters)))
    (l_law_bad_letters : K.lookup f_law_bad_letters = some ⟨oc_law_bad_letters, od_law_bad_letters, .func (PySem.W.fnOf "_law_bad_letters" "_law_bad_letters" (defArgs (topS 29)) (defBody (topS 29)) (defScope (topS 29)) .none kV_law_bad_letters dc_law_bad_letters pm_law_bad_letters an_law_bad_letters cd_law_bad_letters ct_law_bad_letters), sl_law_bad_letters⟩)
    (c_law_bad_letters : PySem.W.codeIn K cd_law_bad_letters "_law_bad_letters" = true) (k_law_bad_letters : PySem.W.keepIn K (.ref f_law_bad_letters) = true)
    {od_law_bad_word an_law_bad_word : Option Addr} {sl_law_bad_word : Array (Option Value)} {oc_law_bad_word kV_law_bad_word dc_law_bad_word pm_law_bad_word cd_law_bad_word ct_law_bad_word : Value}
    (a_law_bad_word : PySem.W.nsIn K mainGlobals "_law_bad_word" = some (some (.ref f_law_bad_word)))
    (l_law_bad_word : K.lookup f_law_bad_word = some ⟨oc_law_bad_word, od_law_bad_word, .func (PySem.W.fnOf "_law_bad_word" "_law_bad_word" (defArgs (topS 30)) (defBody (topS 30)) (defScope (topS 30)) .none kV_law_bad_word dc_law_bad_word pm_law_bad_word an_law_bad_word cd_law_bad_word ct_law_bad_word), sl_law_bad_word⟩)
    (c_law_bad_word : PySem.W.codeIn K cd_law_bad_word "_law_bad_word" = true) (k_law_bad_word : PySem.W.keepIn K (.ref f_law_bad_word) = true)
    {od_law_refused an_law_refused : Option Addr} {sl_law_refused : Array (Option Value)} {oc_law_refused kV_law_refused dc_law_refused pm_law_refused cd_law_refused ct_law_refused : Value}
    (a_law_refused : PySem.W.nsIn K mainGlobals "_law_refused" = some (some (.ref f_law_refused)))
    (l_law_refused : K.lookup f_law_refused = some ⟨oc_law_refused, od_law_refused, .func (PySem.W.fnOf "_law_refused" "_law_refused" (defArgs (topS 31)) (defBody (topS 31)) (defScope (topS 31)) .none kV_law_refused dc_law_refused pm_law_refused an_law_refused cd_law_refused ct_law_refused), sl_law_refused⟩)
    (c_law_refused : PySem.W.codeIn K cd_law_refused "_law_refused" = true) (k_law_refused : PySem.W.keepIn K (.ref f_law_refused) = true)
    {od_law_small_parts an_law_small_parts : Option Addr} {sl_law_small_parts : Array (Option Value)} {oc_law_small_parts kV_law_small_parts dc_law_small_parts pm_law_small_parts cd_law_small_parts ct_law_small_parts : Value}
    (a_law_small_parts : PySem.W.nsIn K mainGlobals "_law_small_parts" = some (some (.ref f_law_small_parts)))
    (l_law_small_parts : K.lookup f_law_small_parts = some ⟨oc_law_small_parts, od_law_small_parts, .func (PySem.W.fnOf "_law_small_parts" "_law_small_parts" (defArgs (topS 32)) (defBody (topS 32)) (defScope (topS 32)) .none kV_law_small_parts dc_law_small_parts pm_law_small_parts an_law_small_parts cd_law_small_parts ct_law_small_parts), sl_law_small_parts⟩)
    (c_law_small_parts : PySem.W.codeIn K cd_law_small_parts "_law_small_parts" = true) (k_law_small_parts : PySem.W.keepIn K (.ref f_law_small_parts) = true)
    {od_law an_law : Option Addr} {sl_law : Array (Option Value)} {oc_law kV_law dc_law pm_law cd_law ct_law : Value}
    (a_law : PySem.W.nsIn K mainGlobals "law" = some (some (.ref f_law)))
    (l_law : K.lookup f_law = some ⟨oc_law, od_law, .func (PySem.W.fnOf "law" "law" (defArgs (topS 33)) (defBody (topS 33)) (defScope (topS 33)) .none kV_law dc_law pm_law an_law cd_law ct_law), sl_law⟩)
    (c_law : PySem.W.codeIn K cd_law "law" = true) (k_law : PySem.W.keepIn K (.ref f_law) = true)
    {tk_MOST_KINDS_OF_LETTERS : Tok} (v_MOST_KINDS_OF_LETTERS : PySem.W.nsIn K mainGlobals "MOST_KINDS_OF_LETTERS" = some (some (.int 4 tk_MOST_KINDS_OF_LETTERS)))
    {tk_SMALL : Tok} (v_SMALL : PySem.W.nsIn K mainGlobals "SMALL" = some (some (.str con_SMALL tk_SMALL)))
    (z_abs : PySem.W.nsIn K mainGlobals "abs" = some none)
    (z_any : PySem.W.nsIn K mainGlobals "any" = some none)
    (z_bool : PySem.W.nsIn K mainGlobals "bool" = some none)
    (z_divmod : PySem.W.nsIn K mainGlobals "divmod" = some none)
    (z_enumerate : PySem.W.nsIn K mainGlobals "enumerate" = some none)
    (z_int : PySem.W.nsIn K mainGlobals "int" = some none)
    (z_isinstance : PySem.W.nsIn K mainGlobals "isinstance" = some none)
    (z_len : PySem.W.nsIn K mainGlobals "len" = some none)
    (z_list : PySem.W.nsIn K mainGlobals "list" = some none)
    (z_max : PySem.W.nsIn K mainGlobals "max" = some none)
    (z_range : PySem.W.nsIn K mainGlobals "range" = some none)
    (z_sorted : PySem.W.nsIn K mainGlobals "sorted" = some none)
    (z_str : PySem.W.nsIn K mainGlobals "str" = some none)
    (z_tuple : PySem.W.nsIn K mainGlobals "tuple" = some none)
    (aC_BadLetters : PySem.W.nsIn K mainGlobals "BadLetters" = some (some (.ref C_BadLetters)))
    (q_BadLetters : PySem.W.excIn K C_BadLetters [.type "ValueError", .type "Exception", .type "BaseException", .type "object"] "ValueError.__new__" = true) (kp_BadLetters : PySem.W.keepIn K (.ref C_BadLetters) = true) (sb_BadLetters : PySem.W.subIn K (.ref C_BadLetters) (.type "BaseException") = some true) (ty_BadLetters : PySem.W.typeIn K (.ref C_BadLetters) = some (.type "type"))
    (aC_LanguageError : PySem.W.nsIn K mainGlobals "LanguageError" = some (some (.ref C_LanguageError))) (aC_BadWord : PySem.W.nsIn K mainGlobals "BadWord" = some (some (.ref C_BadWord)))
    (cl_BadLetters : (PySem.W.clsIn K C_BadLetters).isSome = true) (ga_BadLetters : PySem.W.findIn K (.ref C_BadLetters) "__getattribute__" = some (some (.builtin "BaseException.__getattribute__"))) (gg_BadLetters : PySem.W.findIn K (.ref C_BadLetters) "__getattr__" = some none) (xs_BadLetters : PySem.W.subIn K (.ref C_BadLetters) (.type "BaseException") = some true) (ca_BadLetters : PySem.W.findIn K (.ref C_BadLetters) "__class__" = some (some (.builtin "object.__class__"))) (cm_BadLetters : PySem.W.mroIn K C_BadLetters (.type "object") = some true) (hd_BadLetters : PySem.W.hasDictIn K C_BadLetters = true) (eL_BadLetters : PySem.W.exmOne K (.ref C_BadLetters) (.ref C_LanguageError) = some true)
    (cl_BadWord : (PySem.W.clsIn K C_BadWord).isSome = true) (ga_BadWord : PySem.W.findIn K (.ref C_BadWord) "__getattribute__" = some (some (.builtin "BaseException.__getattribute__"))) (gg_BadWord : PySem.W.findIn K (.ref C_BadWord) "__getattr__" = some none) (xs_BadWord : PySem.W.subIn K (.ref C_BadWord) (.type "BaseException") = some true) (ca_BadWord : PySem.W.findIn K (.ref C_BadWord) "__class__" = some (some (.builtin "object.__class__"))) (cm_BadWord : PySem.W.mroIn K C_BadWord (.type "object") = some true) (hd_BadWord : PySem.W.hasDictIn K C_BadWord = true) (eL_BadWord : PySem.W.exmOne K (.ref C_BadWord) (.ref C_LanguageError) = some true)
    (ocn : PySem.W.specialIn K (.builtin "object.__class__") "__get__" = some (some (.builtin "getset_descriptor.__get__"))) (oct : PySem.W.takesIn K (.builtin "object.__class__") = some true)
    (kBB : PySem.W.kitOne K (.ref C_BadLetters) (.ref C_BadLetters) = some true) (kBW : PySem.W.kitOne K (.ref C_BadLetters) (.ref C_BadWord) = some false) (kWB : PySem.W.kitOne K (.ref C_BadWord) (.ref C_BadLetters) = some false) (kWW : PySem.W.kitOne K (.ref C_BadWord) (.ref C_BadWord) = some true)
    (nw : PySem.W.findIn K (.ref C_BadWord) "word" = some none) (np : PySem.W.findIn K (.ref C_BadWord) "place" = some none)
    {nm q : Str} {N : Addr} {bs bm : List Value} {sn : List Str} {sub : List Value} {ab : Bool} {col : Option Bool} {dd : Option Addr} {m0 m1 m2 m3 m5 : Option Value} (xL : K.lookup C_BadWord = some (excClassObj nm q C_BadWord N bs bm true sn sub ab col dd m0 m1 m2 m3 m5 "ValueError.__new__")) (xB : PySem.HandSPX.refsVE bm = true)
    (saW : PySem.W.findIn K (.ref C_BadWord) "__setattr__" = some (some (.builtin "object.__setattr__"))) (tyW : PySem.W.typeIn K (.ref C_BadWord) = some (.type "type")) (kcW : PySem.W.keepIn K (.ref C_BadWord) = true)
    {cc cda : Addr} {iod : Option Addr} {isl : Array (Option Value)} {ioc idc ipm ict : Value} (iW : PySem.W.findIn K (.ref C_BadWord) "__init__" = some (some (.ref f_BadWord___init))) (tI : PySem.W.typeIn K (.ref f_BadWord___init) = some (.type "function")) (lI : K.lookup f_BadWord___init = some ⟨ioc, iod, .func ((nfW cc cda).fd idc ipm ict), isl⟩) (cI : PySem.W.codeIn K (.ref cda) "BadWord.__init__" = true)
    {kc1 : Value} {kd1 : Option Addr} {ks1 : Array (Option Value)} (cell : K.lookup cc = some ⟨kc1, kd1, .cell (some (.ref C_BadWord)), ks1⟩) {kc2 : Value} {kd2 : Option Addr} {kvs : Array Value} {ks2 : Array (Option Value)} {file : Str} {tf : Tok} (xcode : K.lookup cda = some ⟨kc2, kd2, .fields kvs, ks2⟩) (xv : kvs[2]? = some (.str file tf)) (xf : ((P.main.file : Str) == file) = true)
    (mW : PySem.W.mroIn K C_BadWord (.ref C_BadWord) = some true) (sW : PySem.W.ks_superIn K C_BadWord C_BadWord "__init__" = some (some (.builtin "ValueError.__init__"))) (vW : PySem.W.subIn K (.ref C_BadWord) (.type "ValueError") = some true) (opq : PySem.W.nsIn K cStatics "thirdparty.any" = some none) (iniW : PySem.W.excInitIn K C_BadWord [.type "ValueError", .type "Exception", .type "BaseException", .type "object"] "ValueError.__new__" = true) (topN : (P.main.scope.names.lookup ("super" : Str)).isSome = false) (zsup : PySem.W.nsIn K mainGlobals "super" = some none) :
    ∃ fd : FuncData, (∀ (s : Shared) (v : Value), BindsTo s fd ⟨[v], []⟩ [("script", v)]) ∧ ∀ base : Heap, K.In base → base.Ns mainGlobals mg → FnOk P w K mg base (L2.CX P w) 12 fa fd ["script"] (sp_law K) := by
  have e := hfa.symm.trans (PySem.W.mg_of X G a_law)
  cases e
  have T : Tx K mg (⟨f_check_letters, f_check_word, f_order_key, f_in_order, f_words_to, f_rank, f_word_at, f_scattered_words, f_windows, f_class_of, f_law_start, f_law_next, f_law_integer, f_law_exact, f_law_rank, f_law_word_at, f_law_strings, f_law_sorted, f_law_all_words, f_law_parts, f_law_class, f_law_bad_letters, f_law_bad_word, f_law_refused, f_law_small_parts, fa, C_LanguageError, C_BadLetters, C_BadWord, f_BadWord___init⟩ : Ad) := { c_MOST_KINDS_OF_LETTERS := ⟨_, PySem.W.mg_of X G v_MOST_KINDS_OF_LETTERS⟩, c_SMALL := ⟨_, PySem.W.mg_of X G v_SMALL⟩, m_abs := PySem.W.mg_none_of X G z_abs, m_any := PySem.W.mg_none_of X G z_any, m_bool := PySem.W.mg_none_of X G z_bool, m_divmod := PySem.W.mg_none_of X G z_divmod, m_enumerate := PySem.W.mg_none_of X G z_enumerate, m_int := PySem.W.mg_none_of X G z_int, m_isinstance := PySem.W.mg_none_of X G z_isinstance, m_len := PySem.W.mg_none_of X G z_len, m_list := PySem.W.mg_none_of X G z_list, m_max := PySem.W.mg_none_of X G z_max, m_range := PySem.W.mg_none_of X G z_range, m_sorted := PySem.W.mg_none_of X G z_sorted, m_str := PySem.W.mg_none_of X G z_str, m_tuple := PySem.W.mg_none_of X G z_tuple, x_BadLetters := ⟨q_BadLetters, PySem.W.mg_of X G aC_BadLetters, kp_BadLetters, sb_BadLetters, ty_BadLetters⟩ }
  have U : Tk K mg (⟨f_check_letters, f_check_word, f_order_key, f_in_order, f_words_to, f_rank, f_word_at, f_scattered_words, f_windows, f_class_of, f_law_start, f_law_next, f_law_integer, f_law_exact, f_law_rank, f_law_word_at, f_law_strings, f_law_sorted, f_law_all_words, f_law_parts, f_law_class, f_law_bad_letters, f_law_bad_word, f_law_refused, f_law_small_parts, fa, C_LanguageError, C_BadLetters, C_BadWord, f_BadWord___init⟩ : Ad) := ⟨PySem.W.mg_of X G aC_LanguageError, PySem.W.mg_of X G aC_BadLetters, PySem.W.mg_of X G aC_BadWord, eL_BadLetters, eL_BadWord, kBB, kBW, kWB, kWW, ⟨cl_BadLetters, ga_BadLetters, gg_BadLetters, xs_BadLetters, ca_BadLetters, ocn, oct, cm_BadLetters, hd_BadLetters⟩, ⟨cl_BadWord, ga_BadWord, gg_BadWord, xs_BadWord, ca_BadWord, ocn, oct, cm_BadWord, hd_BadWord⟩, ⟨ga_BadWord, gg_BadWord, xs_BadWord, hd_BadWord⟩, nw, np⟩
  have OX : OexC K C_BadWord := ⟨⟨nm, q, N, bs, bm, sn, sub, ab, col, dd, m0, m1, m2, m3, m5, xL, xB⟩, saW, xs_BadWord, tyW, kcW⟩
  have XI : XcI P K C_BadWord cc cda (nfW cc cda) := ⟨OX, rfl, ⟨_, _, _, cell⟩, rfl, ⟨_, _, _, _, _, _, xcode, xv, xf⟩, Option.isSome_iff_exists.mp cl_BadWord, mW, sW, vW, opq, iniW, topN⟩
  refine ⟨PySem.W.fnOf "law" "law" (defArgs (topS 33)) (defBody (topS 33)) (defScope (topS 33)) .none kV_law dc_law pm_law an_law cd_law ct_law, fun s v => .of_eq rfl, fun base _ _ => ?_⟩
  have F_check_letters := fun_mk (st := topS 7) l_check_letters c_check_letters k_check_letters
  have b_check_letters := F_check_letters.binds (ps := ["letters"]) fun _ _ _ _ _ _ us hl => match us, hl with | [_], _ => rfl
  have F_check_word := fun_mk (st := topS 8) l_check_word c_check_word k_check_word
  have b_check_word := F_check_word.binds (ps := ["letters", "word"]) fun _ _ _ _ _ _ us hl => match us, hl with | [_, _], _ => rfl
  have F_order_key := fun_mk (st := topS 9) l_order_key c_order_key k_order_key
  have b_order_key := F_order_key.binds (ps := ["word"]) fun _ _ _ _ _ _ us hl => match us, hl with | [_], _ => rfl
  have F_in_order := fun_mk (st := topS 10) l_in_order c_in_order k_in_order
  have b_in_order := F_in_order.binds (ps := ["words"]) fun _ _ _ _ _ _ us hl => match us, hl with | [_], _ => rfl
  have F_words_to := fun_mk (st := topS 11) l_words_to c_words_to k_words_to
  have b_words_to := F_words_to.binds (ps := ["letters", "most"]) fun _ _ _ _ _ _ us hl => match us, hl with | [_, _], _ => rfl
  have F_rank := fun_mk (st := topS 12) l_rank c_rank k_rank
  have b_rank := F_rank.binds (ps := ["letters", "word"]) fun _ _ _ _ _ _ us hl => match us, hl with | [_, _], _ => rfl
  have F_word_at := fun_mk (st := topS 13) l_word_at c_word_at k_word_at
  have b_word_at := F_word_at.binds (ps := ["letters", "number"]) fun _ _ _ _ _ _ us hl => match us, hl with | [_, _], _ => rfl
  have F_scattered_words := fun_mk (st := topS 14) l_scattered_words c_scattered_words k_scattered_words
  have b_scattered_words := F_scattered_words.binds (ps := ["word", "most"]) fun _ _ _ _ _ _ us hl => match us, hl with | [_, _], _ => rfl
  have F_windows := fun_mk (st := topS 15) l_windows c_windows k_windows
  have b_windows := F_windows.binds (ps := ["word", "size"]) fun _ _ _ _ _ _ us hl => match us, hl with | [_, _], _ => rfl
  have F_class_of := fun_mk (st := topS 16) l_class_of c_class_of k_class_of
  have b_class_of := F_class_of.binds (ps := ["letters", "word", "exact", "period"]) fun _ _ _ _ _ _ us hl => match us, hl with | [_, _, _, _], _ => rfl
  have F_law_start := fun_mk (st := topS 18) l_law_start c_law_start k_law_start
  have b_law_start := F_law_start.binds (ps := ["script"]) fun _ _ _ _ _ _ us hl => match us, hl with | [_], _ => rfl
  have F_law_next := fun_mk (st := topS 19) l_law_next c_law_next k_law_next
  have b_law_next := F_law_next.binds (ps := ["state", "many"]) fun _ _ _ _ _ _ us hl => match us, hl with | [_, _], _ => rfl
  have F_law_integer := fun_mk (st := topS 20) l_law_integer c_law_integer k_law_integer
  have b_law_integer := F_law_integer.binds (ps := ["actual"]) fun _ _ _ _ _ _ us hl => match us, hl with | [_], _ => rfl
  have F_law_exact := fun_mk (st := topS 21) l_law_exact c_law_exact k_law_exact
  have b_law_exact := F_law_exact.binds (ps := ["state", "letters", "size"]) fun _ _ _ _ _ _ us hl => match us, hl with | [_, _, _], _ => rfl
  have F_law_rank := fun_mk (st := topS 22) l_law_rank c_law_rank k_law_rank
  have b_law_rank := F_law_rank.binds (ps := ["letters", "word"]) fun _ _ _ _ _ _ us hl => match us, hl with | [_, _], _ => rfl
  have F_law_word_at := fun_mk (st := topS 23) l_law_word_at c_law_word_at k_law_word_at
  have b_law_word_at := F_law_word_at.binds (ps := ["letters", "number"]) fun _ _ _ _ _ _ us hl => match us, hl with | [_, _], _ => rfl
  have F_law_strings := fun_mk (st := topS 24) l_law_strings c_law_strings k_law_strings
  have b_law_strings := F_law_strings.binds (ps := ["actual", "due"]) fun _ _ _ _ _ _ us hl => match us, hl with | [_, _], _ => rfl
  have F_law_sorted := fun_mk (st := topS 25) l_law_sorted c_law_sorted k_law_sorted
  have b_law_sorted := F_law_sorted.binds (ps := ["words"]) fun _ _ _ _ _ _ us hl => match us, hl with | [_], _ => rfl
  have F_law_all_words := fun_mk (st := topS 26) l_law_all_words c_law_all_words k_law_all_words
  have b_law_all_words := F_law_all_words.binds (ps := ["letters", "most"]) fun _ _ _ _ _ _ us hl => match us, hl with | [_, _], _ => rfl
  have F_law_parts := fun_mk (st := topS 27) l_law_parts c_law_parts k_law_parts
  have b_law_parts := F_law_parts.binds (ps := ["word", "most"]) fun _ _ _ _ _ _ us hl => match us, hl with | [_, _], _ => rfl
  have F_law_class := fun_mk (st := topS 28) l_law_class c_law_class k_law_class
  have b_law_class := F_law_class.binds (ps := ["letters", "word", "exact", "period"]) fun _ _ _ _ _ _ us hl => match us, hl with | [_, _, _, _], _ => rfl
  have F_law_bad_letters := fun_mk (st := topS 29) l_law_bad_letters c_law_bad_letters k_law_bad_letters
  have b_law_bad_letters := F_law_bad_letters.binds (ps := ["call", "letters", "word"]) fun _ _ _ _ _ _ us hl => match us, hl with | [_, _, _], _ => rfl
  have F_law_bad_word := fun_mk (st := topS 30) l_law_bad_word c_law_bad_word k_law_bad_word
  have b_law_bad_word := F_law_bad_word.binds (ps := ["letters", "word", "place"]) fun _ _ _ _ _ _ us hl => match us, hl with | [_, _, _], _ => rfl
  have F_law_refused := fun_mk (st := topS 31) l_law_refused c_law_refused k_law_refused
  have b_law_refused := F_law_refused.binds (ps := ["state", "letters", "word"]) fun _ _ _ _ _ _ us hl => match us, hl with | [_, _, _], _ => rfl
  have F_law_small_parts := fun_mk (st := topS 32) l_law_small_parts c_law_small_parts k_law_small_parts
  have b_law_small_parts := F_law_small_parts.binds (ps := ["state", "letters"]) fun _ _ _ _ _ _ us hl => match us, hl with | [_, _], _ => rfl
  have F_law := fun_mk (st := topS 33) l_law c_law k_law
  have x_BadWord : CalX P w K mg base 1 C_BadWord "BadWord" ["word", "place"] := ⟨OX, ⟨_, _, _, iW, tI, ok_init lI cI XI (PySem.W.mg_none_of X G zsup) nw np, binds_init⟩, PySem.W.mg_of X G aC_BadWord⟩
  have k_key_order := key_order_key (P := P) (w := w) (base := base) (mg := mg) (PySem.W.mg_none_of X G z_len) F_order_key b_order_key
  have h_law_word_at : Cal P w K mg base 1 f_law_word_at "_law_word_at" ["letters", "number"] (sp_law_word_at K) := ⟨⟨_, ok_law_word_at T  F_law_word_at, b_law_word_at⟩, PySem.W.mg_of X G a_law_word_at, k_law_word_at⟩
  have h_law_all_words : Cal P w K mg base 2 f_law_all_words "_law_all_words" ["letters", "most"] (sp_law_all_words K) := ⟨⟨_, ok_law_all_words T h_law_word_at F_law_all_words, b_law_all_words⟩, PySem.W.mg_of X G a_law_all_words, k_law_all_words⟩
  have h_law_next : Cal P w K mg base 1 f_law_next "_law_next" ["state", "many"] (sp_law_next K) := ⟨⟨_, ok_law_next T  F_law_next, b_law_next⟩, PySem.W.mg_of X G a_law_next, k_law_next⟩
  have h_law_exact : Cal P w K mg base 2 f_law_exact "_law_exact" ["state", "letters", "size"] (sp_law_exact K) := ⟨⟨_, ok_law_exact T h_law_next F_law_exact, b_law_exact⟩, PySem.W.mg_of X G a_law_exact, k_law_exact⟩
  have h_law_integer : Cal P w K mg base 1 f_law_integer "_law_integer" ["actual"] (sp_law_integer K) := ⟨⟨_, ok_law_integer T  F_law_integer, b_law_integer⟩, PySem.W.mg_of X G a_law_integer, k_law_integer⟩
  have h_law_rank : Cal P w K mg base 1 f_law_rank "_law_rank" ["letters", "word"] (sp_law_rank K) := ⟨⟨_, ok_law_rank T  F_law_rank, b_law_rank⟩, PySem.W.mg_of X G a_law_rank, k_law_rank⟩
  have h_check_letters : Cal P w K mg base 1 f_check_letters "check_letters" ["letters"] (sp_check_letters K (⟨f_check_letters, f_check_word, f_order_key, f_in_order, f_words_to, f_rank, f_word_at, f_scattered_words, f_windows, f_class_of, f_law_start, f_law_next, f_law_integer, f_law_exact, f_law_rank, f_law_word_at, f_law_strings, f_law_sorted, f_law_all_words, f_law_parts, f_law_class, f_law_bad_letters, f_law_bad_word, f_law_refused, f_law_small_parts, fa, C_LanguageError, C_BadLetters, C_BadWord, f_BadWord___init⟩ : Ad)) := ⟨⟨_, ok_check_letters T  F_check_letters, b_check_letters⟩, PySem.W.mg_of X G a_check_letters, k_check_letters⟩
  have h_check_word : Cal P w K mg base 3 f_check_word "check_word" ["letters", "word"] (sp_check_word K (⟨f_check_letters, f_check_word, f_order_key, f_in_order, f_words_to, f_rank, f_word_at, f_scattered_words, f_windows, f_class_of, f_law_start, f_law_next, f_law_integer, f_law_exact, f_law_rank, f_law_word_at, f_law_strings, f_law_sorted, f_law_all_words, f_law_parts, f_law_class, f_law_bad_letters, f_law_bad_word, f_law_refused, f_law_small_parts, fa, C_LanguageError, C_BadLetters, C_BadWord, f_BadWord___init⟩ : Ad)) := ⟨⟨_, ok_check_word T x_BadWord F_check_word, b_check_word⟩, PySem.W.mg_of X G a_check_word, k_check_word⟩
  have h_rank : Cal P w K mg base 4 f_rank "rank" ["letters", "word"] (sp_rank K (⟨f_check_letters, f_check_word, f_order_key, f_in_order, f_words_to, f_rank, f_word_at, f_scattered_words, f_windows, f_class_of, f_law_start, f_law_next, f_law_integer, f_law_exact, f_law_rank, f_law_word_at, f_law_strings, f_law_sorted, f_law_all_words, f_law_parts, f_law_class, f_law_bad_letters, f_law_bad_word, f_law_refused, f_law_small_parts, fa, C_LanguageError, C_BadLetters, C_BadWord, f_BadWord___init⟩ : Ad)) := ⟨⟨_, ok_rank T h_check_letters h_check_word F_rank, b_rank⟩, PySem.W.mg_of X G a_rank, k_rank⟩
  have h_word_at : Cal P w K mg base 2 f_word_at "word_at" ["letters", "number"] (sp_word_at K (⟨f_check_letters, f_check_word, f_order_key, f_in_order, f_words_to, f_rank, f_word_at, f_scattered_words, f_windows, f_class_of, f_law_start, f_law_next, f_law_integer, f_law_exact, f_law_rank, f_law_word_at, f_law_strings, f_law_sorted, f_law_all_words, f_law_parts, f_law_class, f_law_bad_letters, f_law_bad_word, f_law_refused, f_law_small_parts, fa, C_LanguageError, C_BadLetters, C_BadWord, f_BadWord___init⟩ : Ad)) := ⟨⟨_, ok_word_at T h_check_letters F_word_at, b_word_at⟩, PySem.W.mg_of X G a_word_at, k_word_at⟩
  have h_words_to : Cal P w K mg base 2 f_words_to "words_to" ["letters", "most"] (sp_words_to K (⟨f_check_letters, f_check_word, f_order_key, f_in_order, f_words_to, f_rank, f_word_at, f_scattered_words, f_windows, f_class_of, f_law_start, f_law_next, f_law_integer, f_law_exact, f_law_rank, f_law_word_at, f_law_strings, f_law_sorted, f_law_all_words, f_law_parts, f_law_class, f_law_bad_letters, f_law_bad_word, f_law_refused, f_law_small_parts, fa, C_LanguageError, C_BadLetters, C_BadWord, f_BadWord___init⟩ : Ad)) := ⟨⟨_, ok_words_to T h_check_letters F_words_to, b_words_to⟩, PySem.W.mg_of X G a_words_to, k_words_to⟩
  have h_law_bad_letters : Cal P w K mg base 10 f_law_bad_letters "_law_bad_letters" ["call", "letters", "word"] (sp_law_bad_letters K) := ⟨⟨_, ok_law_bad_letters T U h_rank h_word_at h_words_to F_law_bad_letters, b_law_bad_letters⟩, PySem.W.mg_of X G a_law_bad_letters, k_law_bad_letters⟩
  have h_law_bad_word : Cal P w K mg base 10 f_law_bad_word "_law_bad_word" ["letters", "word", "place"] (sp_law_bad_word K) := ⟨⟨_, ok_law_bad_word T U h_rank F_law_bad_word, b_law_bad_word⟩, PySem.W.mg_of X G a_law_bad_word, k_law_bad_word⟩
  have h_law_refused : Cal P w K mg base 11 f_law_refused "_law_refused" ["state", "letters", "word"] (sp_law_refused K) := ⟨⟨_, ok_law_refused T h_law_bad_letters h_law_bad_word h_law_next F_law_refused, b_law_refused⟩, PySem.W.mg_of X G a_law_refused, k_law_refused⟩
  have h_law_class : Cal P w K mg base 1 f_law_class "_law_class" ["letters", "word", "exact", "period"] (sp_law_class K) := ⟨⟨_, ok_law_class T  F_law_class, b_law_class⟩, PySem.W.mg_of X G a_law_class, k_law_class⟩
  have h_law_sorted : Cal P w K mg base 1 f_law_sorted "_law_sorted" ["words"] (sp_law_sorted K) := ⟨⟨_, ok_law_sorted T  F_law_sorted, b_law_sorted⟩, PySem.W.mg_of X G a_law_sorted, k_law_sorted⟩
  have h_law_parts : Cal P w K mg base 2 f_law_parts "_law_parts" ["word", "most"] (sp_law_parts K) := ⟨⟨_, ok_law_parts T h_law_sorted F_law_parts, b_law_parts⟩, PySem.W.mg_of X G a_law_parts, k_law_parts⟩
  have h_law_strings : Cal P w K mg base 1 f_law_strings "_law_strings" ["actual", "due"] (sp_law_strings K) := ⟨⟨_, ok_law_strings T  F_law_strings, b_law_strings⟩, PySem.W.mg_of X G a_law_strings, k_law_strings⟩
  have h_class_of : Cal P w K mg base 1 f_class_of "class_of" ["letters", "word", "exact", "period"] (sp_class_of K) := ⟨⟨_, ok_class_of T  F_class_of, b_class_of⟩, PySem.W.mg_of X G a_class_of, k_class_of⟩
  have h_scattered_words : Cal P w K mg base 5 f_scattered_words "scattered_words" ["word", "most"] (sp_scattered_words K) := ⟨⟨_, ok_scattered_words T k_key_order (PySem.W.mg_of X G a_order_key) F_scattered_words, b_scattered_words⟩, PySem.W.mg_of X G a_scattered_words, k_scattered_words⟩
  have h_in_order : Cal P w K mg base 5 f_in_order "in_order" ["words"] (sp_in_order K) := ⟨⟨_, ok_in_order T k_key_order (PySem.W.mg_of X G a_order_key) F_in_order, b_in_order⟩, PySem.W.mg_of X G a_in_order, k_in_order⟩
  have h_windows : Cal P w K mg base 6 f_windows "windows" ["word", "size"] (sp_windows K) := ⟨⟨_, ok_windows T h_in_order F_windows, b_windows⟩, PySem.W.mg_of X G a_windows, k_windows⟩
  have h_law_small_parts : Cal P w K mg base 7 f_law_small_parts "_law_small_parts" ["state", "letters"] (sp_law_small_parts K) := ⟨⟨_, ok_law_small_parts T h_law_class h_law_exact h_law_integer h_law_next h_law_parts h_law_sorted h_law_strings h_class_of h_scattered_words h_windows F_law_small_parts, b_law_small_parts⟩, PySem.W.mg_of X G a_law_small_parts, k_law_small_parts⟩
  have h_law_start : Cal P w K mg base 1 f_law_start "_law_start" ["script"] (sp_law_start K) := ⟨⟨_, ok_law_start T  F_law_start, b_law_start⟩, PySem.W.mg_of X G a_law_start, k_law_start⟩
  exact ok_law T h_law_all_words h_law_exact h_law_integer h_law_next h_law_rank h_law_refused h_law_small_parts h_law_sorted h_law_start h_law_strings h_law_word_at h_in_order h_rank h_word_at h_words_to F_law
theorem hCX {P : Program} {w : World} {H : Hp} {s : Shared} {e : Value} {s' : Shared} (h : L2.CX P w [] H s (fun _ _ _ => False) e s') : False := by
  obtain ⟨_, _, _, _, _, _, _, _, _, _, _, _, z⟩ := h
  exact z
end L03
open PySem PySem.W PyProof.Rows
set_option maxRecDepth 100000 in
set_option maxHeartbeats 0 in
theorem PySem.Challenge.cw_treesfromyes_k03_words_and_their_order_holds : PySem.Challenge.rw_treesfromyes_k03_words_and_their_order.Holds := by
  w_on; o_law; k_head; (case hw => w_witness2)
  k_fill
  refine L2.walk_of (l := PySem.Challenge.rw_treesfromyes_k03_words_and_their_order) (n := 63) (k := 12) (x := "script") (CX := fun w => L2.CX PySem.Challenge.rw_treesfromyes_k03_words_and_their_order.prog w) (sp := fun w => L03.sp_law _) rfl (by decide) rfl ⟨rfl, by decide, by decide⟩ (fun w h Y => PySem.W.kIn_of Y) ?F (fun w H a ns hl _ hS => ⟨Fw.Scr.mk ns, hl, Fw.Call.scr (fun b hb => hb) hS⟩) fun w H s e s' z => L03.hCX z
  case F =>
    intro w mg fa h KX G hmg
    refine' L03.all_mk KX G hmg ?a_check_letters ?l_check_letters ?c_check_letters ?k_check_letters ?a_check_word ?l_check_word ?c_check_word ?k_check_word ?a_order_key ?l_order_key ?c_order_key ?k_order_key ?a_in_order ?l_in_order ?c_in_order ?k_in_order ?a_words_to ?l_words_to ?c_words_to ?k_words_to ?a_rank ?l_rank ?c_rank ?k_rank ?a_word_at ?l_word_at ?c_word_at ?k_word_at ?a_scattered_words ?l_scattered_words ?c_scattered_words ?k_scattered_words ?a_windows ?l_windows ?c_windows ?k_windows ?a_class_of ?l_class_of ?c_class_of ?k_class_of ?a_law_start ?l_law_start ?c_law_start ?k_law_start ?a_law_next ?l_law_next ?c_law_next ?k_law_next ?a_law_integer ?l_law_integer ?c_law_integer ?k_law_integer ?a_law_exact ?l_law_exact ?c_law_exact ?k_law_exact ?a_law_rank ?l_law_rank ?c_law_rank ?k_law_rank ?a_law_word_at ?l_law_word_at ?c_law_word_at ?k_law_word_at ?a_law_strings ?l_law_strings ?c_law_strings ?k_law_strings ?a_law_sorted ?l_law_sorted ?c_law_sorted ?k_law_sorted ?a_law_all_words ?l_law_all_words ?c_law_all_words ?k_law_all_words ?a_law_parts ?l_law_parts ?c_law_parts ?k_law_parts ?a_law_class ?l_law_class ?c_law_class ?k_law_class ?a_law_bad_letters ?l_law_bad_letters ?c_law_bad_letters ?k_law_bad_letters ?a_law_bad_word ?l_law_bad_word ?c_law_bad_word ?k_law_bad_word ?a_law_refused ?l_law_refused ?c_law_refused ?k_law_refused ?a_law_small_parts ?l_law_small_parts ?c_law_small_parts ?k_law_small_parts ?a_law ?l_law ?c_law ?k_law ?v_MOST_KINDS_OF_LETTERS ?v_SMALL ?z_abs ?z_any ?z_bool ?z_divmod ?z_enumerate ?z_int ?z_isinstance ?z_len ?z_list ?z_max ?z_range ?z_sorted ?z_str ?z_tuple ?aC_BadLetters ?q_BadLetters ?kp_BadLetters ?sb_BadLetters ?ty_BadLetters ?aC_LanguageError ?aC_BadWord ?cl_BadLetters ?ga_BadLetters ?gg_BadLetters ?xs_BadLetters ?ca_BadLetters ?cm_BadLetters ?hd_BadLetters ?eL_BadLetters ?cl_BadWord ?ga_BadWord ?gg_BadWord ?xs_BadWord ?ca_BadWord ?cm_BadWord ?hd_BadWord ?eL_BadWord ?ocn ?oct ?kBB ?kBW ?kWB ?kWW ?nw ?np ?xL ?xB ?saW ?tyW ?kcW ?iW ?tI ?lI ?cI ?cell ?xcode ?xv ?xf ?mW ?sW ?vW ?opq ?iniW ?topN ?zsup
    (case a_check_letters => k_is)
    (case l_check_letters => k_is)
    (case c_check_letters => k_is)
    (case k_check_letters => k_is)
    (case a_check_word => k_is)
    (case l_check_word => k_is)
    (case c_check_word => k_is)
    (case k_check_word => k_is)
    (case a_order_key => k_is)
    (case l_order_key => k_is)
    (case c_order_key => k_is)
    (case k_order_key => k_is)
    (case a_in_order => k_is)
    (case l_in_order => k_is)
    (case c_in_order => k_is)
    (case k_in_order => k_is)
    (case a_words_to => k_is)
    (case l_words_to => k_is)
    (case c_words_to => k_is)
    (case k_words_to => k_is)
    (case a_rank => k_is)
    (case l_rank => k_is)
    (case c_rank => k_is)
    (case k_rank => k_is)
    (case a_word_at => k_is)
    (case l_word_at => k_is)
    (case c_word_at => k_is)
    (case k_word_at => k_is)
    (case a_scattered_words => k_is)
    (case l_scattered_words => k_is)
    (case c_scattered_words => k_is)
    (case k_scattered_words => k_is)
    (case a_windows => k_is)
    (case l_windows => k_is)
    (case c_windows => k_is)
    (case k_windows => k_is)
    (case a_class_of => k_is)
    (case l_class_of => k_is)
    (case c_class_of => k_is)
    (case k_class_of => k_is)
    (case a_law_start => k_is)
    (case l_law_start => k_is)
    (case c_law_start => k_is)
    (case k_law_start => k_is)
    (case a_law_next => k_is)
    (case l_law_next => k_is)
    (case c_law_next => k_is)
    (case k_law_next => k_is)
    (case a_law_integer => k_is)
    (case l_law_integer => k_is)
    (case c_law_integer => k_is)
    (case k_law_integer => k_is)
    (case a_law_exact => k_is)
    (case l_law_exact => k_is)
    (case c_law_exact => k_is)
    (case k_law_exact => k_is)
    (case a_law_rank => k_is)
    (case l_law_rank => k_is)
    (case c_law_rank => k_is)
    (case k_law_rank => k_is)
    (case a_law_word_at => k_is)
    (case l_law_word_at => k_is)
    (case c_law_word_at => k_is)
    (case k_law_word_at => k_is)
    (case a_law_strings => k_is)
    (case l_law_strings => k_is)
    (case c_law_strings => k_is)
    (case k_law_strings => k_is)
    (case a_law_sorted => k_is)
    (case l_law_sorted => k_is)
    (case c_law_sorted => k_is)
    (case k_law_sorted => k_is)
    (case a_law_all_words => k_is)
    (case l_law_all_words => k_is)
    (case c_law_all_words => k_is)
    (case k_law_all_words => k_is)
    (case a_law_parts => k_is)
    (case l_law_parts => k_is)
    (case c_law_parts => k_is)
    (case k_law_parts => k_is)
    (case a_law_class => k_is)
    (case l_law_class => k_is)
    (case c_law_class => k_is)
    (case k_law_class => k_is)
    (case a_law_bad_letters => k_is)
    (case l_law_bad_letters => k_is)
    (case c_law_bad_letters => k_is)
    (case k_law_bad_letters => k_is)
    (case a_law_bad_word => k_is)
    (case l_law_bad_word => k_is)
    (case c_law_bad_word => k_is)
    (case k_law_bad_word => k_is)
    (case a_law_refused => k_is)
    (case l_law_refused => k_is)
    (case c_law_refused => k_is)
    (case k_law_refused => k_is)
    (case a_law_small_parts => k_is)
    (case l_law_small_parts => k_is)
    (case c_law_small_parts => k_is)
    (case k_law_small_parts => k_is)
    (case a_law => k_is)
    (case l_law => k_is)
    (case c_law => k_is)
    (case k_law => k_is)
    (case v_MOST_KINDS_OF_LETTERS => k_is)
    (case v_SMALL => k_is)
    (case z_abs => k_is)
    (case z_any => k_is)
    (case z_bool => k_is)
    (case z_divmod => k_is)
    (case z_enumerate => k_is)
    (case z_int => k_is)
    (case z_isinstance => k_is)
    (case z_len => k_is)
    (case z_list => k_is)
    (case z_max => k_is)
    (case z_range => k_is)
    (case z_sorted => k_is)
    (case z_str => k_is)
    (case z_tuple => k_is)
    (case aC_BadLetters => k_is)
    (case q_BadLetters => k_exc)
    (case kp_BadLetters => k_is)
    (case sb_BadLetters => k_is)
    (case ty_BadLetters => k_is)
    (case aC_LanguageError => k_is)
    (case aC_BadWord => k_is)
    (case cl_BadLetters => first | k_is | kx_is | k_exc | rfl | decide +kernel)
    (case ga_BadLetters => first | k_is | kx_is | k_exc | rfl | decide +kernel)
    (case gg_BadLetters => first | k_is | kx_is | k_exc | rfl | decide +kernel)
    (case xs_BadLetters => first | k_is | kx_is | k_exc | rfl | decide +kernel)
    (case ca_BadLetters => first | k_is | kx_is | k_exc | rfl | decide +kernel)
    (case cm_BadLetters => first | k_is | kx_is | k_exc | rfl | decide +kernel)
    (case hd_BadLetters => first | k_is | kx_is | k_exc | rfl | decide +kernel)
    (case eL_BadLetters => first | k_is | kx_is | k_exc | rfl | decide +kernel)
    (case cl_BadWord => first | k_is | kx_is | k_exc | rfl | decide +kernel)
    (case ga_BadWord => first | k_is | kx_is | k_exc | rfl | decide +kernel)
    (case gg_BadWord => first | k_is | kx_is | k_exc | rfl | decide +kernel)
    (case xs_BadWord => first | k_is | kx_is | k_exc | rfl | decide +kernel)
    (case ca_BadWord => first | k_is | kx_is | k_exc | rfl | decide +kernel)
    (case cm_BadWord => first | k_is | kx_is | k_exc | rfl | decide +kernel)
    (case hd_BadWord => first | k_is | kx_is | k_exc | rfl | decide +kernel)
    (case eL_BadWord => first | k_is | kx_is | k_exc | rfl | decide +kernel)
    (case ocn => first | k_is | kx_is | k_exc | rfl | decide +kernel)
    (case oct => first | k_is | kx_is | k_exc | rfl | decide +kernel)
    (case kBB => first | k_is | kx_is | k_exc | rfl | decide +kernel)
    (case kBW => first | k_is | kx_is | k_exc | rfl | decide +kernel)
    (case kWB => first | k_is | kx_is | k_exc | rfl | decide +kernel)
    (case kWW => first | k_is | kx_is | k_exc | rfl | decide +kernel)
    (case nw => k_is)
    (case np => k_is)
    (case xL => k_is)
    (case xB => first | k_is | kx_is | k_exc | rfl | decide +kernel)
    (case saW => k_is)
    (case tyW => k_is)
    (case kcW => k_is)
    (case iW => k_is)
    (case tI => k_is)
    (case lI => k_is)
    (case cI => k_is)
    (case cell => k_is)
    (case xcode => k_is)
    (case xv => first | k_is | kx_is | k_exc | rfl | decide +kernel)
    (case xf => first | k_is | kx_is | k_exc | rfl | decide +kernel)
    (case mW => first | k_is | kx_is | k_exc | rfl | decide +kernel)
    (case sW => first | k_is | kx_is | k_exc | rfl | decide +kernel)
    (case vW => first | k_is | kx_is | k_exc | rfl | decide +kernel)
    (case opq => first | k_is | kx_is | k_exc | rfl | decide +kernel)
    (case iniW => first | k_is | kx_is | k_exc | rfl | decide +kernel)
    (case topN => first | k_is | kx_is | k_exc | rfl | decide +kernel)
    (case zsup => first | k_is | kx_is | k_exc | rfl | decide +kernel)

