import PyProof.Rows.All
import Wide.All
import OpenK.AllK
import Wide.FinOn
import HandS.ForMost
import HandS.Exc
import HandS.TryOnly
import HandS.ExcOwn
import HandS.WordsExc
import HandS.IsInst
import HandS.StrMore
import HandS.Conv
import HandS.Flow
import KE.GoesEnum
import HandS.ExcCtx
import HandS.HotCalls
import HandS.ExcInit
import HandS.RaiseMore
import HandS.Steps
import PyProof.StrBlock2
import HandS.More
import HandS.Dict
import KE.SortData
import KE.SortKeyHeap
import KE.SortUse
import HandS.SortKw
import KE.KExcSuper
import KE.KSuper
import KE.KExcMake
import HandS.ExcField
import HandS.ExcIs
import HandS.NestedK
import KE.KExcIs
import KE.IntTextLaws
import HandS.Text
import HandS.Codes
import HandS.TupLe
import PyProof.Rows.StrJoinRep
import PyProof.StrLawsTight
import PyProof.StrLawsChain
import PyProof.Rows.StrItems
import PyProof.Rows.StrSplitAre
import PySem.Challenge.RW_treesfromyes_k91_texts_of_samples
import KE.KExcLine
set_option Elab.async false
set_option linter.all false
set_option maxRecDepth 100000
set_option maxHeartbeats 4000000
/-! Fw: judgements over typed data in the place of slots and heaps -/
namespace Fw
open PySem L2

/-! ### data -/
class Enc (α : Type) where
  rep : PySem.W.Frag → Hp → V → α → Prop
  mono : ∀ {K : PySem.W.Frag} {H H' : Hp} {v : V} {x : α}, Same H H' → rep K H v x → rep K H' v x
/-- data without a heap -/
class EncF (α : Type) extends Enc α where
  toV : α → V
  repV : ∀ {K : PySem.W.Frag} {H : Hp} {v : V} {x : α}, rep K H v x ↔ v = toV x
instance : EncF Int := { rep := fun _ _ v x => v = .int x, mono := fun _ h => h, toV := .int, repV := Iff.rfl }
instance : EncF Bool := { rep := fun _ _ v x => v = .bl x, mono := fun _ h => h, toV := .bl, repV := Iff.rfl }
instance : EncF Str := { rep := fun _ _ v x => v = .str x, mono := fun _ h => h, toV := .str, repV := Iff.rfl }
instance : EncF Unit := { rep := fun _ _ v _ => v = .non, mono := fun _ h => h, toV := fun _ => .non, repV := Iff.rfl }
/-- a bare address -/
structure Adr where
  a : Addr
instance : EncF Adr := { rep := fun _ _ v x => v = .ref x.a, mono := fun _ h => h, toV := fun x => .ref x.a, repV := Iff.rfl }
instance {α : Type} [Enc α] : Enc (Option α) where
  rep := fun K H v x => match x with
    | none => v = .non
    | some y => Enc.rep K H v y
  mono := fun {K H H' v x} e h => by
    cases x with
    | none => exact h
    | some y => exact Enc.mono e h
theorem paired_mono {α : Type} [Enc α] {K : PySem.W.Frag} {H H' : Hp} (e : Same H H') {vs : List V} {xs : List α} (h : Paired (Enc.rep K H) vs xs) : Paired (Enc.rep K H') vs xs := Paired.mapP h fun _ _ r => Enc.mono e r
theorem same_t {K : PySem.W.Frag} {H H' : Hp} {a : Addr} {xs : List V} (e : Same H H') (h : SqT K H a xs) : SqT K H' a xs := by
  rcases h with (h | ⟨o, h⟩) | h
  · exact .inl (.inl (e _ _ h))
  · exact .inl (.inr ⟨o, e _ _ h⟩)
  · exact .inr h
instance {α : Type} [Enc α] : Enc (List α) where
  rep := fun K H v xs => ∃ a vs, v = .ref a ∧ H a = some (.lst vs) ∧ Paired (Enc.rep K H) vs xs
  mono := fun e ⟨a, vs, h1, h2, h3⟩ => ⟨a, vs, h1, e _ _ h2, paired_mono e h3⟩
/-- a tuple of things of one kind -/
structure Tup (α : Type) where
  l : List α
instance {α : Type} [Enc α] : Enc (Tup α) where
  rep := fun K H v xs => ∃ a vs, v = .ref a ∧ SqT K H a vs ∧ Paired (Enc.rep K H) vs xs.l
  mono := fun e ⟨a, vs, h1, h2, h3⟩ => ⟨a, vs, h1, same_t e h2, paired_mono e h3⟩
instance {α β : Type} [Enc α] [Enc β] : Enc (α × β) where
  rep := fun K H v x => ∃ a u w, v = .ref a ∧ SqT K H a [u, w] ∧ Enc.rep K H u x.1 ∧ Enc.rep K H w x.2
  mono := fun e ⟨a, u, w, h1, h2, h3, h4⟩ => ⟨a, u, w, h1, same_t e h2, Enc.mono e h3, Enc.mono e h4⟩

/-! ### slots, cells, states -/
structure Slot where
  rp : PySem.W.Frag → Hp → V → Prop
  mono : ∀ {K : PySem.W.Frag} {H H' : Hp} {v : V}, Same H H' → rp K H v → rp K H' v
def vs {α : Type} [Enc α] (x : α) : Slot := ⟨fun K H v => Enc.rep K H v x, fun e h => Enc.mono e h⟩
def va {α : Type} [Enc α] (x : α) : Option Slot := some (vs x)
structure Cell where
  lc : Bool
  hp : PySem.W.Frag → Hp → HO → Prop
  mono : ∀ {K : PySem.W.Frag} {H H' : Hp} {o : HO}, Same H H' → hp K H o → hp K H' o
structure Ev1 where
  sl : List (Option Slot)
  cl : List (Addr × Cell)
/-- what is fixed through a def's body: the written part, the known heap and the whole heap at the entry, the cells handed in -/
structure XD where
  cls : Value
  rp : PySem.W.Frag → Hp → Option Addr → Prop
structure Bs where
  K : PySem.W.Frag
  G0 : Hp
  H0 : Hp
  A0 : List Addr
  W : WX
  xr : XD → Ev1 → Prop
structure SR (K : PySem.W.Frag) (G : Hp) (σ : St) (es : List (Option Slot)) : Prop where
  len : σ.length = es.length
  get : ∀ (i : Nat) (s : Slot), es[i]? = some (some s) → ∃ v, σ[i]? = some (some v) ∧ s.rp K G v
structure CR (B : Bs) (G H : Hp) (cl : List (Addr × Cell)) : Prop where
  nd : (cl.map (·.1)).Nodup
  at_ : ∀ p ∈ cl, G p.1 = none ∧ (if p.2.lc = true then B.H0 p.1 = none else p.1 ∈ B.A0) ∧ ∃ o, H p.1 = some o ∧ p.2.hp B.K G o
structure Ok (B : Bs) (G H : Hp) (σ : St) (e : Ev1) : Prop where
  g0 : Same B.G0 G
  gh : Same G H
  fr : ∀ b o, B.H0 b = some o → b ∉ B.A0 → H b = some o
  al : ∀ b, H b = none → B.H0 b = none
  nw : ∀ b, G b ≠ none → B.G0 b ≠ none ∨ B.H0 b = none
  sr : SR B.K G σ e.sl
  cr : CR B G H e.cl

theorem SR.mono {K : PySem.W.Frag} {G G' : Hp} {σ : St} {es : List (Option Slot)} (h : SR K G σ es) (e : Same G G') : SR K G' σ es :=
  ⟨h.len, fun i s hs => by
    obtain ⟨v, h1, h2⟩ := h.get i s hs
    exact ⟨v, h1, s.mono e h2⟩⟩
theorem SR.set {K : PySem.W.Frag} {G : Hp} {σ : St} {es : List (Option Slot)} (h : SR K G σ es) (i : Nat) {v : V} {s : Slot} (r : s.rp K G v) : SR K G (σ.set i (some v)) (es.set i (some s)) :=
  ⟨by rw [List.length_set, List.length_set, h.len], fun j t ht => by
    by_cases e : i = j
    · subst e
      by_cases hl : i < es.length
      · rw [List.getElem?_set_self hl] at ht
        have e2 : s = t := Option.some.inj (Option.some.inj ht)
        subst e2
        exact ⟨v, List.getElem?_set_self (by rw [h.len]; exact hl), r⟩
      · rw [List.getElem?_eq_none (by rw [List.length_set]; omega)] at ht
        cases ht
    · rw [List.getElem?_set_ne e] at ht
      obtain ⟨u, h1, h2⟩ := h.get j t ht
      exact ⟨u, by rw [List.getElem?_set_ne e]; exact h1, h2⟩⟩
theorem SR.setNo {K : PySem.W.Frag} {G : Hp} {σ : St} {es : List (Option Slot)} (h : SR K G σ es) (i : Nat) (v : Option V) : SR K G (σ.set i v) (es.set i none) :=
  ⟨by rw [List.length_set, List.length_set, h.len], fun j t ht => by
    by_cases e : i = j
    · subst e
      by_cases hl : i < es.length
      · rw [List.getElem?_set_self hl] at ht
        cases Option.some.inj ht
      · rw [List.getElem?_eq_none (by rw [List.length_set]; omega)] at ht
        cases ht
    · rw [List.getElem?_set_ne e] at ht
      obtain ⟨u, h1, h2⟩ := h.get j t ht
      exact ⟨u, by rw [List.getElem?_set_ne e]; exact h1, h2⟩⟩
/-- forgetting slots -/
theorem SR.weak {K : PySem.W.Frag} {G : Hp} {σ : St} {es es' : List (Option Slot)} (h : SR K G σ es) (hl : es'.length = es.length) (w : ∀ (i : Nat) (s : Slot), es'[i]? = some (some s) → es[i]? = some (some s)) : SR K G σ es' :=
  ⟨by rw [hl]; exact h.len, fun i s hs => h.get i s (w i s hs)⟩

section
variable {B : Bs} {G H G' H' : Hp} {σ : St} {e : Ev1}
theorem Same.none' {H H' : Hp} (e : Same H H') {a : Addr} (h : H' a = none) : H a = none := e.free h
/-- a new object p in the heap; in the known part too -/
theorem Ok.newH (ok : Ok B G H σ e) {p : Addr} {o : HO} (hp : H p = none) : Ok B G (upd H p o) σ e := by
  refine ⟨ok.g0, fun b u q => ?_, fun b u q hb => ?_, fun b q => ?_, ok.nw, ok.sr, ok.cr.nd, fun c hc => ?_⟩
  · rw [upd_ne (ne_of_none (ok.gh b u q) hp)]
    exact ok.gh b u q
  · rw [upd_ne (ne_of_none (ok.fr b u q hb) hp)]
    exact ok.fr b u q hb
  · by_cases hb : b = p
    · subst hb
      exact ok.al b hp
    · rw [upd_ne hb] at q
      exact ok.al b q
  · obtain ⟨h1, h2, o', h3, h4⟩ := ok.cr.at_ c hc
    have ne : c.1 ≠ p := ne_of_none h3 hp
    exact ⟨h1, h2, o', by rw [upd_ne ne]; exact h3, h4⟩
theorem same_upd {G : Hp} {p : Addr} {o : HO} (gp : G p = none) : Same G (upd G p o) := fun b u q => by
  rw [upd_ne (ne_of_none q gp)]
  exact q
/-- what stands at p in the heap, is no cell and new since the entry, is known from now on -/
theorem Ok.know (ok : Ok B G H σ e) {p : Addr} {o : HO} (gp : G p = none) (hp : H p = some o) (h0 : B.H0 p = none) (hc : ∀ c ∈ e.cl, c.1 ≠ p) : Ok B (upd G p o) H σ e := by
  have sg : Same G (upd G p o) := same_upd gp
  refine ⟨ok.g0.trans sg, fun b u q => ?_, ok.fr, ok.al, fun b q => ?_, ok.sr.mono sg, ok.cr.nd, fun c hc' => ?_⟩
  · by_cases hb : b = p
    · subst hb
      rw [upd_same] at q
      rw [hp]
      exact q
    · rw [upd_ne hb] at q
      exact ok.gh b u q
  · by_cases hb : b = p
    · subst hb
      exact .inr h0
    · rw [upd_ne hb] at q
      exact ok.nw b q
  · obtain ⟨h1, h2, o', h3, h4⟩ := ok.cr.at_ c hc'
    exact ⟨by rw [upd_ne (hc c hc')]; exact h1, h2, o', h3, c.2.mono sg h4⟩
theorem Ok.new (ok : Ok B G H σ e) {p : Addr} {o : HO} (hp : H p = none) : Ok B (upd G p o) (upd H p o) σ e :=
  (ok.newH hp).know (ok.gh.free hp) upd_same (ok.al p hp) fun c hc => by
    obtain ⟨_, _, o', h3, _⟩ := ok.cr.at_ c hc
    exact ne_of_none h3 hp
/-- a new object as a cell -/
theorem Ok.newCell (ok : Ok B G H σ e) {p : Addr} {o : HO} {c : Cell} (hp : H p = none) (hl : c.lc = true) (hc : c.hp B.K G o) : Ok B G (upd H p o) σ ⟨e.sl, (p, c) :: e.cl⟩ := by
  have k := ok.newH (o := o) hp
  refine ⟨k.g0, k.gh, k.fr, k.al, k.nw, k.sr, List.nodup_cons.mpr ⟨fun m => ?_, k.cr.nd⟩, fun d hd => ?_⟩
  · obtain ⟨d, hd, e1⟩ := List.mem_map.mp m
    obtain ⟨_, _, o', h3, _⟩ := ok.cr.at_ d hd
    exact ne_of_none h3 hp e1
  · rcases List.mem_cons.mp hd with q | q
    · subst q
      exact ⟨ok.gh.free hp, by rw [if_pos hl]; exact ok.al p hp, o, upd_same, hc⟩
    · exact k.cr.at_ d q
theorem nodup_set_fst {l : List (Addr × Cell)} {i : Nat} {a : Addr} {c c' : Cell} (h : l[i]? = some (a, c)) : (l.set i (a, c')).map (·.1) = l.map (·.1) := by
  apply List.ext_getElem?
  intro j
  rw [List.getElem?_map, List.getElem?_map]
  by_cases e : i = j
  · subst e
    have hl : i < l.length := (List.getElem?_eq_some_iff.mp h).1
    rw [List.getElem?_set_self hl, h]
    rfl
  · rw [List.getElem?_set_ne e]
/-- a cell's object at a place -/
theorem Ok.cell (ok : Ok B G H σ e) {i : Nat} {a : Addr} {c : Cell} (h : e.cl[i]? = some (a, c)) : G a = none ∧ (if c.lc = true then B.H0 a = none else a ∈ B.A0) ∧ ∃ o, H a = some o ∧ c.hp B.K G o := ok.cr.at_ (a, c) (List.mem_of_getElem? h)
/-- a cell is written -/
theorem Ok.write (ok : Ok B G H σ e) {i : Nat} {a : Addr} {c c' : Cell} {o : HO} (h : e.cl[i]? = some (a, c)) (hl' : c'.lc = c.lc) (hc : c'.hp B.K G o) : Ok B G (upd H a o) σ ⟨e.sl, e.cl.set i (a, c')⟩ := by
  obtain ⟨h1, h2, o0, h3, h4⟩ := ok.cell h
  refine ⟨ok.g0, fun b u q => ?_, fun b u q hb => ?_, fun b q => ?_, ok.nw, ok.sr, ?_, fun d hd => ?_⟩
  · rw [upd_ne (ne_of_none q h1)]
    exact ok.gh b u q
  · rw [upd_ne fun z => ?_]
    · exact ok.fr b u q hb
    · subst z
      split at h2
      · rw [h2] at q
        cases q
      · exact hb h2
  · by_cases hb : b = a
    · subst hb
      rw [upd_same] at q
      cases q
    · rw [upd_ne hb] at q
      exact ok.al b q
  · show ((e.cl.set i (a, c')).map (·.1)).Nodup
    rw [nodup_set_fst h]
    exact ok.cr.nd
  · have hl : i < e.cl.length := (List.getElem?_eq_some_iff.mp h).1
    obtain ⟨j, hj, ej⟩ := List.mem_iff_getElem.mp hd
    have ej' : (e.cl.set i (a, c'))[j]? = some d := by rw [List.getElem?_eq_getElem hj, ej]
    by_cases hij : i = j
    · subst hij
      rw [List.getElem?_set_self hl] at ej'
      have e2 := Option.some.inj ej'
      subst e2
      exact ⟨h1, by rw [hl']; exact h2, o, upd_same, hc⟩
    · rw [List.getElem?_set_ne hij] at ej'
      obtain ⟨k1, k2, o', k3, k4⟩ := ok.cr.at_ d (List.mem_of_getElem? ej')
      have ne : d.1 ≠ a := fun z => by
        have n1 : (e.cl.map (·.1))[j]? = some a := by
          rw [List.getElem?_map, ej']
          exact congrArg some z
        have n2 : (e.cl.map (·.1))[i]? = some a := by
          rw [List.getElem?_map, h]
          rfl
        exact hij (nd_ix ok.cr.nd n2 n1)
      exact ⟨k1, k2, o', by rw [upd_ne ne]; exact k3, k4⟩
/-- slots -/
theorem Ok.set (ok : Ok B G H σ e) (i : Nat) {v : V} {s : Slot} (r : s.rp B.K G v) : Ok B G H (σ.set i (some v)) ⟨e.sl.set i (some s), e.cl⟩ := ⟨ok.g0, ok.gh, ok.fr, ok.al, ok.nw, ok.sr.set i r, ok.cr⟩
theorem Ok.setNo (ok : Ok B G H σ e) (i : Nat) (v : Option V) : Ok B G H (σ.set i v) ⟨e.sl.set i none, e.cl⟩ := ⟨ok.g0, ok.gh, ok.fr, ok.al, ok.nw, ok.sr.setNo i v, ok.cr⟩
theorem Ok.weak (ok : Ok B G H σ e) {sl : List (Option Slot)} (hl : sl.length = e.sl.length) (w : ∀ (i : Nat) (s : Slot), sl[i]? = some (some s) → e.sl[i]? = some (some s)) : Ok B G H σ ⟨sl, e.cl⟩ := ⟨ok.g0, ok.gh, ok.fr, ok.al, ok.nw, ok.sr.weak hl w, ok.cr⟩
end

/-! ### what evaluates to what -/
/-- what is raised here is wished for -/
def XOk (B : Bs) (G : Hp) : Prop := ∀ d σ' G' H' e' x, B.xr x e' → Ok B G' H' σ' e' → Same G G' → x.rp B.K G' d → B.W x.cls d σ' H'
theorem XOk.mono {B : Bs} {G G' : Hp} (h : XOk B G) (s : Same G G') : XOk B G' := fun d σ' G2 H' e' x hx ok s2 r => h d σ' G2 H' e' x hx ok (s.trans s2) r
/-- te gives some x with P x; slots and cells stay -/
def Ev (B : Bs) (te : TE) (e : Ev1) {α : Type} [Enc α] (P : α → Prop) : Prop :=
  ∀ σ G H, Ok B G H σ e → XOk B G → ∀ Q : VK, (∀ v x G' H', P x → Ok B G' H' σ e → Same G G' → Enc.rep B.K G' v x → Q v H') → te σ H Q
abbrev EvD (B : Bs) (te : TE) (e : Ev1) {α : Type} [Enc α] (x : α) : Prop := Ev B te e (· = x)
/-- a test -/
def EvT (B : Bs) (tt : TT) (e : Ev1) (P : Bool → Prop) : Prop :=
  ∀ σ G H, Ok B G H σ e → XOk B G → ∀ Q : Bool → Hp → Prop, (∀ b G' H', P b → Ok B G' H' σ e → Same G G' → Q b H') → tt σ H Q
abbrev EvTD (B : Bs) (tt : TT) (e : Ev1) (b : Bool) : Prop := EvT B tt e (· = b)
/-- arguments -/
abbrev Reps (K : PySem.W.Frag) (G : Hp) : List V → List Slot → Prop := Paired fun (v : V) (s : Slot) => s.rp K G v
theorem reps_mono {K : PySem.W.Frag} {G G' : Hp} {vs : List V} {ss : List Slot} (e : Same G G') (h : Reps K G vs ss) : Reps K G' vs ss := Paired.mapP h fun _ s r => s.mono e r
def EvA (B : Bs) (ta : TA) (e : Ev1) (P : List Slot → Prop) : Prop :=
  ∀ σ G H, Ok B G H σ e → XOk B G → ∀ Q : List V → Hp → Prop, (∀ vs ss G' H', P ss → Ok B G' H' σ e → Same G G' → Reps B.K G' vs ss → Q vs H') → ta σ H Q
/-- a new list -/
def EvL (B : Bs) (te : TE) (e : Ev1) {α : Type} [Enc α] (P : List α → Prop) : Prop :=
  ∀ σ G H, Ok B G H σ e → XOk B G → ∀ Q : VK, (∀ p vs xs G' H', P xs → Ok B G' H' σ e → Same G G' → (∃ o, H' p = some o ∧ o = .lst vs) → G' p = none → B.H0 p = none → (∀ c ∈ e.cl, c.1 ≠ p) → Paired (Enc.rep B.K G') vs xs → Q (.ref p) H') → te σ H Q
/-- operations on values -/
def R2V (B : Bs) (e : Ev1) (r : R2) {α β γ : Type} [Enc α] [Enc β] [Enc γ] (x : α) (y : β) (P : γ → Prop) : Prop :=
  ∀ σ G H, Ok B G H σ e → ∀ v w, Enc.rep B.K G v x → Enc.rep B.K G w y → ∀ Q : VK, (∀ u z G' H', P z → Ok B G' H' σ e → Same G G' → Enc.rep B.K G' u z → Q u H') → r v w H Q
def RCV (B : Bs) (e : Ev1) (r : List V → Hp → VK → Prop) (ss : List Slot) {γ : Type} [Enc γ] (P : γ → Prop) : Prop :=
  ∀ σ G H, Ok B G H σ e → ∀ vs, Reps B.K G vs ss → ∀ Q : VK, (∀ u z G' H', P z → Ok B G' H' σ e → Same G G' → Enc.rep B.K G' u z → Q u H') → r vs H Q

section
variable {B : Bs} {e : Ev1} {α β γ : Type} [Enc α] [Enc β] [Enc γ] {ta tb te : TE} {tt tu : TT} {r : R2}
theorem Ev.mono {P P' : α → Prop} (h : Ev B te e P) (k : ∀ x, P x → P' x) : Ev B te e P' := fun σ G H ok X Q q => h σ G H ok X Q fun v x G' H' p => q v x G' H' (k x p)
theorem EvD.to {x y : α} (h : EvD B te e x) (k : x = y) : EvD B te e y := k ▸ h
theorem EvT.mono {P P' : Bool → Prop} (h : EvT B tt e P) (k : ∀ x, P x → P' x) : EvT B tt e P' := fun σ G H ok X Q q => h σ G H ok X Q fun x G' H' p => q x G' H' (k x p)
theorem EvL.mono {P P' : List α → Prop} (h : EvL B te e P) (k : ∀ x, P x → P' x) : EvL B te e P' := fun σ G H ok X Q q => h σ G H ok X Q fun p vs xs G' H' px => q p vs xs G' H' (k xs px)
theorem ev_var {i : Nat} {x : α} (h : e.sl[i]? = some (va x)) : EvD B (tVar i) e x := fun σ G H ok _ Q q => by
  obtain ⟨v, h1, h2⟩ := ok.sr.get i _ h
  exact ⟨v, h1, q v x G H rfl ok (Same.refl G) h2⟩
theorem ev_c {v : V} {x : α} (h : ∀ K G, Enc.rep K G v x) : EvD B (tC v) e x := fun σ G H ok _ Q q => q v x G H rfl ok (Same.refl G) (h _ _)
theorem ev_int {i : Int} : EvD B (tC (.int i)) e i := ev_c fun _ _ => rfl
theorem ev_str {i : Str} : EvD B (tC (.str i)) e i := ev_c fun _ _ => rfl
theorem ev_bl {i : Bool} : EvD B (tC (.bl i)) e i := ev_c fun _ _ => rfl
theorem ev_non : EvD B (tC .non) e () := ev_c fun _ _ => rfl
theorem ev_op {P : α → Prop} {P' : β → Prop} {P'' : γ → Prop} (ha : Ev B ta e P) (hb : ∀ x, P x → Ev B tb e P') (hr : ∀ x y, P x → P' y → R2V B e r x y P'') : Ev B (tOp r ta tb) e P'' := fun σ G H ok X Q q =>
  ha σ G H ok X _ fun v x G1 H1 p ok1 s1 r1 => hb x p σ G1 H1 ok1 (X.mono s1) _ fun w y G2 H2 p2 ok2 s2 r2 => hr x y p p2 σ G2 H2 ok2 v w (Enc.mono s2 r1) r2 Q fun u z G3 H3 p3 ok3 s3 r3 => q u z G3 H3 p3 ok3 ((s1.trans s2).trans s3) r3
theorem ev_opD {x : α} {y : β} {P'' : γ → Prop} (ha : EvD B ta e x) (hb : EvD B tb e y) (hr : R2V B e r x y P'') : Ev B (tOp r ta tb) e P'' := ev_op ha (fun _ _ => hb) fun _ _ h1 h2 => by
  subst h1
  subst h2
  exact hr
/-! values -/
theorem r2_I0 {g : Int → Int → V} {z : γ} {i j : Int} (h : ∀ K G, Enc.rep K G (g i j) z) : R2V B e (rI0 g) i j (· = z) := fun σ G H ok v w rv rw Q q => ⟨i, j, rv, rw, q _ z G H rfl ok (Same.refl G) (h _ _)⟩
theorem r2_I {C : Int → Int → Prop} {g : Int → Int → V} {z : γ} {i j : Int} (hc : C i j) (h : ∀ K G, Enc.rep K G (g i j) z) : R2V B e (rI C g) i j (· = z) := fun σ G H ok v w rv rw Q q => ⟨i, j, rv, rw, hc, q _ z G H rfl ok (Same.refl G) (h _ _)⟩
end
end Fw

namespace Fw
open PySem L2

/-! ### tests -/
section
variable {B : Bs} {e : Ev1} {α β γ : Type} [Enc α] [Enc β] [Enc γ] {ta tb te : TE} {tt tu : TT} {r : R2}
theorem et_test {P : Bool → Prop} (h : Ev B te e P) : EvT B (tTest te) e P := fun σ G H ok X Q q => h σ G H ok X _ fun v x G' H' p ok' s r => ⟨x, r, q x G' H' p ok' s⟩
theorem et_B {P : Bool → Prop} (h : Ev B te e P) : EvT B (tB te) e P := fun σ G H ok X Q q => h σ G H ok X _ fun v x G' H' p ok' s r => ⟨x, r, q x G' H' p ok' s⟩
theorem et_not {P : Bool → Prop} (h : EvT B tt e P) : EvT B (tNot tt) e (fun b => P (!b)) := fun σ G H ok X Q q => h σ G H ok X _ fun b G' H' p ok' s => q (!b) G' H' (by show P (!(!b)); rw [Bool.not_not]; exact p) ok' s
theorem et_notD {b : Bool} (h : EvTD B tt e b) : EvTD B (tNot tt) e (!b) := fun σ G H ok X Q q => h σ G H ok X _ fun c G' H' p ok' s => q (!c) G' H' (by rw [p]) ok' s
theorem et_and {P P' P'' : Bool → Prop} (h1 : EvT B tt e P) (h2 : P true → EvT B tu e P') (k1 : P false → P'' false) (k2 : P true → ∀ b, P' b → P'' b) : EvT B (tAnd tt tu) e P'' := fun σ G H ok X Q q =>
  h1 σ G H ok X _ fun b G1 H1 p ok1 s1 => by
    cases b with
    | false => exact iteF (q false G1 H1 (k1 p) ok1 s1)
    | true => exact iteT (h2 p σ G1 H1 ok1 (X.mono s1) Q fun c G2 H2 p2 ok2 s2 => q c G2 H2 (k2 p c p2) ok2 (s1.trans s2))
theorem et_or {P P' P'' : Bool → Prop} (h1 : EvT B tt e P) (h2 : P false → EvT B tu e P') (k1 : P true → P'' true) (k2 : P false → ∀ b, P' b → P'' b) : EvT B (tOr tt tu) e P'' := fun σ G H ok X Q q =>
  h1 σ G H ok X _ fun b G1 H1 p ok1 s1 => by
    cases b with
    | true => exact iteT (q true G1 H1 (k1 p) ok1 s1)
    | false => exact iteF (h2 p σ G1 H1 ok1 (X.mono s1) Q fun c G2 H2 p2 ok2 s2 => q c G2 H2 (k2 p c p2) ok2 (s1.trans s2))
theorem et_andD {a b : Bool} (h1 : EvTD B tt e a) (h2 : a = true → EvTD B tu e b) : EvTD B (tAnd tt tu) e (a && b) := et_and h1 (fun p => h2 p.symm) (fun p => by rw [← p]; rfl) fun p c q => by rw [← p, q]; rfl
theorem et_orD {a b : Bool} (h1 : EvTD B tt e a) (h2 : a = false → EvTD B tu e b) : EvTD B (tOr tt tu) e (a || b) := et_or h1 (fun p => h2 p.symm) (fun p => by rw [← p]; rfl) fun p c q => by rw [← p, q]; rfl
theorem ev_andD {a b : Bool} (h1 : EvD B ta e a) (h2 : a = true → EvD B tb e b) : EvD B (tAndV ta tb) e (a && b) := fun σ G H ok X Q q =>
  h1 σ G H ok X _ fun v x G1 H1 p ok1 s1 r1 => ⟨x, r1, by
    subst p
    cases x with
    | false => exact iteF (q _ false G1 H1 rfl ok1 s1 rfl)
    | true => exact iteT (h2 rfl σ G1 H1 ok1 (X.mono s1) Q fun w c G2 H2 p2 ok2 s2 r2 => q w c G2 H2 p2 ok2 (s1.trans s2) r2)⟩
theorem ev_orD {a b : Bool} (h1 : EvD B ta e a) (h2 : a = false → EvD B tb e b) : EvD B (tOrV ta tb) e (a || b) := fun σ G H ok X Q q =>
  h1 σ G H ok X _ fun v x G1 H1 p ok1 s1 r1 => ⟨x, r1, by
    subst p
    cases x with
    | true => exact iteT (q _ true G1 H1 rfl ok1 s1 rfl)
    | false => exact iteF (h2 rfl σ G1 H1 ok1 (X.mono s1) Q fun w c G2 H2 p2 ok2 s2 r2 => q w c G2 H2 p2 ok2 (s1.trans s2) r2)⟩
theorem ev_notD {a : Bool} (h1 : EvD B ta e a) : EvD B (tNotV ta) e (!a) := fun σ G H ok X Q q =>
  h1 σ G H ok X _ fun v x G1 H1 p ok1 s1 r1 => ⟨x, r1, q _ (!x) G1 H1 (by rw [p]) ok1 s1 rfl⟩
theorem ev_if {P : Bool → Prop} {P' : α → Prop} (h : EvT B tt e P) (h1 : P true → Ev B ta e P') (h2 : P false → Ev B tb e P') : Ev B (tIf tt ta tb) e P' := fun σ G H ok X Q q =>
  h σ G H ok X _ fun b G1 H1 p ok1 s1 => by
    cases b with
    | true => exact iteT (h1 p σ G1 H1 ok1 (X.mono s1) Q fun w c G2 H2 p2 ok2 s2 r2 => q w c G2 H2 p2 ok2 (s1.trans s2) r2)
    | false => exact iteF (h2 p σ G1 H1 ok1 (X.mono s1) Q fun w c G2 H2 p2 ok2 s2 r2 => q w c G2 H2 p2 ok2 (s1.trans s2) r2)
theorem ev_ifD {b : Bool} {x y : α} (h : EvTD B tt e b) (h1 : b = true → EvD B ta e x) (h2 : b = false → EvD B tb e y) : EvD B (tIf tt ta tb) e (if b = true then x else y) :=
  ev_if h (fun p => (h1 p.symm).mono fun z hz => by rw [hz, if_pos p.symm]) fun p => (h2 p.symm).mono fun z hz => by rw [hz, ← p, if_neg Bool.false_ne_true]

/-! ### arguments -/
theorem ea_nil : EvA B tNil e (· = []) := fun σ G H ok X Q q => q [] [] G H rfl ok (Same.refl G) .nil
theorem ea_cons {P : α → Prop} {P' : List Slot → Prop} {tr : TA} (h : Ev B te e P) (hr : ∀ x, P x → EvA B tr e P') : EvA B (tCons te tr) e (fun ss => ∃ x r, P x ∧ P' r ∧ ss = vs x :: r) := fun σ G H ok X Q q =>
  h σ G H ok X _ fun v x G1 H1 p ok1 s1 r1 => hr x p σ G1 H1 ok1 (X.mono s1) _ fun ws ss G2 H2 p2 ok2 s2 r2 => q (v :: ws) (vs x :: ss) G2 H2 ⟨x, ss, p, p2, rfl⟩ ok2 (s1.trans s2) (.cons (Enc.mono s2 r1) r2)
theorem ea_consD {x : α} {ss : List Slot} {tr : TA} (h : EvD B te e x) (hr : EvA B tr e (· = ss)) : EvA B (tCons te tr) e (· = vs x :: ss) := fun σ G H ok X Q q =>
  h σ G H ok X _ fun v y G1 H1 p ok1 s1 r1 => hr σ G1 H1 ok1 (X.mono s1) _ fun ws ts G2 H2 p2 ok2 s2 r2 => q (v :: ws) (vs y :: ts) G2 H2 (by rw [p, p2]) ok2 (s1.trans s2) (.cons (Enc.mono s2 r1) r2)
theorem EvA.mono {ta : TA} {P P' : List Slot → Prop} (h : EvA B ta e P) (k : ∀ x, P x → P' x) : EvA B ta e P' := fun σ G H ok X Q q => h σ G H ok X Q fun v x G' H' p => q v x G' H' (k x p)
theorem ev_cb {ta : TA} {r : List V → Hp → VK → Prop} {P : List Slot → Prop} {P' : γ → Prop} (h : EvA B ta e P) (hr : ∀ ss, P ss → RCV B e r ss P') : Ev B (tCB r ta) e P' := fun σ G H ok X Q q =>
  h σ G H ok X _ fun ws ss G1 H1 p ok1 s1 r1 => hr ss p σ G1 H1 ok1 ws r1 Q fun u z G2 H2 p2 ok2 s2 r2 => q u z G2 H2 p2 ok2 (s1.trans s2) r2
theorem ev_cbD {ta : TA} {r : List V → Hp → VK → Prop} {ss : List Slot} {P' : γ → Prop} (h : EvA B ta e (· = ss)) (hr : RCV B e r ss P') : Ev B (tCB r ta) e P' := ev_cb h fun ss p => p ▸ hr

/-! ### lists -/
/-- a new list is known from now on -/
theorem evl_val {P : List α → Prop} (h : EvL B te e P) : Ev B te e P := fun σ G H ok X Q q =>
  h σ G H ok X _ fun p us xs G1 H1 px ok1 s1 ⟨o, h1, h2⟩ gp h0 hc r1 => by
    subst h2
    have sg : Same G1 (upd G1 p (.lst us)) := same_upd gp
    exact q (.ref p) xs (upd G1 p (.lst us)) H1 px (ok1.know gp h1 h0 hc) (s1.trans sg) ⟨p, us, rfl, upd_same, paired_mono sg r1⟩
def ownL {α : Type} [Enc α] (xs : List α) : Cell := ⟨true, fun K H o => ∃ us, o = .lst us ∧ Paired (Enc.rep K H) us xs, fun e ⟨us, h1, h2⟩ => ⟨us, h1, paired_mono e h2⟩⟩
theorem Ok.addCell {G H : Hp} {σ : St} {e : Ev1} (ok : Ok B G H σ e) {p : Addr} {o : HO} {c : Cell} (gp : G p = none) (hp : H p = some o) (h0 : B.H0 p = none) (hc : ∀ c ∈ e.cl, c.1 ≠ p) (hl : c.lc = true) (k : c.hp B.K G o) : Ok B G H σ ⟨e.sl, (p, c) :: e.cl⟩ := by
  refine ⟨ok.g0, ok.gh, ok.fr, ok.al, ok.nw, ok.sr, List.nodup_cons.mpr ⟨fun m => ?_, ok.cr.nd⟩, fun d hd => ?_⟩
  · obtain ⟨d, hd, e1⟩ := List.mem_map.mp m
    exact hc d hd e1
  · rcases List.mem_cons.mp hd with q | q
    · subst q
      exact ⟨gp, by rw [if_pos hl]; exact h0, o, hp, k⟩
    · exact ok.cr.at_ d q
/-- from a rule «∀ p, H p = none → Q (.ref p) (upd H p (.lst us))» -/
theorem newL {G H : Hp} {σ : St} {Q : VK} {us : List V} {xs : List α} {P : List α → Prop} (ok : Ok B G H σ e) (hP : P xs) (r : Paired (Enc.rep B.K G) us xs)
    (q : ∀ p vs xs G' H', P xs → Ok B G' H' σ e → Same G G' → (∃ o, H' p = some o ∧ o = .lst vs) → G' p = none → B.H0 p = none → (∀ c ∈ e.cl, c.1 ≠ p) → Paired (Enc.rep B.K G') vs xs → Q (.ref p) H') :
    ∀ p, H p = none → Q (.ref p) (upd H p (.lst us)) := fun p hp =>
  q p us xs G (upd H p (.lst us)) hP (ok.newH hp) (Same.refl G) ⟨_, upd_same, rfl⟩ (ok.gh.free hp) (ok.al p hp) (fun c hc => by
    obtain ⟨_, _, o', h3, _⟩ := ok.cr.at_ c hc
    exact ne_of_none h3 hp) r
/-- homogenous slots as a list -/
theorem reps_list {K : PySem.W.Frag} {G : Hp} : ∀ {us : List V} {xs : List α}, Reps K G us (xs.map vs) → Paired (Enc.rep K G) us xs
  | _, [], h => by cases h; exact .nil
  | _, x :: xs, h => by
    cases h with
    | cons a b => exact .cons a (reps_list b)
theorem evl_lst {ta : TA} {P : List α → Prop} {P' : List Slot → Prop} (h : EvA B ta e P') (k : ∀ ss, P' ss → ∃ xs, P xs ∧ ss = xs.map vs ∧ xs.length ≤ 1000000) : EvL B (tLst ta) e P := fun σ G H ok X Q q =>
  h σ G H ok X _ fun us ss G1 H1 p ok1 s1 r1 => by
    obtain ⟨xs, px, rfl, hl⟩ := k ss p
    have r2 := reps_list r1
    refine ⟨Nat.le_trans (by rw [r2.length]; exact hl) (by rw [sizeLine_eq]; decide), newL ok1 px r2 fun p us xs G' H' px ok' s' => q p us xs G' H' px ok' (s1.trans s')⟩
theorem evl_lstD {ta : TA} {xs : List α} (h : EvA B ta e (· = xs.map vs)) (hl : xs.length ≤ 1000000) : EvL B (tLst ta) e (· = xs) := evl_lst h fun ss p => ⟨xs, rfl, p, hl⟩
end

/-! ### statements -/
structure En (ρ : Type) where
  nx : Ev1 → Prop
  rt : ρ → Ev1 → Prop
  bk : Ev1 → Prop
  ct : Ev1 → Prop
structure Mt (B : Bs) (G : Hp) (D : Ends) {ρ : Type} [Enc ρ] (E : En ρ) : Prop where
  nx : ∀ σ G' H' e', E.nx e' → Ok B G' H' σ e' → Same G G' → D.nx σ H'
  rt : ∀ v r σ G' H' e', E.rt r e' → Ok B G' H' σ e' → Same G G' → Enc.rep B.K G' v r → D.rt v H'
  bk : ∀ σ G' H' e', E.bk e' → Ok B G' H' σ e' → Same G G' → D.bk σ H'
  ct : ∀ σ G' H' e', E.ct e' → Ok B G' H' σ e' → Same G G' → D.ct σ H'
def Do (B : Bs) (t : TS) (e : Ev1) {ρ : Type} [Enc ρ] (E : En ρ) : Prop := ∀ σ G H, Ok B G H σ e → XOk B G → ∀ D, Mt B G D E → t D σ H
section
variable {B : Bs} {e : Ev1} {α β γ ρ : Type} [Enc α] [Enc β] [Enc γ] [Enc ρ] {ta tb te : TE} {tt : TT} {t u : TS} {E : En ρ}
theorem Mt.mono {G G' : Hp} {D : Ends} (m : Mt B G D E) (s : Same G G') : Mt B G' D E :=
  ⟨fun σ G2 H' e' h ok s2 => m.nx σ G2 H' e' h ok (s.trans s2), fun v r σ G2 H' e' h ok s2 => m.rt v r σ G2 H' e' h ok (s.trans s2), fun σ G2 H' e' h ok s2 => m.bk σ G2 H' e' h ok (s.trans s2), fun σ G2 H' e' h ok s2 => m.ct σ G2 H' e' h ok (s.trans s2)⟩
theorem do_seq (h : Do B t e { E with nx := fun e' => Do B u e' E }) : Do B (tSeq t u) e E := fun σ G H ok X D m =>
  h σ G H ok X { D with nx := u D } ⟨fun σ' G' H' e' hd ok' s => hd σ' G' H' ok' (X.mono s) D (m.mono s), m.rt, m.bk, m.ct⟩
theorem do_next (h : E.nx e) : Do B tNext e E := fun σ G H ok X D m => m.nx σ G H e h ok (Same.refl G)
theorem do_break (h : E.bk e) : Do B tBreak e E := fun σ G H ok X D m => m.bk σ G H e h ok (Same.refl G)
theorem do_cont (h : E.ct e) : Do B tCont e E := fun σ G H ok X D m => m.ct σ G H e h ok (Same.refl G)
theorem do_asg {i : Nat} {P : α → Prop} (h : Ev B te e P) (k : ∀ x, P x → E.nx ⟨e.sl.set i (va x), e.cl⟩) : Do B (tAsg te (gName i)) e E := fun σ G H ok X D m =>
  h σ G H ok X _ fun v x G' H' p ok' s r => m.nx _ G' H' _ (k x p) (ok'.set i (s := vs x) r) s
theorem do_asgD {i : Nat} {x : α} (h : EvD B te e x) (k : E.nx ⟨e.sl.set i (va x), e.cl⟩) : Do B (tAsg te (gName i)) e E := do_asg h fun y p => by subst p; exact k
/-- a new list as a cell -/
theorem do_asgL {i : Nat} {P : List α → Prop} (h : EvL B te e P) (k : ∀ a xs, P xs → E.nx ⟨e.sl.set i (va (Adr.mk a)), (a, ownL xs) :: e.cl⟩) : Do B (tAsg te (gName i)) e E := fun σ G H ok X D m =>
  h σ G H ok X _ fun p us xs G' H' px ok' s ⟨o, h1, h2⟩ gp h0 hc r => m.nx _ G' H' _ (k p xs px) ((ok'.addCell (c := ownL xs) gp h1 h0 hc rfl ⟨us, h2, r⟩).set i (v := .ref p) (s := vs (Adr.mk p)) rfl) s
theorem do_ret {P : ρ → Prop} (h : Ev B te e P) (k : ∀ x, P x → E.rt x e) : Do B (tRet te) e E := fun σ G H ok X D m => h σ G H ok X _ fun v x G' H' p ok' s r => m.rt v x σ G' H' e (k x p) ok' s r
theorem do_retD {x : ρ} (h : EvD B te e x) (k : E.rt x e) : Do B (tRet te) e E := do_ret h fun y p => by subst p; exact k
/-- another type of what is returned -/
theorem do_retC {P : α → Prop} (h : Ev B te e P) (k : ∀ x, P x → ∃ r, E.rt r e ∧ ∀ K G v, Enc.rep K G v x → Enc.rep K G v r) : Do B (tRet te) e E := fun σ G H ok X D m => h σ G H ok X _ fun v x G' H' p ok' s r => by
  obtain ⟨z, h1, h2⟩ := k x p
  exact m.rt v z σ G' H' e h1 ok' s (h2 _ _ _ r)
theorem do_retN {r : ρ} (h : ∀ K G, Enc.rep K G V.non r) (k : E.rt r e) : Do B tRetN e E := fun σ G H ok X D m => m.rt .non r σ G H e k ok (Same.refl G) (h _ _)
theorem do_if {P : Bool → Prop} (h : EvT B tt e P) (h1 : P true → Do B t e E) (h2 : P false → Do B u e E) : Do B (tIfS tt t u) e E := fun σ G H ok X D m =>
  h σ G H ok X _ fun b G' H' p ok' s => by
    cases b with
    | true => exact iteT (h1 p σ G' H' ok' (X.mono s) D (m.mono s))
    | false => exact iteF (h2 p σ G' H' ok' (X.mono s) D (m.mono s))
theorem do_ifD {b : Bool} (h : EvTD B tt e b) (h1 : b = true → Do B t e E) (h2 : b = false → Do B u e E) : Do B (tIfS tt t u) e E := do_if h (fun p => h1 p.symm) fun p => h2 p.symm
theorem do_drop {P : α → Prop} (h : Ev B te e P) (k : ∀ x, P x → E.nx e) : Do B (tDrop te) e E := fun σ G H ok X D m => h σ G H ok X _ fun v x G' H' p ok' s r => m.nx σ G' H' e (k x p) ok' s
theorem Do.mono {E' : En ρ} (h : Do B t e E) (h1 : ∀ e, E.nx e → E'.nx e) (h2 : ∀ r e, E.rt r e → E'.rt r e) (h3 : ∀ e, E.bk e → E'.bk e) (h4 : ∀ e, E.ct e → E'.ct e) : Do B t e E' := fun σ G H ok X D m =>
  h σ G H ok X D ⟨fun σ' G' H' e' n => m.nx σ' G' H' e' (h1 _ n), fun v r σ' G' H' e' n => m.rt v r σ' G' H' e' (h2 _ _ n), fun σ' G' H' e' n => m.bk σ' G' H' e' (h3 _ n), fun σ' G' H' e' n => m.ct σ' G' H' e' (h4 _ n)⟩
end

/-! ### what is walked -/
/-- J gives the items xs, as they are known in G1 -/
def Gives (K : PySem.W.Frag) (G1 : Hp) (J : It) {α : Type} [Enc α] (xs : List α) : Prop := ∀ H, Same G1 H → ∀ i : Nat,
  (i < xs.length → J.go i H) ∧ (xs.length ≤ i → J.stop i H) ∧ ∀ (y : α) v H', xs[i]? = some y → J.yld i H v H' → (H' = H ∧ Enc.rep K G1 v y) ∨ (∃ T o, H T = none ∧ H' = upd H T o ∧ Enc.rep K (upd G1 T o) v y)
def EvI (B : Bs) (wi : TI) (e : Ev1) {α : Type} [Enc α] (xs : List α) : Prop :=
  ∀ σ G H, Ok B G H σ e → XOk B G → ∀ R : It → Hp → Prop, (∀ J G' H', Ok B G' H' σ e → Same G G' → Gives B.K G' J xs → R J H') → wi σ H R
/-- a target -/
def EvG (B : Bs) (g : TG) (js : List Nat) {α : Type} [Enc α] (f : α → List (Option Slot) → List (Option Slot)) : Prop :=
  ∀ σ G H e, Ok B G H σ e → ∀ v x, Enc.rep B.K G v x → ∀ Q : St → Hp → Prop, (∀ σ', Ok B G H σ' ⟨f x e.sl, e.cl⟩ → (∀ ws : List Nat, (∀ j ∈ js, j ∈ ws) → wipe σ' ws = wipe σ ws) → Q σ' H) → g v σ H Q
section
variable {B : Bs} {e : Ev1} {α β γ ρ : Type} [Enc α] [Enc β] [Enc γ] [Enc ρ] {te tl : TE} {tt : TT} {t u tb : TS} {E : En ρ} {wi : TI} {g : TG}
theorem wipe_set_mem {σ : St} {j : Nat} {v : Option V} : ∀ {ws : List Nat}, j ∈ ws → wipe (σ.set j v) ws = wipe σ ws
  | [], h => by cases h
  | w :: ws, h => by
    show (wipe (σ.set j v) ws).set w none = (wipe σ ws).set w none
    by_cases hj : j ∈ ws
    · rw [wipe_set_mem hj]
    · have e : j = w := (List.mem_cons.mp h).resolve_right hj
      subst e
      have key : ∀ ws : List Nat, j ∉ ws → wipe (σ.set j v) ws = (wipe σ ws).set j v := by
        intro ws
        induction ws with
        | nil => intro _; rfl
        | cons a r ih =>
          intro h
          show (wipe (σ.set j v) r).set a none = ((wipe σ r).set a none).set j v
          rw [ih fun m => h (List.mem_cons_of_mem _ m), List.set_comm _ _ (fun z => h (by rw [z]; exact List.mem_cons_self))]
      rw [key ws hj, List.set_set]
theorem eg_name {j : Nat} : EvG B (gName j) [j] (fun (x : α) sl => sl.set j (va x)) := fun σ G H e ok v x r Q q => q _ (ok.set j (s := vs x) r) fun ws h => wipe_set_mem (h j List.mem_cons_self)
theorem eg_pair {i j : Nat} : EvG B (gTup B.K 2 (gCons (gName i) (gCons (gName j) gNil))) [i, j] (fun (x : α × β) sl => (sl.set i (va x.1)).set j (va x.2)) := fun σ G H e ok v x r Q q => by
  obtain ⟨a, y, z, rfl, h1, h2, h3⟩ := r
  refine ⟨a, [y, z], rfl, same_t ok.gh h1, rfl, y, [z], rfl, z, [], rfl, rfl, ?_⟩
  exact q _ ((ok.set i (s := vs x.1) h2).set j (s := vs x.2) h3) fun ws h => by
    rw [wipe_set_mem (h j (by simp)), wipe_set_mem (h i (by simp))]
theorem ei_list {xs : List α} (h : EvD B tl e xs) : EvI B (iList B.K tl) e xs := fun σ G H ok X R q =>
  h σ G H ok X _ fun v y G1 H1 p ok1 s1 r1 => by
    subst p
    obtain ⟨a, us, rfl, h1, h2⟩ := r1
    refine ⟨a, rfl, ⟨us, .inl (.inl (ok1.gh _ _ h1))⟩, q _ G1 H1 ok1 s1 fun H2 s2 i => ?_⟩
    have hs : SqL B.K H2 a us := .inl (.inl (s2 _ _ h1))
    have hl := h2.length
    refine ⟨fun hi => ⟨us, us[i]'(by omega), hs, List.getElem?_eq_getElem (by omega)⟩, fun hi => ⟨us, hs, by omega⟩, fun y v H' hy hv => ?_⟩
    obtain ⟨rfl, hv⟩ := hv
    have hv := hv us hs
    have key : ∀ {us : List V} {ys : List α} {i : Nat}, Paired (Enc.rep B.K G1) us ys → us[i]? = some v → ys[i]? = some y → Enc.rep B.K G1 v y := by
      intro us ys i h
      induction h generalizing i with
      | nil => intro a; simp at a
      | cons a b ih =>
        intro h1 h2
        cases i with
        | zero =>
          simp at h1 h2
          subst h1
          subst h2
          exact a
        | succ i => exact ih (by simpa using h1) (by simpa using h2)
    exact .inl ⟨rfl, key h2 hv hy⟩
def signs (x : Str) : List Str := x.cps.toList.map fun c => ⟨#[c]⟩
theorem ei_str {x : Str} (h : EvD B te e x) : EvI B (iStr te) e (signs x) := fun σ G H ok X R q =>
  h σ G H ok X _ fun v y G1 H1 p ok1 s1 r1 => by
    subst p
    refine ⟨y, r1, q _ G1 H1 ok1 s1 fun H2 s2 i => ?_⟩
    have hl : (signs y).length = y.cps.size := by
      unfold signs
      rw [List.length_map, Array.length_toList]
    refine ⟨fun hi => by show i < y.cps.size; omega, fun hi => by show y.cps.size ≤ i; omega, fun z v H' hy hv => ?_⟩
    obtain ⟨rfl, c, hc, rfl⟩ := hv
    refine .inl ⟨rfl, ?_⟩
    unfold signs at hy
    rw [List.getElem?_map, Array.getElem?_toList, hc] at hy
    have e2 : (⟨#[c]⟩ : Str) = z := Option.some.inj hy
    subst e2
    rfl
def rngI (lo : Int) (n : Nat) : List Int := (List.range n).map fun (i : Nat) => lo + (i : Int)
theorem rngI_len {lo : Int} {n : Nat} : (rngI lo n).length = n := by
  unfold rngI
  rw [List.length_map, List.length_range]
theorem rngI_get {lo : Int} {n i : Nat} {y : Int} (h : (rngI lo n)[i]? = some y) : i < n ∧ y = lo + (i : Int) := by
  have hl : i < (rngI lo n).length := (List.getElem?_eq_some_iff.mp h).1
  rw [rngI_len] at hl
  unfold rngI at h
  rw [List.getElem?_map, List.getElem?_range hl] at h
  exact ⟨hl, (Option.some.inj h).symm⟩
theorem gives_rng {K : PySem.W.Frag} {G : Hp} {lo : Int} {n : Nat} : Gives K G (Itr lo n) (rngI lo n) := fun H s i => by
  rw [rngI_len]
  refine ⟨fun h => h, fun h => h, fun y v H' hy hv => ?_⟩
  obtain ⟨rfl, rfl⟩ := hv
  obtain ⟨_, rfl⟩ := rngI_get hy
  exact .inl ⟨rfl, rfl⟩
theorem ei_rng1 {ta : TA} {n : Int} (h : EvA B ta e (· = [vs n])) (hn : n < 2 ^ 62) (hm : -(2 ^ 62) ≤ n) : EvI B (iRng1 ta) e (rngI 0 n.toNat) := fun σ G H ok X R q =>
  h σ G H ok X _ fun us ss G1 H1 p ok1 s1 r1 => by
    subst p
    cases r1 with
    | cons a b =>
      cases b
      obtain rfl := (show _ = V.int n from a)
      exact ⟨n, rfl, hm, hn, q _ G1 H1 ok1 s1 gives_rng⟩
theorem ei_rng2 {ta : TA} {m n : Int} (h : EvA B ta e (· = [vs m, vs n])) (hn : -(2 ^ 62) ≤ m ∧ m < 2 ^ 62 ∧ -(2 ^ 62) ≤ n ∧ n < 2 ^ 62) : EvI B (iRng2 ta) e (rngI m (n - m).toNat) := fun σ G H ok X R q =>
  h σ G H ok X _ fun us ss G1 H1 p ok1 s1 r1 => by
    subst p
    cases r1 with
    | cons a b =>
      cases b with
      | cons a2 b2 =>
        cases b2
        obtain rfl := (show _ = V.int m from a)
        obtain rfl := (show _ = V.int n from a2)
        exact ⟨m, n, rfl, hn, q _ G1 H1 ok1 s1 gives_rng⟩
end
end Fw

namespace Fw
open PySem L2

theorem same_upd2 {G1 G : Hp} {T : Addr} {o : HO} (s : Same G1 G) : Same (upd G1 T o) (upd G T o) := fun b u q => by
  by_cases hb : b = T
  · subst hb
    rw [upd_same] at q ⊢
    exact q
  · rw [upd_ne hb] at q ⊢
    exact s b u q

/-! ### loops -/
section
variable {B : Bs} {e : Ev1} {α β γ ρ : Type} [Enc α] [Enc β] [Enc γ] [Enc ρ] {te tl ta : TE} {tt c : TT} {t u tb : TS} {E : En ρ} {wi : TI} {g : TG} {js : List Nat} {f : α → List (Option Slot) → List (Option Slot)} {xs : List α}
theorem do_for (hi : EvI B wi e xs) (hg : EvG B g js f) (Inv : List α → Ev1 → Prop) (h0 : Inv [] e)
    (hs : ∀ pre x post e', xs = pre ++ x :: post → Inv pre e' → Do B tb ⟨f x e'.sl, e'.cl⟩ { nx := Inv (pre ++ [x]), rt := E.rt, bk := E.nx, ct := Inv (pre ++ [x]) })
    (hd : ∀ e', Inv xs e' → E.nx e') : Do B (tFor wi g tb) e E := fun σ G H ok X D m =>
  hi σ G H ok X _ fun J G1 H1 ok1 s1 gv => by
    refine ⟨fun i n σ H => ∃ G e', n = xs.length - i ∧ i ≤ xs.length ∧ Ok B G H σ e' ∧ Same G1 G ∧ Inv (xs.take i) e', ⟨xs.length, G1, e, by simp, Nat.zero_le _, ok1, Same.refl _, by rw [List.take_zero]; exact h0⟩, ?_⟩
    rintro i n σ2 H2 ⟨G2, e2, rfl, hi2, ok2, s2, inv⟩
    obtain ⟨g1, g2, g3⟩ := gv H2 (s2.trans ok2.gh) i
    by_cases hlt : i < xs.length
    · refine .inr ⟨g1 hlt, fun σ H => ∃ G e', Ok B G H σ e' ∧ Same G1 G ∧ Inv (xs.take (i + 1)) e', fun σ' H' ⟨G', e', k1, k2, k3⟩ => ⟨xs.length - (i + 1), by omega, G', e', rfl, hlt, k1, k2, k3⟩, fun v H' hy => ?_⟩
      have hx : xs[i]? = some xs[i] := List.getElem?_eq_getElem hlt
      have split : xs = xs.take i ++ xs[i] :: xs.drop (i + 1) := by rw [← List.drop_eq_getElem_cons hlt, List.take_append_drop]
      have tk1 : xs.take (i + 1) = xs.take i ++ [xs[i]] := by rw [List.take_add_one, hx]; rfl
      have fin : ∀ G3, Ok B G3 H' σ2 e2 → Same G1 G3 → Same G2 G3 → Enc.rep B.K G3 v xs[i] → g v σ2 H' fun σ3 H3 => tb { D with nx := fun σ H => ∃ G e', Ok B G H σ e' ∧ Same G1 G ∧ Inv (xs.take (i + 1)) e', ct := fun σ H => ∃ G e', Ok B G H σ e' ∧ Same G1 G ∧ Inv (xs.take (i + 1)) e', bk := D.nx } σ3 H3 := fun G3 ok3 s13 s23 r3 =>
        hg σ2 G3 H' e2 ok3 v _ r3 _ fun σ3 ok4 _ => by
          refine hs (xs.take i) xs[i] (xs.drop (i + 1)) e2 split inv σ3 G3 H' ok4 (X.mono (s1.trans s13)) _ ⟨fun σ5 G5 H5 e5 h5 ok5 s5 => ⟨G5, e5, ok5, s13.trans s5, by rw [tk1]; exact h5⟩, fun v5 r5 σ5 G5 H5 e5 h5 ok5 s5 => m.rt v5 r5 σ5 G5 H5 e5 h5 ok5 ((s1.trans s13).trans s5),
            fun σ5 G5 H5 e5 h5 ok5 s5 => m.nx σ5 G5 H5 e5 h5 ok5 ((s1.trans s13).trans s5), fun σ5 G5 H5 e5 h5 ok5 s5 => ⟨G5, e5, ok5, s13.trans s5, by rw [tk1]; exact h5⟩⟩
      rcases g3 _ v H' hx hy with ⟨rfl, r⟩ | ⟨T, o, hT, rfl, r⟩
      · exact fin G2 ok2 s2 (Same.refl _) (Enc.mono s2 r)
      · have gT : G2 T = none := ok2.gh.free hT
        exact fin (upd G2 T o) (ok2.new hT) (s2.trans (same_upd gT)) (same_upd gT) (Enc.mono (same_upd2 s2) r)
    · have e3 : i = xs.length := by omega
      subst e3
      rw [List.take_length] at inv
      exact .inl ⟨g2 (Nat.le_refl _), m.nx σ2 G2 H2 e2 (hd e2 inv) ok2 (s1.trans s2)⟩

theorem do_while (Inv : Nat → Ev1 → Prop) (P : Ev1 → Bool → Prop) (n0 : Nat) (h0 : Inv n0 e) (ht : ∀ n e', Inv n e' → EvT B c e' (P e'))
    (hs : ∀ n e', Inv n e' → P e' true → Do B tb e' { nx := fun e'' => ∃ n', n' < n ∧ Inv n' e'', rt := E.rt, bk := E.nx, ct := fun e'' => ∃ n', n' < n ∧ Inv n' e'' })
    (hd : ∀ n e', Inv n e' → P e' false → E.nx e') : Do B (tWhile c tb) e E := fun σ G H ok X D m => by
  refine ⟨fun n σ H => ∃ G' e', Ok B G' H σ e' ∧ Same G G' ∧ Inv n e', ⟨n0, G, e, ok, Same.refl _, h0⟩, ?_⟩
  rintro n σ2 H2 ⟨G2, e2, ok2, s2, inv⟩
  refine ht n e2 inv σ2 G2 H2 ok2 (X.mono s2) _ fun b G3 H3 pb ok3 s3 => ?_
  cases b with
  | false => exact iteF (m.nx σ2 G3 H3 e2 (hd n e2 inv pb) ok3 (s2.trans s3))
  | true =>
    refine iteT ⟨fun σ H => ∃ n', n' < n ∧ ∃ G' e', Ok B G' H σ e' ∧ Same G G' ∧ Inv n' e', fun _ _ h => h, ?_⟩
    exact hs n e2 inv pb σ2 G3 H3 ok3 (X.mono (s2.trans s3)) _ ⟨fun σ5 G5 H5 e5 ⟨n', hn, h5⟩ ok5 s5 => ⟨n', hn, G5, e5, ok5, (s2.trans s3).trans s5, h5⟩, fun v5 r5 σ5 G5 H5 e5 h5 ok5 s5 => m.rt v5 r5 σ5 G5 H5 e5 h5 ok5 ((s2.trans s3).trans s5),
      fun σ5 G5 H5 e5 h5 ok5 s5 => m.nx σ5 G5 H5 e5 h5 ok5 ((s2.trans s3).trans s5), fun σ5 G5 H5 e5 ⟨n', hn, h5⟩ ok5 s5 => ⟨n', hn, G5, e5, ok5, (s2.trans s3).trans s5, h5⟩⟩

/-! ### comprehensions -/
def wipeE (sl : List (Option Slot)) : List Nat → List (Option Slot)
  | [] => sl
  | v :: ws => (wipeE sl ws).set v none
theorem sr_wipe {K : PySem.W.Frag} {G : Hp} {σ : St} {sl : List (Option Slot)} (h : SR K G σ sl) : ∀ ws : List Nat, SR K G (wipe σ ws) (wipeE sl ws)
  | [] => h
  | v :: ws => (sr_wipe h ws).setNo v none
theorem wipe_idem {σ : St} : ∀ ws : List Nat, ∀ ws' : List Nat, (∀ j ∈ ws', j ∈ ws) → wipe (wipe σ ws') ws = wipe σ ws := fun ws ws' => by
  induction ws' with
  | nil => intro _; rfl
  | cons a r ih =>
    intro h
    show wipe ((wipe σ r).set a none) ws = wipe σ ws
    rw [wipe_set_mem (h a List.mem_cons_self)]
    exact ih fun j hj => h j (List.mem_cons_of_mem _ hj)
theorem Ok.addEnd {G H : Hp} {σ : St} {e : Ev1} (ok : Ok B G H σ e) {p : Addr} {o : HO} {c : Cell} (gp : G p = none) (hp : H p = some o) (h0 : B.H0 p = none) (hc : ∀ c ∈ e.cl, c.1 ≠ p) (hl : c.lc = true) (k : c.hp B.K G o) : Ok B G H σ ⟨e.sl, e.cl ++ [(p, c)]⟩ := by
  have a := ok.addCell gp hp h0 hc hl k
  have pm : ((p, c) :: e.cl).Perm (e.cl ++ [(p, c)]) := (List.perm_append_singleton (p, c) e.cl).symm
  exact ⟨a.g0, a.gh, a.fr, a.al, a.nw, a.sr, (pm.map (·.1)).nodup_iff.mp a.cr.nd, fun d hd => a.cr.at_ d (pm.mem_iff.mpr hd)⟩
theorem Ok.dropEnd {G H : Hp} {σ : St} {sl : List (Option Slot)} {cl : List (Addr × Cell)} {d : Addr × Cell} (ok : Ok B G H σ ⟨sl, cl ++ [d]⟩) : Ok B G H σ ⟨sl, cl⟩ := by
  have n := ok.cr.nd
  rw [List.map_append] at n
  exact ⟨ok.g0, ok.gh, ok.fr, ok.al, ok.nw, ok.sr, (List.nodup_append.mp n).1, fun c hc => ok.cr.at_ c (List.mem_append_left _ hc)⟩
theorem Ok.endNe {G H : Hp} {σ : St} {sl : List (Option Slot)} {cl : List (Addr × Cell)} {d : Addr × Cell} (ok : Ok B G H σ ⟨sl, cl ++ [d]⟩) : ∀ c ∈ cl, c.1 ≠ d.1 := fun c hc z => by
  have n := ok.cr.nd
  rw [List.map_append] at n
  exact (List.nodup_append.mp n).2.2 c.1 (List.mem_map.mpr ⟨c, hc, rfl⟩) d.1 (by simp) z
theorem wipe_len {σ : St} (ws : List Nat) : (wipe σ ws).length = σ.length := wipe_length σ ws
theorem evl_lc {ws : List Nat} (hi : EvI B wi e xs) (hg : EvG B g js f) (hj : ∀ j ∈ js, j ∈ ws) (hl : xs.length ≤ 1000000) (I : List α → List β → Prop) (h0 : I [] []) (pt : α → Bool → Prop) (pe : α → β → Prop)
    (ht : ∀ pre x post, xs = pre ++ x :: post → ∀ dc, EvT B tt ⟨f x (wipeE e.sl ws), e.cl ++ [dc]⟩ (pt x))
    (he : ∀ pre x post, xs = pre ++ x :: post → pt x true → ∀ dc, Ev B te ⟨f x (wipeE e.sl ws), e.cl ++ [dc]⟩ (pe x))
    (hy : ∀ pre x post ys y, xs = pre ++ x :: post → I pre ys → pt x true → pe x y → I (pre ++ [x]) (ys ++ [y]))
    (hn : ∀ pre x post ys, xs = pre ++ x :: post → I pre ys → pt x false → I (pre ++ [x]) ys) : EvL B (tLc wi g tt te ws) e (I xs) := fun σ G H ok X Q q =>
  hi σ G H ok X _ fun J G1 H1 ok1 s1 gv => fun D hD => by
    refine ⟨fun i n H => ∃ G2 ys, n = xs.length - i ∧ i ≤ xs.length ∧ ys.length ≤ i ∧ Ok B G2 H σ ⟨e.sl, e.cl ++ [(D, ownL ys)]⟩ ∧ B.H0 D = none ∧ Same G1 G2 ∧ I (xs.take i) ys, ⟨xs.length, G1, [], by simp, Nat.zero_le _, Nat.zero_le _, ?_, ok1.al D hD, Same.refl _, by rw [List.take_zero]; exact h0⟩, ?_⟩
    · exact (ok1.newH hD).addEnd (ok1.gh.free hD) upd_same (ok1.al D hD) (fun c hc => by
        obtain ⟨_, _, o', h3, _⟩ := ok1.cr.at_ c hc
        exact ne_of_none h3 hD) rfl ⟨[], rfl, .nil⟩
    rintro i n H2 ⟨G2, ys, rfl, hi2, hy2, ok2, hD0, s2, inv⟩
    obtain ⟨g1, g2, g3⟩ := gv H2 (s2.trans ok2.gh) i
    by_cases hlt : i < xs.length
    · refine .inr ⟨g1 hlt, fun H => ∃ G2 ys, ys.length ≤ i + 1 ∧ Ok B G2 H σ ⟨e.sl, e.cl ++ [(D, ownL ys)]⟩ ∧ Same G1 G2 ∧ I (xs.take (i + 1)) ys, fun H' ⟨G', ys', k1, k2, k3, k4⟩ => ⟨xs.length - (i + 1), by omega, G', ys', rfl, hlt, k1, k2, hD0, k3, k4⟩, fun v H' hyl => ?_⟩
      have hx : xs[i]? = some xs[i] := List.getElem?_eq_getElem hlt
      have split : xs = xs.take i ++ xs[i] :: xs.drop (i + 1) := by rw [← List.drop_eq_getElem_cons hlt, List.take_append_drop]
      have tk1 : xs.take (i + 1) = xs.take i ++ [xs[i]] := by rw [List.take_add_one, hx]; rfl
      have fin : ∀ G3, Ok B G3 H' σ ⟨e.sl, e.cl ++ [(D, ownL ys)]⟩ → Same G1 G3 → Enc.rep B.K G3 v xs[i] → g v (wipe σ ws) H' fun σ2 H2 => wipe σ2 ws = wipe σ ws ∧ tt σ2 H2 fun b H3 =>
          if b = true then te σ2 H3 fun y H4 => ∃ acc, H4 D = some (.lst acc) ∧ acc.length < sizeLine ∧ (∃ G2 ys, ys.length ≤ i + 1 ∧ Ok B G2 (upd H4 D (.lst (acc ++ [y]))) σ ⟨e.sl, e.cl ++ [(D, ownL ys)]⟩ ∧ Same G1 G2 ∧ I (xs.take (i + 1)) ys)
          else ∃ G2 ys, ys.length ≤ i + 1 ∧ Ok B G2 H3 σ ⟨e.sl, e.cl ++ [(D, ownL ys)]⟩ ∧ Same G1 G2 ∧ I (xs.take (i + 1)) ys := fun G3 ok3 s13 r3 => by
        have ok3w : Ok B G3 H' (wipe σ ws) ⟨wipeE e.sl ws, e.cl ++ [(D, ownL ys)]⟩ := ⟨ok3.g0, ok3.gh, ok3.fr, ok3.al, ok3.nw, sr_wipe ok3.sr ws, ok3.cr⟩
        refine hg (wipe σ ws) G3 H' _ ok3w v _ r3 _ fun σ3 ok4 hw => ⟨by rw [hw ws hj, wipe_idem ws ws fun _ h => h], ?_⟩
        have back : ∀ {G5 H5 : Hp}, Ok B G5 H5 σ3 ⟨f xs[i] (wipeE e.sl ws), e.cl ++ [(D, ownL ys)]⟩ → Same G3 G5 → Ok B G5 H5 σ ⟨e.sl, e.cl ++ [(D, ownL ys)]⟩ := fun {G5 H5} k s5 => ⟨k.g0, k.gh, k.fr, k.al, k.nw, ok3.sr.mono s5, k.cr⟩
        refine ht _ _ _ split (D, ownL ys) σ3 G3 H' ok4 (X.mono (s1.trans s13)) _ fun b G5 H5 pb ok5 s5 => ?_
        cases b with
        | false => exact iteF ⟨G5, ys, by omega, back ok5 s5, s13.trans s5, by rw [tk1]; exact hn _ _ _ _ split inv pb⟩
        | true =>
          refine iteT (he _ _ _ split pb (D, ownL ys) σ3 G5 H5 ok5 (X.mono ((s1.trans s13).trans s5)) _ fun y z G6 H6 pz ok6 s6 r6 => ?_)
          have k6 := back ok6 (s5.trans s6)
          have hcl : (⟨e.sl, e.cl ++ [(D, ownL ys)]⟩ : Ev1).cl[e.cl.length]? = some (D, ownL ys) := by
            show (e.cl ++ [(D, ownL ys)])[e.cl.length]? = _
            rw [List.getElem?_append_right (Nat.le_refl _), Nat.sub_self]
            rfl
          obtain ⟨_, _, o, ho, acc, rfl, hacc⟩ := k6.cell hcl
          refine ⟨acc, ho, ?_, G6, ys ++ [z], by rw [List.length_append]; show ys.length + 1 ≤ i + 1; omega, ?_, (s13.trans s5).trans s6, by rw [tk1]; exact hy _ _ _ _ _ split inv pb pz⟩
          · rw [hacc.length, sizeLine_eq]
            omega
          · have w := k6.write (c' := ownL (ys ++ [z])) hcl rfl ⟨acc ++ [y], rfl, hacc.snoc r6⟩
            have e9 : (e.cl ++ [(D, ownL ys)]).set e.cl.length (D, ownL (ys ++ [z])) = e.cl ++ [(D, ownL (ys ++ [z]))] := by
              rw [List.set_append_right _ _ (Nat.le_refl _), Nat.sub_self]
              rfl
            exact e9 ▸ w
      rcases g3 _ v H' hx hyl with ⟨rfl, r⟩ | ⟨T, o, hT, rfl, r⟩
      · exact fin G2 ok2 s2 (Enc.mono s2 r)
      · have gT : G2 T = none := ok2.gh.free hT
        exact fin (upd G2 T o) (ok2.new hT) (s2.trans (same_upd gT)) (Enc.mono (same_upd2 s2) r)
    · have e3 : i = xs.length := by omega
      subst e3
      rw [List.take_length] at inv
      have hcl : (⟨e.sl, e.cl ++ [(D, ownL ys)]⟩ : Ev1).cl[e.cl.length]? = some (D, ownL ys) := by
        show (e.cl ++ [(D, ownL ys)])[e.cl.length]? = _
        rw [List.getElem?_append_right (Nat.le_refl _), Nat.sub_self]
        rfl
      obtain ⟨gD, _, o, ho, acc, rfl, hacc⟩ := ok2.cell hcl
      exact .inl ⟨g2 (Nat.le_refl _), q D acc ys G2 H2 inv ok2.dropEnd (s1.trans s2) ⟨_, ho, rfl⟩ gD hD0 ok2.endNe hacc⟩
/-- .. where all is decided -/
theorem evl_lcD {ws : List Nat} {p : α → Bool} {h : α → β} (hi : EvI B wi e xs) (hg : EvG B g js f) (hj : ∀ j ∈ js, j ∈ ws) (hl : xs.length ≤ 1000000)
    (ht : ∀ pre x post, xs = pre ++ x :: post → ∀ dc, EvTD B tt ⟨f x (wipeE e.sl ws), e.cl ++ [dc]⟩ (p x))
    (he : ∀ pre x post, xs = pre ++ x :: post → p x = true → ∀ dc, EvD B te ⟨f x (wipeE e.sl ws), e.cl ++ [dc]⟩ (h x)) : EvL B (tLc wi g tt te ws) e (· = (xs.filter p).map h) :=
  evl_lc hi hg hj hl (fun pre ys => ys = (pre.filter p).map h) rfl (fun x b => b = p x) (fun x y => y = h x) ht (fun pre x post s pb => he pre x post s pb.symm)
    (fun pre x post ys y _ hI pb py => by subst hI; subst py; rw [List.filter_append, List.map_append, List.filter_cons, if_pos pb.symm]; rfl)
    (fun pre x post ys _ hI pb => by subst hI; rw [List.filter_append, List.map_append, List.filter_cons, if_neg (by rw [← pb]; exact Bool.false_ne_true)]; simp)
theorem et_yes : EvTD B tYes e true := fun σ G H ok X Q q => q true G H rfl ok (Same.refl G)
theorem evl_lcM {ws : List Nat} {h : α → β} (hi : EvI B wi e xs) (hg : EvG B g js f) (hj : ∀ j ∈ js, j ∈ ws) (hl : xs.length ≤ 1000000)
    (he : ∀ pre x post, xs = pre ++ x :: post → ∀ dc, EvD B te ⟨f x (wipeE e.sl ws), e.cl ++ [dc]⟩ (h x)) : EvL B (tLc wi g tYes te ws) e (· = xs.map h) :=
  (evl_lcD (p := fun _ => true) hi hg hj hl (fun _ _ _ _ _ => et_yes) fun pre x post s _ => he pre x post s).mono fun ys h => by rw [h, List.filter_eq_self.mpr fun _ _ => rfl]

/-! ### own lists -/
theorem ty_list {K : PySem.W.Frag} {H : Hp} {a : Addr} {us : List V} (h : H a = some (.lst us)) : tyV K "list" (.ref a) H := .inl ⟨rfl, us, .inl (.inl h)⟩
theorem do_append {k : Nat} {a : Addr} {ys : List α} {P : α → Prop} (hc : e.cl[k]? = some (a, ownL ys)) (ho : EvD B ta e (Adr.mk a)) (h : Ev B te e P) (hz : ys.length ≤ 1000000) (q : ∀ y, P y → E.nx ⟨e.sl, e.cl.set k (a, ownL (ys ++ [y]))⟩) :
    Do B (tDrop (tBM B.K "list" rAppend ta (tCons te tNil))) e E := fun σ G H ok X D m =>
  ho σ G H ok X _ fun v x G1 H1 p ok1 s1 r1 => by
    subst p
    obtain rfl := (show v = V.ref a from r1)
    obtain ⟨_, _, o, h1, us, rfl, _⟩ := ok1.cell hc
    refine ⟨ty_list h1, h σ G1 H1 ok1 (X.mono s1) _ fun w y G2 H2 py ok2 s2 r2 => ?_⟩
    obtain ⟨_, _, o, h1', us', rfl, hu⟩ := ok2.cell hc
    refine ⟨a, us', w, rfl, rfl, h1', by rw [hu.length, sizeLine_eq]; omega, ?_⟩
    exact m.nx σ G2 _ _ (q y py) (ok2.write (c' := ownL (ys ++ [y])) hc rfl ⟨us' ++ [w], rfl, hu.snoc r2⟩) (s1.trans s2)
theorem paired_set {K : PySem.W.Frag} {G : Hp} {w : V} {y : α} (r : Enc.rep K G w y) : ∀ {us : List V} {ys : List α} (j : Nat), Paired (Enc.rep K G) us ys → Paired (Enc.rep K G) (us.set j w) (ys.set j y)
  | _, _, _, .nil => .nil
  | _, _, 0, .cons _ t => .cons r t
  | _, _, j + 1, .cons a t => .cons a (paired_set r j t)
theorem paired_get {K : PySem.W.Frag} {G : Hp} : ∀ {us : List V} {ys : List α} {j : Nat} {y : α}, Paired (Enc.rep K G) us ys → ys[j]? = some y → ∃ u, us[j]? = some u ∧ Enc.rep K G u y
  | _, _, _, _, .nil, h => by simp at h
  | _, _, 0, _, .cons (a := u) a t, h => by
    simp at h
    subst h
    exact ⟨u, rfl, a⟩
  | _, _, j + 1, _, .cons a t, h => paired_get (j := j) t (by simpa using h)
/-- xs[i] = e -/
theorem do_setL {ti : TE} {k j : Nat} {a : Addr} {ys : List α} {P : α → Prop} {i : Int} (hc : e.cl[k]? = some (a, ownL ys)) (h : Ev B te e P) (ho : EvD B ta e (Adr.mk a)) (hi : EvD B ti e i) (hj : ixN ys.length i = some j) (q : ∀ y, P y → E.nx ⟨e.sl, e.cl.set k (a, ownL (ys.set j y))⟩) :
    Do B (tAsg te (gSub ta ti rSetL)) e E := fun σ G H ok X D m =>
  h σ G H ok X _ fun w y G1 H1 py ok1 s1 r1 => ho σ G1 H1 ok1 (X.mono s1) _ fun v x G2 H2 p ok2 s2 r2 => hi σ G2 H2 ok2 (X.mono (s1.trans s2)) _ fun v3 x3 G3 H3 p3 ok3 s3 r3 => by
    subst p
    subst p3
    obtain rfl := (show v = V.ref a from r2)
    obtain rfl := (show v3 = V.int x3 from r3)
    obtain ⟨_, _, o, h1, us, rfl, hu⟩ := ok3.cell hc
    refine ⟨a, us, x3, j, rfl, rfl, h1, by rw [hu.length]; exact hj, ?_⟩
    exact m.nx σ G3 _ _ (q y py) (ok3.write (c' := ownL (ys.set j y)) hc rfl ⟨us.set j w, rfl, paired_set (Enc.mono (s2.trans s3) r1) j hu⟩) ((s1.trans s2).trans s3)
/-- what was a cell is known from now on -/
theorem do_freeze {k j : Nat} {a : Addr} {ys : List α} (hc : e.cl[k]? = some (a, ownL ys)) (hs : e.sl[j]? = some (va (Adr.mk a))) (h : Do B t ⟨e.sl.set j (va ys), e.cl.eraseIdx k⟩ E) : Do B t e E := fun σ G H ok X D m => by
  obtain ⟨g1, hl, o, h1, us, rfl, hu⟩ := ok.cell hc
  have h0 : B.H0 a = none := hl
  have nd2 : ∀ c ∈ e.cl.eraseIdx k, c.1 ≠ a := fun c hm z => by
    obtain ⟨i, hi, e1⟩ := List.mem_iff_getElem.mp hm
    have e2 : (e.cl.eraseIdx k)[i]? = some c := by rw [List.getElem?_eq_getElem hi, e1]
    rw [List.getElem?_eraseIdx] at e2
    have n2 : (e.cl.map (·.1))[k]? = some a := by
      rw [List.getElem?_map, hc]
      rfl
    by_cases hik : i < k
    · rw [if_pos hik] at e2
      have n1 : (e.cl.map (·.1))[i]? = some a := by
        rw [List.getElem?_map, e2]
        exact congrArg some z
      exact absurd (nd_ix ok.cr.nd n1 n2) (by omega)
    · rw [if_neg hik] at e2
      have n1 : (e.cl.map (·.1))[i + 1]? = some a := by
        rw [List.getElem?_map, e2]
        exact congrArg some z
      exact absurd (nd_ix ok.cr.nd n1 n2) (by omega)
  have ok2 : Ok B G H σ ⟨e.sl, e.cl.eraseIdx k⟩ := ⟨ok.g0, ok.gh, ok.fr, ok.al, ok.nw, ok.sr, by
      show ((e.cl.eraseIdx k).map (·.1)).Nodup
      rw [List.eraseIdx_eq_take_drop_succ, List.map_append]
      exact List.Nodup.sublist (by rw [← List.map_append]; exact ((List.eraseIdx_eq_take_drop_succ e.cl k) ▸ List.eraseIdx_sublist e.cl k).map _) ok.cr.nd,
    fun c hm => ok.cr.at_ c (List.mem_of_mem_eraseIdx hm)⟩
  have sg : Same G (upd G a (.lst us)) := same_upd g1
  have ok3 := ok2.know g1 h1 h0 nd2
  obtain ⟨v, hv, rv⟩ := ok.sr.get j _ hs
  obtain rfl := (show v = V.ref a from rv)
  have ok4 := ok3.set j (v := .ref a) (s := vs ys) ⟨a, us, rfl, upd_same, paired_mono sg hu⟩
  have e5 : σ.set j (some (V.ref a)) = σ := by
    apply List.ext_getElem?
    intro i
    by_cases hij : j = i
    · subst hij
      rw [List.getElem?_set_self (List.getElem?_eq_some_iff.mp hv).1, hv]
    · rw [List.getElem?_set_ne hij]
  rw [e5] at ok4
  exact h σ (upd G a (.lst us)) H ok4 (X.mono sg) D (m.mono sg)
end
end Fw

namespace Fw
open PySem L2

/-! ### calls -/
/-- behind a call: cl the cells handed in, cl' those that are left -/
structure After (K : PySem.W.Frag) (G H : Hp) (cl : List (Addr × Cell)) (G' H' : Hp) (cl' : List (Addr × Cell)) : Prop where
  gg : Same G G'
  gh : Same G' H'
  fr : ∀ b o, H b = some o → b ∉ cl.map (·.1) → H' b = some o
  al : ∀ b, H' b = none → H b = none
  nw : ∀ b, G' b ≠ none → G b ≠ none ∨ H b = none
  nd : (cl'.map (·.1)).Nodup
  at_ : ∀ p ∈ cl', G' p.1 = none ∧ (if p.2.lc = true then H p.1 = none else p.1 ∈ cl.map (·.1)) ∧ ∃ o, H' p.1 = some o ∧ p.2.hp K G' o
/-- a call's promise -/
def Call (K : PySem.W.Frag) (args : List Slot) (cl : List (Addr × Cell)) {ρ : Type} [Enc ρ] (post : ρ → List (Addr × Cell) → Prop) (xp : XD → List (Addr × Cell) → Prop) : Sp := fun us H Q E =>
  ∃ G, Same G H ∧ Reps K G us args ∧ (cl.map (·.1)).Nodup ∧ (∀ p ∈ cl, p.2.lc = false ∧ G p.1 = none ∧ ∃ o, H p.1 = some o ∧ p.2.hp K G o) ∧
    (∀ v r cl' G' H', post r cl' → After K G H cl G' H' cl' → Enc.rep K G' v r → Q v H') ∧ (∀ d x cl' G' H', xp x cl' → After K G H cl G' H' cl' → x.rp K G' d → E x.cls d H')
theorem Call.len {K : PySem.W.Frag} {args : List Slot} {cl : List (Addr × Cell)} {ρ : Type} [Enc ρ] {post : ρ → List (Addr × Cell) → Prop} {xp : XD → List (Addr × Cell) → Prop} {us : List V} {H : Hp} {Q : VK} {E : XK} (h : Call K args cl post xp us H Q E) : us.length = args.length := by
  obtain ⟨G, _, r, _⟩ := h
  exact r.length
theorem start_get {N : List Str} {us : List V} {i : Nat} {v : V} (h : us[i]? = some v) : (L2.start N us)[i]? = some (some v) := by
  have hi : i < us.length := (List.getElem?_eq_some_iff.mp h).1
  unfold L2.start
  rw [List.getElem?_append_left (by rw [List.length_map]; exact hi), List.getElem?_map, h]
  rfl
theorem reps_get {K : PySem.W.Frag} {G : Hp} : ∀ {us : List V} {ss : List Slot} {j : Nat} {s : Slot}, Reps K G us ss → ss[j]? = some s → ∃ u, us[j]? = some u ∧ s.rp K G u
  | _, _, _, _, .nil, h => by simp at h
  | _, _, 0, _, .cons (a := u) a t, h => by
    simp at h
    subst h
    exact ⟨u, rfl, a⟩
  | _, _, j + 1, _, .cons a t, h => reps_get (j := j) t (by simpa using h)
/-- a def's body, from its promise -/
theorem Call.body {K : PySem.W.Frag} {args : List Slot} {cl : List (Addr × Cell)} {ρ : Type} [Enc ρ] {post : ρ → List (Addr × Cell) → Prop} {xp : XD → List (Addr × Cell) → Prop} {us : List V} {H : Hp} {Q : VK} {E : XK} {N : List Str} {t : TS} {sl : List (Option Slot)} (h : Call K args cl post xp us H Q E)
    (hsl : sl = args.map some ++ List.replicate (N.length - args.length) none)
    (hd : ∀ (G0 H0 : Hp), Do { K := K, G0 := G0, H0 := H0, A0 := cl.map (·.1), W := fun cls d _ H => E cls d H, xr := fun x e => ∃ cl', cl'.Sublist e.cl ∧ xp x cl' } t ⟨sl, cl⟩
      ({ nx := fun e => ∃ r, (∀ K G, Enc.rep K G V.non r) ∧ ∃ cl', cl'.Sublist e.cl ∧ post r cl', rt := fun r e => ∃ cl', cl'.Sublist e.cl ∧ post r cl', bk := fun _ => False, ct := fun _ => False } : En ρ)) :
    t { nx := fun _ H' => Q .non H', rt := Q } (L2.start N us) H := by
  subst hsl
  obtain ⟨G, gh, r, nd, hc, hq, hx⟩ := h
  have hl := r.length
  have ok : Ok { K := K, G0 := G, H0 := H, A0 := cl.map (·.1), W := fun cls d _ H => E cls d H, xr := fun x e => ∃ cl', cl'.Sublist e.cl ∧ xp x cl' } G H (L2.start N us) ⟨args.map some ++ List.replicate (N.length - args.length) none, cl⟩ := by
    refine ⟨Same.refl _, gh, fun _ _ h _ => h, fun _ h => h, fun _ h => .inl h, ⟨?_, fun i s hs => ?_⟩, nd, fun p hp => ?_⟩
    · show (L2.start N us).length = (args.map some ++ List.replicate (N.length - args.length) none).length
      unfold L2.start
      rw [List.length_append, List.length_append, List.length_map, List.length_map, List.length_replicate, List.length_replicate, hl]
    · have hs : (args.map some ++ List.replicate (N.length - args.length) none)[i]? = some (some s) := hs
      by_cases hi : i < args.length
      · rw [List.getElem?_append_left (by rw [List.length_map]; exact hi), List.getElem?_map] at hs
        cases e : args[i]? with
        | none => rw [e] at hs; cases hs
        | some s' =>
          rw [e] at hs
          have e2 : s' = s := Option.some.inj (Option.some.inj hs)
          subst e2
          obtain ⟨u, h1, h2⟩ := reps_get r e
          exact ⟨u, start_get h1, h2⟩
      · rw [List.getElem?_append_right (by rw [List.length_map]; omega), List.getElem?_replicate] at hs
        split at hs
        · cases Option.some.inj hs
        · cases hs
    · obtain ⟨h1, h2, h3⟩ := hc p hp
      exact ⟨h2, by rw [if_neg (by rw [h1]; exact Bool.false_ne_true)]; exact List.mem_map.mpr ⟨p, hp, rfl⟩, h3⟩
  have aft : ∀ {σ : St} {G' H' : Hp} {e' : Ev1} {cl' : List (Addr × Cell)}, cl'.Sublist e'.cl → Ok { K := K, G0 := G, H0 := H, A0 := cl.map (·.1), W := fun cls d _ H => E cls d H, xr := fun x e => ∃ cl', cl'.Sublist e.cl ∧ xp x cl' } G' H' σ e' → After K G H cl G' H' cl' := fun {σ G' H' e' cl'} hs k => ⟨k.g0, k.gh, k.fr, k.al, k.nw, List.Nodup.sublist (hs.map _) k.cr.nd, fun p hp => k.cr.at_ p (hs.mem hp)⟩
  refine hd G H (L2.start N us) G H ok (fun d σ' G' H' e' x ⟨cl', hs, xr⟩ k s rx => hx d x cl' G' H' xr (aft hs k) rx) _ ⟨fun σ G' H' e' ⟨r, h1, cl', hs, h2⟩ k s => hq _ r cl' G' H' h2 (aft hs k) (h1 _ _), fun v r σ G' H' e' ⟨cl', hs, h1⟩ k s h2 => hq v r cl' G' H' h1 (aft hs k) h2, fun _ _ _ _ z => z.elim, fun _ _ _ _ z => z.elim⟩

section
variable {B : Bs} {e : Ev1} {α β γ ρ : Type} [Enc α] [Enc β] [Enc γ] [Enc ρ] {te tl ta : TE} {E : En ρ}
/-- behind a call that leaves its cells as they were -/
theorem after_ok {G H G' H' : Hp} {σ : St} {cl : List (Addr × Cell)} (ok : Ok B G H σ e) (hcl : ∀ p ∈ cl, ∃ c, (p.1, c) ∈ e.cl ∧ c.hp = p.2.hp) (a : After B.K G H cl G' H' cl) : Ok B G' H' σ e := by
  refine ⟨ok.g0.trans a.gg, a.gh, fun b o h hb => a.fr b o (ok.fr b o h hb) fun hm => ?_, fun b h => ok.al b (a.al b h), fun b h => ?_, ok.sr.mono a.gg, ok.cr.nd, fun c hc => ?_⟩
  · obtain ⟨p, hp, rfl⟩ := List.mem_map.mp hm
    obtain ⟨c, hc, _⟩ := hcl p hp
    obtain ⟨_, h2, _⟩ := ok.cr.at_ _ hc
    split at h2
    · have h2 : B.H0 p.1 = none := h2
      rw [h2] at h
      cases h
    · exact hb h2
  · rcases a.nw b h with h | h
    · exact ok.nw b h
    · exact .inr (ok.al b h)
  · obtain ⟨h1, h2, o, h3, h4⟩ := ok.cr.at_ c hc
    by_cases hm : c.1 ∈ cl.map (·.1)
    · obtain ⟨p, hp, e1⟩ := List.mem_map.mp hm
      obtain ⟨c', hc', e2⟩ := hcl p hp
      have e3 : (p.1, c') = c := by
        obtain ⟨i, hi, x1⟩ := List.mem_iff_getElem.mp hc'
        obtain ⟨j, hj, x2⟩ := List.mem_iff_getElem.mp hc
        have n1 : (e.cl.map (·.1))[i]? = some p.1 := by rw [List.getElem?_map, List.getElem?_eq_getElem hi, x1]; rfl
        have n2 : (e.cl.map (·.1))[j]? = some p.1 := by rw [List.getElem?_map, List.getElem?_eq_getElem hj, x2]; exact congrArg some e1.symm
        have e4 := nd_ix ok.cr.nd n1 n2
        subst e4
        exact x1.symm.trans x2
      subst e3
      obtain ⟨k1, _, o', k3, k4⟩ := a.at_ p hp
      exact ⟨k1, h2, o', k3, by show c'.hp B.K G' o'; rw [e2]; exact k4⟩
    · refine ⟨?_, h2, o, a.fr _ _ h3 hm, c.2.mono a.gg h4⟩
      cases q : G' c.1 with
      | none => rfl
      | some u =>
        rcases a.nw c.1 (by rw [q]; exact fun z => nomatch z) with z | z
        · exact absurd h1 z
        · rw [h3] at z
          cases z
/-- f(..) where cells stay as they are; W: any wish, where nothing is raised -/
theorem ev_call {sp : Sp} {W : WX} {t : TA} {P : List Slot → Prop} {P' : ρ → Prop} {cl : List (Addr × Cell)} (post : ρ → List (Addr × Cell) → Prop) (xp : XD → List (Addr × Cell) → Prop) (ha : EvA B t e P)
    (hs : ∀ ss, P ss → ∀ us H Q E, Call B.K ss cl post xp us H Q E → sp us H Q E) (nd : (cl.map (·.1)).Nodup) (hcl : ∀ p ∈ cl, p.2.lc = false ∧ ∃ c, (p.1, c) ∈ e.cl ∧ c.hp = p.2.hp)
    (hp : ∀ r cl', post r cl' → cl' = cl ∧ P' r) (hx : ∀ x cl', xp x cl' → cl' = cl ∧ W = B.W ∧ B.xr x e) : Ev B (tCallS sp (WE W) t) e P' := fun σ G H ok X Q q =>
  ha σ G H ok X _ fun us ss G1 H1 p ok1 s1 r1 => hs ss p us H1 Q _ ⟨G1, ok1.gh, r1, nd, fun c hc => by
      obtain ⟨h1, c', h2, h3⟩ := hcl c hc
      obtain ⟨k1, _, k3⟩ := ok1.cr.at_ _ h2
      exact ⟨h1, k1, by rw [← h3]; exact k3⟩,
    fun v r cl' G' H' pr a rv => by
      obtain ⟨rfl, pr'⟩ := hp r cl' pr
      exact q v r G' H' pr' (after_ok ok1 (fun c hc => (hcl c hc).2) a) (s1.trans a.gg) rv,
    fun d x cl' G' H' px a rx => by
      obtain ⟨rfl, hw, px'⟩ := hx x cl' px
      subst hw
      exact X d σ G' H' e x px' (after_ok ok1 (fun c hc => (hcl c hc).2) a) (s1.trans a.gg) rx⟩
theorem ev_callP {sp : Sp} {W : WX} {t : TA} {P : List Slot → Prop} {P' : ρ → Prop} (xp : XD → Prop) (ha : EvA B t e P)
    (hs : ∀ ss, P ss → ∀ us H Q E, Call B.K ss [] (fun (r : ρ) c => c = [] ∧ P' r) (fun x c => c = [] ∧ xp x) us H Q E → sp us H Q E) (hx : ∀ x, xp x → W = B.W ∧ B.xr x e) : Ev B (tCallS sp (WE W) t) e P' :=
  ev_call _ _ ha hs List.nodup_nil (fun _ h => nomatch h) (fun r cl' h => h) fun x cl' h => ⟨h.1, hx x h.2⟩
/-- one cell at a place, as it was -/
def prm (c : Cell) : Cell := ⟨false, c.hp, c.mono⟩
theorem ev_call1 {sp : Sp} {W : WX} {t : TA} {P : List Slot → Prop} {P' : ρ → Prop} {k : Nat} {a : Addr} {c c0 : Cell} (hc : e.cl[k]? = some (a, c0)) (e0 : c0.hp = c.hp) (hl : c.lc = false) (xp : XD → Prop) (ha : EvA B t e P)
    (hs : ∀ ss, P ss → ∀ us H Q E, Call B.K ss [(a, c)] (fun (r : ρ) cl => cl = [(a, c)] ∧ P' r) (fun x cl => cl = [(a, c)] ∧ xp x) us H Q E → sp us H Q E) (hx : ∀ x, xp x → W = B.W ∧ B.xr x e) : Ev B (tCallS sp (WE W) t) e P' :=
  ev_call _ _ ha hs (by simp) (fun p hp => by
    obtain rfl := List.mem_singleton.mp hp
    exact ⟨hl, c0, List.mem_of_getElem? hc, e0⟩) (fun r cl' h => h) fun x cl' h => ⟨h.1, hx x h.2⟩
end
end Fw

namespace Fw
open PySem L2

abbrev tl (s : Str) : List Nat := s.cps.toList
theorem szl {n : Nat} (h : n ≤ 10000000) : n ≤ sizeLine := by rw [sizeLine_eq]; omega
theorem szlt {n : Nat} (h : n ≤ 10000000) : n < sizeLine := by rw [sizeLine_eq]; omega

section
variable {B : Bs} {e : Ev1} {α β γ δ ρ : Type} [Enc α] [Enc β] [Enc γ] [Enc ρ] {ta tb te : TE} {t1 : TA} {tt tu : TT} {E : En ρ}
/-! ### by values -/
theorem r2_F {α β γ : Type} [EncF α] [EncF β] [EncF γ] {r : R2} {x : α} {y : β} {z : γ} (h : ∀ H (Q : VK), Q (EncF.toV z) H → r (EncF.toV x) (EncF.toV y) H Q) : R2V B e r x y (· = z) := fun σ G H ok v w rv rw Q q => by
  have e1 := EncF.repV.mp rv
  have e2 := EncF.repV.mp rw
  subst e1
  subst e2
  exact h H Q (q _ z G H rfl ok (Same.refl G) (EncF.repV.mpr rfl))
theorem rc_F1 {α γ : Type} [EncF α] [EncF γ] {r : List V → Hp → VK → Prop} {x : α} {z : γ} (h : ∀ H (Q : VK), Q (EncF.toV z) H → r [EncF.toV x] H Q) : RCV B e r [vs x] (· = z) := fun σ G H ok us ru Q q => by
  cases ru with
  | cons a b =>
    cases b
    have e1 := EncF.repV.mp (show Enc.rep B.K G _ x from a)
    subst e1
    exact h H Q (q _ z G H rfl ok (Same.refl G) (EncF.repV.mpr rfl))
theorem rc_F2 {α β γ : Type} [EncF α] [EncF β] [EncF γ] {r : List V → Hp → VK → Prop} {x : α} {y : β} {z : γ} (h : ∀ H (Q : VK), Q (EncF.toV z) H → r [EncF.toV x, EncF.toV y] H Q) : RCV B e r [vs x, vs y] (· = z) := fun σ G H ok us ru Q q => by
  cases ru with
  | cons a b =>
    cases b with
    | cons a2 b2 =>
      cases b2
      have e1 := EncF.repV.mp (show Enc.rep B.K G _ x from a)
      have e2 := EncF.repV.mp (show Enc.rep B.K G _ y from a2)
      subst e1
      subst e2
      exact h H Q (q _ z G H rfl ok (Same.refl G) (EncF.repV.mpr rfl))
/-! ### ints -/
theorem r2_add {i j : Int} : R2V B e (rI0 fun i j => .int (i + j)) i j (· = i + j) := r2_F fun H Q q => ⟨i, j, rfl, rfl, q⟩
theorem r2_sub {i j : Int} : R2V B e (rI0 fun i j => .int (i - j)) i j (· = i - j) := r2_F fun H Q q => ⟨i, j, rfl, rfl, q⟩
theorem r2_mul {i j : Int} (h : (-(2 ^ 64) < i ∧ i < 2 ^ 64) ∨ (-(2 ^ 64) < j ∧ j < 2 ^ 64)) : R2V B e (rI CMul fun i j => .int (i * j)) i j (· = i * j) := r2_F fun H Q q => ⟨i, j, rfl, rfl, h, q⟩
theorem r2_mod {i j : Int} (h : 0 < j) : R2V B e (rI (fun _ j => 0 < j) fun i j => .int (i % j)) i j (· = i % j) := r2_F fun H Q q => ⟨i, j, rfl, rfl, h, q⟩
theorem r2_fdiv {i j : Int} (h : 0 < j ∧ j < 1073741824) : R2V B e (rI CDiv fun i j => .int (i / j)) i j (· = i / j) := r2_F fun H Q q => ⟨i, j, rfl, rfl, h, q⟩
theorem r2_pow {i j : Int} (h : 0 ≤ j ∧ j ≤ 1000000 ∧ i.natAbs < 2 ^ 64) : R2V B e (rI CPow fun i j => .int (i ^ j.toNat)) i j (· = i ^ j.toNat) := r2_F fun H Q q => ⟨i, j, rfl, rfl, h, q⟩
theorem r2_lt {i j : Int} : R2V B e (rI0 fun i j => .bl (decide (i < j))) i j (· = decide (i < j)) := r2_F fun H Q q => ⟨i, j, rfl, rfl, q⟩
theorem r2_le {i j : Int} : R2V B e (rI0 fun i j => .bl (decide (i ≤ j))) i j (· = decide (i ≤ j)) := r2_F fun H Q q => ⟨i, j, rfl, rfl, q⟩
theorem r2_gt {i j : Int} : R2V B e (rI0 fun i j => .bl (decide (j < i))) i j (· = decide (j < i)) := r2_F fun H Q q => ⟨i, j, rfl, rfl, q⟩
theorem r2_ge {i j : Int} : R2V B e (rI0 fun i j => .bl (decide (j ≤ i))) i j (· = decide (j ≤ i)) := r2_F fun H Q q => ⟨i, j, rfl, rfl, q⟩
theorem r2_eqI {i j : Int} : R2V B e rEq i j (· = decide (i = j)) := r2_F fun H Q q => ⟨rfl, by
  have e1 : decide (V.int i = V.int j) = decide (i = j) := by rw [dec_int]; exact Bool.beq_eq_decide_eq i j
  show Q (.bl (decide (V.int i = V.int j))) H
  rw [e1]
  exact q⟩
theorem r2_neI {i j : Int} : R2V B e rNe i j (· = !decide (i = j)) := r2_F fun H Q q => ⟨rfl, by
  have e1 : decide (V.int i = V.int j) = decide (i = j) := by rw [dec_int]; exact Bool.beq_eq_decide_eq i j
  show Q (.bl (!decide (V.int i = V.int j))) H
  rw [e1]
  exact q⟩
theorem r2_eqS {i j : Str} : R2V B e rEq i j (· = decide (i = j)) := r2_F fun H Q q => ⟨rfl, by
  have e1 : decide (V.str i = V.str j) = decide (i = j) := by
    rw [Bool.eq_iff_iff]
    simp
  show Q (.bl (decide (V.str i = V.str j))) H
  rw [e1]
  exact q⟩
theorem r2_neS {i j : Str} : R2V B e rNe i j (· = !decide (i = j)) := r2_F fun H Q q => ⟨rfl, by
  have e1 : decide (V.str i = V.str j) = decide (i = j) := by
    rw [Bool.eq_iff_iff]
    simp
  show Q (.bl (!decide (V.str i = V.str j))) H
  rw [e1]
  exact q⟩
theorem r2_eqB {i j : Bool} : R2V B e rEq i j (· = decide (i = j)) := r2_F fun H Q q => ⟨rfl, by
  have e1 : decide (V.bl i = V.bl j) = decide (i = j) := by
    rw [Bool.eq_iff_iff]
    simp
  show Q (.bl (decide (V.bl i = V.bl j))) H
  rw [e1]
  exact q⟩
theorem r2_neB {i j : Bool} : R2V B e rNe i j (· = !decide (i = j)) := r2_F fun H Q q => ⟨rfl, by
  have e1 : decide (V.bl i = V.bl j) = decide (i = j) := by
    rw [Bool.eq_iff_iff]
    simp
  show Q (.bl (!decide (V.bl i = V.bl j))) H
  rw [e1]
  exact q⟩
theorem ev_un {r : V → Hp → VK → Prop} {P : α → Prop} {P' : γ → Prop} (h : Ev B ta e P) (hr : ∀ x, P x → ∀ σ G H, Ok B G H σ e → ∀ v, Enc.rep B.K G v x → ∀ Q : VK, (∀ u z G' H', P' z → Ok B G' H' σ e → Same G G' → Enc.rep B.K G' u z → Q u H') → r v H Q) : Ev B (tUn r ta) e P' := fun σ G H ok X Q q =>
  h σ G H ok X _ fun v x G1 H1 p ok1 s1 r1 => hr x p σ G1 H1 ok1 v r1 Q fun u z G2 H2 p2 ok2 s2 r2 => q u z G2 H2 p2 ok2 (s1.trans s2) r2
theorem ev_neg {i : Int} (h : EvD B ta e i) : EvD B (tUn (rU fun i => .int (-i)) ta) e (-i) := ev_un h fun x p σ G H ok v rv Q q => by
  subst p
  exact ⟨x, rv, q _ (-x) G H rfl ok (Same.refl G) rfl⟩
/-! ### texts -/
def sgn (s : Str) : Nat := s.cps.getD 0 0
def rAddS : R2 := fun x y H Q => ∃ i j : Str, x = .str i ∧ y = .str j ∧ i.length + j.length ≤ sizeLine ∧ Q (.str (i ++ j)) H
theorem op_addS {X : Cx} : OpR X (binaryOp .Add) rAddS := op_add_str
theorem r2_addS {i j : Str} (h : i.length + j.length ≤ 10000000) : R2V B e rAddS i j (· = i ++ j) := r2_F fun H Q q => ⟨i, j, rfl, rfl, szl h, q⟩
def rLtS : R2 := fun x y H Q => ∃ i j : Str, x = .str i ∧ y = .str j ∧ Q (.bl (decide (i.cps.toList < j.cps.toList))) H
def rLeS : R2 := fun x y H Q => ∃ i j : Str, x = .str i ∧ y = .str j ∧ Q (.bl (!decide (j.cps.toList < i.cps.toList))) H
def rGtS : R2 := fun x y H Q => ∃ i j : Str, x = .str i ∧ y = .str j ∧ Q (.bl (decide (j.cps.toList < i.cps.toList))) H
def rGeS : R2 := fun x y H Q => ∃ i j : Str, x = .str i ∧ y = .str j ∧ Q (.bl (!decide (i.cps.toList < j.cps.toList))) H
theorem op_ltS {X : Cx} : OpR X (compareOp .Lt) rLtS := op_lt_str
theorem op_leS {X : Cx} : OpR X (compareOp .LtE) rLeS := op_le_str
theorem op_gtS {X : Cx} : OpR X (compareOp .Gt) rGtS := op_gt_str
theorem op_geS {X : Cx} : OpR X (compareOp .GtE) rGeS := op_ge_str
theorem r2_ltS {i j : Str} : R2V B e rLtS i j (· = decide (tl i < tl j)) := r2_F fun H Q q => ⟨i, j, rfl, rfl, q⟩
theorem r2_leS {i j : Str} : R2V B e rLeS i j (· = !decide (tl j < tl i)) := r2_F fun H Q q => ⟨i, j, rfl, rfl, q⟩
theorem r2_gtS {i j : Str} : R2V B e rGtS i j (· = decide (tl j < tl i)) := r2_F fun H Q q => ⟨i, j, rfl, rfl, q⟩
theorem r2_geS {i j : Str} : R2V B e rGeS i j (· = !decide (tl i < tl j)) := r2_F fun H Q q => ⟨i, j, rfl, rfl, q⟩
def rInG : R2 := fun x y H Q => ∃ (c : Nat) (z : Str), x = .str ⟨#[c]⟩ ∧ y = .str z ∧ Q (.bl (decide (c ∈ z.cps.toList))) H
def rNiG : R2 := fun x y H Q => ∃ (c : Nat) (z : Str), x = .str ⟨#[c]⟩ ∧ y = .str z ∧ Q (.bl (!decide (c ∈ z.cps.toList))) H
theorem op_inG {X : Cx} : OpR X (compareOp .In) rInG := op_in_sign
theorem op_niG {X : Cx} : OpR X (compareOp .NotIn) rNiG := op_notIn_sign
theorem r2_inG {i j : Str} (h : i = ⟨#[sgn i]⟩) : R2V B e rInG i j (· = decide (sgn i ∈ tl j)) := r2_F fun H Q q => ⟨sgn i, j, congrArg V.str h, rfl, q⟩
theorem r2_niG {i j : Str} (h : i = ⟨#[sgn i]⟩) : R2V B e rNiG i j (· = !decide (sgn i ∈ tl j)) := r2_F fun H Q q => ⟨sgn i, j, congrArg V.str h, rfl, q⟩
def rLenT : List V → Hp → VK → Prop := fun xs H Q => ∃ z : Str, xs = [.str z] ∧ z.length ≤ sizeLine ∧ Q (.int z.length) H
theorem cr_lenT {X : Cx} : CallR X (.builtin "len") rLenT := call_len_str
theorem rc_lenT {z : Str} (h : z.length ≤ 10000000) : RCV B e rLenT [vs z] (· = (z.length : Int)) := rc_F1 fun H Q q => ⟨z, rfl, szl h, q⟩
theorem ixN_nn {n : Nat} {i : Int} (h0 : 0 ≤ i) (h1 : i < n) : ixN n i = some i.toNat := by
  unfold ixN
  rw [if_pos h0, if_pos h1]
theorem ixN_ng {n : Nat} {i : Int} (h0 : i < 0) (h1 : -(n : Int) ≤ i) : ixN n i = some (i + n).toNat := by
  unfold ixN
  rw [if_neg (by omega), if_pos h1]
/-- the sign at a place -/
def sgnAt (z : Str) (k : Nat) : Str := ⟨#[z.cps.getD k 0]⟩
theorem r2_ixS {z : Str} {i : Int} {k : Nat} (hz : z.length ≤ 10000000) (h : ixN z.length i = some k) : R2V B e rIxS z i (· = sgnAt z k) := r2_F fun H Q q => ⟨z, i, z.cps.getD k 0, rfl, rfl, szl hz, by
  have hk := (ixN_seq h).2.1
  have hk : k < z.cps.size := hk
  unfold atI
  rw [Array.length_toList]
  have h : ixN z.cps.size i = some k := h
  rw [h]
  show z.cps.toList[k]? = some (z.cps.getD k 0)
  rw [Array.getElem?_toList, Array.getElem?_eq_getElem hk]
  simp [Array.getD, hk], q⟩
/-! parts of a slice -/
def EvO (B : Bs) (to : TO) (e : Ev1) (o : Option Int) : Prop := ∀ σ G H, Ok B G H σ e → XOk B G → ∀ Q : Option Int → Hp → Prop, (∀ G' H', Ok B G' H' σ e → Same G G' → Q o H') → to σ H Q
theorem eo_none : EvO B tNoPart e none := fun σ G H ok X Q q => q G H ok (Same.refl G)
theorem eo_some {i : Int} (h : EvD B te e i) : EvO B (tPart te) e (some i) := fun σ G H ok X Q q => h σ G H ok X _ fun v x G' H' p ok' s r => ⟨x, r, by rw [p]; exact q G' H' ok' s⟩
theorem ev_slS {z : Str} {lo hi : Option Int} {t2 t3 : TO} (h : EvD B te e z) (h1 : EvO B t2 e lo) (h2 : EvO B t3 e hi) (hz : z.length ≤ 10000000) : EvD B (tSl rSlS te t2 t3) e (cutS z lo hi) := fun σ G H ok X Q q =>
  h σ G H ok X _ fun v x G1 H1 p ok1 s1 r1 => h1 σ G1 H1 ok1 (X.mono s1) _ fun G2 H2 ok2 s2 => h2 σ G2 H2 ok2 (X.mono (s1.trans s2)) _ fun G3 H3 ok3 s3 => by
    subst p
    exact ⟨x, r1, szl hz, q _ _ G3 H3 rfl ok3 ((s1.trans s2).trans s3) rfl⟩
/-! ### calls of built-ins on ints -/
def rAbs : List V → Hp → VK → Prop := fun xs H Q => ∃ i : Int, xs = [.int i] ∧ Q (.int (if i < 0 then -i else i)) H
theorem cr_abs {X : Cx} : CallR X (.builtin "abs") rAbs := call_abs
theorem rc_abs {i : Int} : RCV B e rAbs [vs i] (· = if i < 0 then -i else i) := rc_F1 fun H Q q => ⟨i, rfl, q⟩
def rMax2 : List V → Hp → VK → Prop := fun xs H Q => ∃ i j : Int, xs = [.int i, .int j] ∧ Q (.int (if j > i then j else i)) H
theorem cr_max2 {X : Cx} (hc : X.calm = true) : CallR X (.builtin "max") rMax2 := call_max2 hc
theorem rc_max2 {i j : Int} : RCV B e rMax2 [vs i, vs j] (· = if j > i then j else i) := rc_F2 fun H Q q => ⟨i, j, rfl, q⟩
def rMin2 : List V → Hp → VK → Prop := fun xs H Q => ∃ i j : Int, xs = [.int i, .int j] ∧ Q (.int (if j < i then j else i)) H
theorem cr_min2 {X : Cx} (hc : X.calm = true) : CallR X (.builtin "min") rMin2 := call_min2 hc
theorem rc_min2 {i j : Int} : RCV B e rMin2 [vs i, vs j] (· = if j < i then j else i) := rc_F2 fun H Q q => ⟨i, j, rfl, q⟩
def rInt1 : List V → Hp → VK → Prop := fun xs H Q => (∃ i : Int, xs = [.int i] ∧ Q (.int i) H) ∨ ∃ k : Bool, xs = [.bl k] ∧ Q (.int (if k then 1 else 0)) H
theorem cr_int1 {X : Cx} : CallR X (.type "int") rInt1 := call_int1
theorem rc_int1 {i : Int} : RCV B e rInt1 [vs i] (· = i) := rc_F1 fun H Q q => .inl ⟨i, rfl, q⟩
theorem rc_intb {k : Bool} : RCV B e rInt1 [vs k] (· = (if k = true then (1 : Int) else 0)) := rc_F1 fun H Q q => .inr ⟨k, rfl, q⟩
def rStrI : List V → Hp → VK → Prop := fun xs H Q => ∃ i : Int, xs = [.int i] ∧ i.natAbs.log2 < 1920 ∧ Q (.str (toString i)) H
theorem cr_strI {X : Cx} : CallR X (.type "str") rStrI := call_str_int
def strI (i : Int) : Str := toString i
theorem rc_strI {i : Int} (h : i.natAbs.log2 < 1920) : RCV B e rStrI [vs i] (· = strI i) := rc_F1 fun H Q q => ⟨i, rfl, h, q⟩
/-! ### len of sequences -/
def rLenQ (K : PySem.W.Frag) : List V → Hp → VK → Prop := fun xs H Q => ∃ p ys, xs = [.ref p] ∧ (SqL K H p ys ∨ SqT K H p ys) ∧ Q (.int ys.length) H
theorem cr_lenQ {X : Cx} : CallR X (.builtin "len") (rLenQ X.K) := call_len_seq
theorem rc_lenL {xs : List α} : RCV B e (rLenQ B.K) [vs xs] (· = (xs.length : Int)) := fun σ G H ok us ru Q q => by
  cases ru with
  | cons a b =>
    cases b
    obtain ⟨p, ws, rfl, h1, h2⟩ := (show Enc.rep B.K G _ xs from a)
    exact ⟨p, ws, rfl, .inl (.inl (.inl (ok.gh _ _ h1))), q _ _ G H rfl ok (Same.refl G) (by show V.int _ = V.int _; rw [h2.length])⟩
theorem rc_lenU {xs : Tup α} : RCV B e (rLenQ B.K) [vs xs] (· = (xs.l.length : Int)) := fun σ G H ok us ru Q q => by
  cases ru with
  | cons a b =>
    cases b
    obtain ⟨p, ws, rfl, h1, h2⟩ := (show Enc.rep B.K G _ xs from a)
    exact ⟨p, ws, rfl, .inr (same_t ok.gh h1), q _ _ G H rfl ok (Same.refl G) (by show V.int _ = V.int _; rw [h2.length])⟩
theorem rc_lenO {k : Nat} {a : Addr} {ys : List α} (hc : e.cl[k]? = some (a, ownL ys)) : RCV B e (rLenQ B.K) [vs (Adr.mk a)] (· = (ys.length : Int)) := fun σ G H ok us ru Q q => by
  cases ru with
  | cons ra b =>
    cases b
    obtain rfl := (show _ = V.ref a from ra)
    obtain ⟨_, _, o, h1, ws, rfl, h2⟩ := ok.cell hc
    exact ⟨a, ws, rfl, .inl (.inl (.inl h1)), q _ _ G H rfl ok (Same.refl G) (by show V.int _ = V.int _; rw [h2.length])⟩
/-! ### items -/
theorem atI_paired {K : PySem.W.Frag} {G : Hp} {ws : List V} {ys : List α} {i : Int} {k : Nat} {y : α} (h : Paired (Enc.rep K G) ws ys) (hi : ixN ys.length i = some k) (hy : ys[k]? = some y) : ∃ u, atI ws i = some u ∧ Enc.rep K G u y := by
  obtain ⟨u, h1, h2⟩ := paired_get h hy
  refine ⟨u, ?_, h2⟩
  unfold atI
  rw [h.length, hi]
  exact h1
theorem r2_ixL {ys : List α} {i : Int} {k : Nat} {y : α} (hi : ixN ys.length i = some k) (hy : ys[k]? = some y) : R2V B e (rIxL B.K) ys i (· = y) := fun σ G H ok v w rv rw Q q => by
  obtain ⟨p, ws, rfl, h1, h2⟩ := rv
  obtain rfl := (show w = V.int i from rw)
  obtain ⟨u, h3, h4⟩ := atI_paired h2 hi hy
  exact ⟨p, ws, i, u, rfl, rfl, .inl (.inl (ok.gh _ _ h1)), h3, q u y G H rfl ok (Same.refl G) h4⟩
theorem r2_ixU {ys : Tup α} {i : Int} {k : Nat} {y : α} (hi : ixN ys.l.length i = some k) (hy : ys.l[k]? = some y) : R2V B e (rIxT B.K) ys i (· = y) := fun σ G H ok v w rv rw Q q => by
  obtain ⟨p, ws, rfl, h1, h2⟩ := rv
  obtain rfl := (show w = V.int i from rw)
  obtain ⟨u, h3, h4⟩ := atI_paired h2 hi hy
  exact ⟨p, ws, i, u, rfl, rfl, same_t ok.gh h1, h3, q u y G H rfl ok (Same.refl G) h4⟩
theorem r2_ixO {j k : Nat} {a : Addr} {ys : List α} {i : Int} {y : α} (hc : e.cl[j]? = some (a, ownL ys)) (hi : ixN ys.length i = some k) (hy : ys[k]? = some y) : R2V B e (rIxL B.K) (Adr.mk a) i (· = y) := fun σ G H ok v w rv rw Q q => by
  obtain rfl := (show v = V.ref a from rv)
  obtain rfl := (show w = V.int i from rw)
  obtain ⟨_, _, o, h1, ws, rfl, h2⟩ := ok.cell hc
  obtain ⟨u, h3, h4⟩ := atI_paired h2 hi hy
  exact ⟨a, ws, i, u, rfl, rfl, .inl (.inl h1), h3, q u y G H rfl ok (Same.refl G) h4⟩
theorem r2_fst {x : α} {y : β} {i : Int} (hi : i = 0) : R2V B e (rIxT B.K) (x, y) i (· = x) := fun σ G H ok v w rv rw Q q => by
  obtain ⟨p, u1, u2, rfl, h1, h2, h3⟩ := rv
  obtain rfl := (show w = V.int i from rw)
  subst hi
  exact ⟨p, [u1, u2], 0, u1, rfl, rfl, same_t ok.gh h1, rfl, q u1 x G H rfl ok (Same.refl G) h2⟩
theorem r2_snd {x : α} {y : β} {i : Int} (hi : i = 1) : R2V B e (rIxT B.K) (x, y) i (· = y) := fun σ G H ok v w rv rw Q q => by
  obtain ⟨p, u1, u2, rfl, h1, h2, h3⟩ := rv
  obtain rfl := (show w = V.int i from rw)
  subst hi
  exact ⟨p, [u1, u2], 1, u2, rfl, rfl, same_t ok.gh h1, rfl, q u2 y G H rfl ok (Same.refl G) h3⟩
/-! ### tuples -/
theorem ev_pair {x : α} {y : β} (h : EvA B t1 e (· = [vs x, vs y])) : EvD B (tTup t1) e (x, y) := fun σ G H ok X Q q =>
  h σ G H ok X _ fun us ss G1 H1 p ok1 s1 r1 => by
    subst p
    cases r1 with
    | @cons u1 _ _ _ a b =>
      cases b with
      | @cons u2 _ _ _ a2 b2 =>
        cases b2
        refine ⟨by show 2 ≤ sizeLine; decide, fun p hp => ?_⟩
        have gp := ok1.gh.free hp
        have sg : Same G1 (upd G1 p (.tup [u1, u2])) := same_upd gp
        exact q (.ref p) (x, y) _ _ rfl (ok1.new hp) (s1.trans sg) ⟨p, u1, u2, rfl, .inl (.inl upd_same), Enc.mono sg a, Enc.mono sg a2⟩
theorem ev_tupU {xs : List α} (h : EvA B t1 e (· = xs.map vs)) (hl : xs.length ≤ 1000000) : EvD B (tTup t1) e (Tup.mk xs) := fun σ G H ok X Q q =>
  h σ G H ok X _ fun us ss G1 H1 p ok1 s1 r1 => by
    subst p
    have r2 := reps_list r1
    refine ⟨szl (by rw [r2.length]; omega), fun p hp => ?_⟩
    have gp := ok1.gh.free hp
    have sg : Same G1 (upd G1 p (.tup us)) := same_upd gp
    exact q (.ref p) (Tup.mk xs) _ _ rfl (ok1.new hp) (s1.trans sg) ⟨p, us, rfl, .inl (.inl upd_same), paired_mono sg r2⟩
def rTupOf (K : PySem.W.Frag) : List V → Hp → VK → Prop := fun xs H Q => ∃ p ys, xs = [.ref p] ∧ ((SqL K H p ys ∧ ∀ l, H l = none → Q (.ref l) (upd H l (.tup ys))) ∨ (SqT K H p ys ∧ Q (.ref p) H))
theorem cr_tupOf {X : Cx} : CallR X (.type "tuple") (rTupOf X.K) := call_tuple_of
theorem rc_tupL {xs : List α} : RCV B e (rTupOf B.K) [vs xs] (· = Tup.mk xs) := fun σ G H ok us ru Q q => by
  cases ru with
  | cons a b =>
    cases b
    obtain ⟨p, ws, rfl, h1, h2⟩ := (show Enc.rep B.K G _ xs from a)
    refine ⟨p, ws, rfl, .inl ⟨.inl (.inl (ok.gh _ _ h1)), fun l hl => ?_⟩⟩
    have gp := ok.gh.free hl
    have sg : Same G (upd G l (.tup ws)) := same_upd gp
    exact q (.ref l) (Tup.mk xs) _ _ rfl (ok.new hl) sg ⟨l, ws, rfl, .inl (.inl upd_same), paired_mono sg h2⟩
theorem rc_tupO {k : Nat} {a : Addr} {ys : List α} (hc : e.cl[k]? = some (a, ownL ys)) : RCV B e (rTupOf B.K) [vs (Adr.mk a)] (· = Tup.mk ys) := fun σ G H ok us ru Q q => by
  cases ru with
  | cons ra b =>
    cases b
    obtain rfl := (show _ = V.ref a from ra)
    obtain ⟨_, _, o, h1, ws, rfl, h2⟩ := ok.cell hc
    refine ⟨a, ws, rfl, .inl ⟨.inl (.inl h1), fun l hl => ?_⟩⟩
    have gp := ok.gh.free hl
    have sg : Same G (upd G l (.tup ws)) := same_upd gp
    exact q (.ref l) (Tup.mk ys) _ _ rfl (ok.new hl) sg ⟨l, ws, rfl, .inl (.inl upd_same), paired_mono sg h2⟩
/-! ### new lists -/
def rListOf (K : PySem.W.Frag) : List V → Hp → VK → Prop := fun xs H Q => ∃ p ys, xs = [.ref p] ∧ (SqL K H p ys ∨ SqT K H p ys) ∧ ∀ l, H l = none → Q (.ref l) (upd H l (.lst ys))
theorem cr_listOf {X : Cx} : CallR X (.type "list") (rListOf X.K) := call_list_of
theorem evl_cb {r : List V → Hp → VK → Prop} {ss : List Slot} {P : List α → Prop} (h : EvA B t1 e (· = ss))
    (hr : ∀ σ G H, Ok B G H σ e → ∀ us, Reps B.K G us ss → ∃ ws xs, P xs ∧ Paired (Enc.rep B.K G) ws xs ∧ ∀ Q : VK, (∀ l, H l = none → Q (.ref l) (upd H l (.lst ws))) → r us H Q) : EvL B (tCB r t1) e P := fun σ G H ok X Q q =>
  h σ G H ok X _ fun us ss' G1 H1 p ok1 s1 r1 => by
    subst p
    obtain ⟨ws, xs, px, hw, k⟩ := hr σ G1 H1 ok1 us r1
    exact k Q (newL ok1 px hw fun p us xs G' H' px ok' s' => q p us xs G' H' px ok' (s1.trans s'))
theorem evl_listL {xs : List α} (h : EvA B t1 e (· = [vs xs])) : EvL B (tCB (rListOf B.K) t1) e (· = xs) := evl_cb h fun σ G H ok us ru => by
  cases ru with
  | cons a b =>
    cases b
    obtain ⟨p, ws, rfl, h1, h2⟩ := (show Enc.rep B.K G _ xs from a)
    exact ⟨ws, xs, rfl, h2, fun Q q => ⟨p, ws, rfl, .inl (.inl (.inl (ok.gh _ _ h1))), q⟩⟩
theorem evl_listU {xs : Tup α} (h : EvA B t1 e (· = [vs xs])) : EvL B (tCB (rListOf B.K) t1) e (· = xs.l) := evl_cb h fun σ G H ok us ru => by
  cases ru with
  | cons a b =>
    cases b
    obtain ⟨p, ws, rfl, h1, h2⟩ := (show Enc.rep B.K G _ xs from a)
    exact ⟨ws, xs.l, rfl, h2, fun Q q => ⟨p, ws, rfl, .inr (same_t ok.gh h1), q⟩⟩
theorem evl_listO {k : Nat} {a : Addr} {ys : List α} (hc : e.cl[k]? = some (a, ownL ys)) (h : EvA B t1 e (· = [vs (Adr.mk a)])) : EvL B (tCB (rListOf B.K) t1) e (· = ys) := evl_cb h fun σ G H ok us ru => by
  cases ru with
  | cons ra b =>
    cases b
    obtain rfl := (show _ = V.ref a from ra)
    obtain ⟨_, _, o, h1, ws, rfl, h2⟩ := ok.cell hc
    exact ⟨ws, ys, rfl, h2, fun Q q => ⟨a, ws, rfl, .inl (.inl (.inl h1)), q⟩⟩
theorem paired_append {K : PySem.W.Frag} {G : Hp} : ∀ {us ws : List V} {xs ys : List α}, Paired (Enc.rep K G) us xs → Paired (Enc.rep K G) ws ys → Paired (Enc.rep K G) (us ++ ws) (xs ++ ys)
  | _, _, _, _, .nil, h => h
  | _, _, _, _, .cons a b, h => .cons a (paired_append b h)
theorem evl_op {r : R2} {x : α} {y : β} {P : List γ → Prop} (ha : EvD B ta e x) (hb : EvD B tb e y)
    (hr : ∀ σ G H, Ok B G H σ e → ∀ v w, Enc.rep B.K G v x → Enc.rep B.K G w y → ∃ ws xs, P xs ∧ Paired (Enc.rep B.K G) ws xs ∧ ∀ Q : VK, (∀ l, H l = none → Q (.ref l) (upd H l (.lst ws))) → r v w H Q) : EvL B (tOp r ta tb) e P := fun σ G H ok X Q q =>
  ha σ G H ok X _ fun v x' G1 H1 p ok1 s1 r1 => hb σ G1 H1 ok1 (X.mono s1) _ fun w y' G2 H2 p2 ok2 s2 r2 => by
    subst p
    subst p2
    obtain ⟨ws, xs, px, hw, k⟩ := hr σ G2 H2 ok2 v w (Enc.mono s2 r1) r2
    exact k Q (newL ok2 px hw fun p us xs G' H' px ok' s' => q p us xs G' H' px ok' ((s1.trans s2).trans s'))
theorem evl_cat {xs ys : List α} (ha : EvD B ta e xs) (hb : EvD B tb e ys) (hl : xs.length + ys.length ≤ 10000000) : EvL B (tOp rCat ta tb) e (· = xs ++ ys) := evl_op ha hb fun σ G H ok v w rv rw => by
  obtain ⟨p, us, rfl, h1, h2⟩ := rv
  obtain ⟨p', ws, rfl, h1', h2'⟩ := rw
  exact ⟨us ++ ws, _, rfl, paired_append h2 h2', fun Q q => ⟨p, p', us, ws, rfl, rfl, ok.gh _ _ h1, ok.gh _ _ h1', szl (by rw [h2.length, h2'.length]; exact hl), q⟩⟩
theorem paired_take {K : PySem.W.Frag} {G : Hp} : ∀ {us : List V} {xs : List α} (n : Nat), Paired (Enc.rep K G) us xs → Paired (Enc.rep K G) (us.take n) (xs.take n)
  | _, _, 0, _ => .nil
  | _, _, n + 1, .nil => .nil
  | _, _, n + 1, .cons a b => .cons a (paired_take n b)
theorem paired_drop {K : PySem.W.Frag} {G : Hp} : ∀ {us : List V} {xs : List α} (n : Nat), Paired (Enc.rep K G) us xs → Paired (Enc.rep K G) (us.drop n) (xs.drop n)
  | _, _, 0, h => h
  | _, _, n + 1, .nil => .nil
  | _, _, n + 1, .cons a b => paired_drop n b
def cutL (xs : List α) (lo hi : Option Int) : List α := (xs.drop (HT.sIx xs.length 0 lo)).take (HT.sIx xs.length xs.length hi - HT.sIx xs.length 0 lo)
theorem paired_cut {K : PySem.W.Frag} {G : Hp} {us : List V} {xs : List α} (lo hi : Option Int) (h : Paired (Enc.rep K G) us xs) : Paired (Enc.rep K G) (cutV us lo hi) (cutL xs lo hi) := by
  unfold cutV cutL
  rw [h.length]
  exact paired_take _ (paired_drop _ h)
theorem evl_slL {xs : List α} {lo hi : Option Int} {t2 t3 : TO} (h : EvD B te e xs) (h1 : EvO B t2 e lo) (h2 : EvO B t3 e hi) : EvL B (tSl (rSlL B.K) te t2 t3) e (· = cutL xs lo hi) := fun σ G H ok X Q q =>
  h σ G H ok X _ fun v x G1 H1 p ok1 s1 r1 => h1 σ G1 H1 ok1 (X.mono s1) _ fun G2 H2 ok2 s2 => h2 σ G2 H2 ok2 (X.mono (s1.trans s2)) _ fun G3 H3 ok3 s3 => by
    subst p
    obtain ⟨a, ws, rfl, k1, k2⟩ := Enc.mono (s2.trans s3) r1
    exact ⟨a, ws, rfl, .inl (.inl (ok3.gh _ _ k1)), newL (P := (· = cutL x lo hi)) ok3 rfl (paired_cut lo hi k2) fun p us xs G' H' px ok' s' => q p us xs G' H' px ok' (((s1.trans s2).trans s3).trans s')⟩
/-! ### any, all -/
theorem paired_bools {K : PySem.W.Frag} {G : Hp} : ∀ {us : List V} {xs : List Bool}, Paired (Enc.rep K G) us xs → us = xs.map V.bl
  | _, _, .nil => rfl
  | _, _, .cons a b => by
    rw [List.map_cons, ← paired_bools b]
    exact congrArg (· :: _) a
theorem paired_ints {K : PySem.W.Frag} {G : Hp} : ∀ {us : List V} {xs : List Int}, Paired (Enc.rep K G) us xs → us = xs.map V.int
  | _, _, .nil => rfl
  | _, _, .cons a b => by
    rw [List.map_cons, ← paired_ints b]
    exact congrArg (· :: _) a
theorem paired_strs {K : PySem.W.Frag} {G : Hp} : ∀ {us : List V} {xs : List Str}, Paired (Enc.rep K G) us xs → us = xs.map V.str
  | _, _, .nil => rfl
  | _, _, .cons a b => by
    rw [List.map_cons, ← paired_strs b]
    exact congrArg (· :: _) a
theorem rc_any {xs : List Bool} : RCV B e (rAny B.K) [vs xs] (· = xs.any id) := fun σ G H ok us ru Q q => by
  cases ru with
  | cons a b =>
    cases b
    obtain ⟨p, ws, rfl, h1, h2⟩ := (show Enc.rep B.K G _ xs from a)
    exact ⟨p, xs, rfl, .inl (.inl (by rw [← paired_bools h2]; exact ok.gh _ _ h1)), q _ _ G H rfl ok (Same.refl G) rfl⟩
theorem rc_all {xs : List Bool} : RCV B e (rAll B.K) [vs xs] (· = xs.all id) := fun σ G H ok us ru Q q => by
  cases ru with
  | cons a b =>
    cases b
    obtain ⟨p, ws, rfl, h1, h2⟩ := (show Enc.rep B.K G _ xs from a)
    exact ⟨p, xs, rfl, .inl (.inl (by rw [← paired_bools h2]; exact ok.gh _ _ h1)), q _ _ G H rfl ok (Same.refl G) rfl⟩
theorem rc_sum {xs : List Int} : RCV B e (rSum B.K) [vs xs] (· = xs.sum) := fun σ G H ok us ru Q q => by
  cases ru with
  | cons a b =>
    cases b
    obtain ⟨p, ws, rfl, h1, h2⟩ := (show Enc.rep B.K G _ xs from a)
    exact ⟨p, xs, rfl, .inl (.inl (by rw [← paired_ints h2]; exact ok.gh _ _ h1)), q _ _ G H rfl ok (Same.refl G) rfl⟩
/-! ### methods of texts -/
theorem ev_m1 {r : V → List V → Hp → VK → Prop} {K : PySem.W.Frag} {a b : Str} {z : γ} (ho : EvD B ta e a) (h : EvA B t1 e (· = [vs b])) (hr : ∀ σ G H, Ok B G H σ e → ∀ Q : VK, (∀ u G' H', Ok B G' H' σ e → Same G G' → Enc.rep B.K G' u z → Q u H') → r (.str a) [.str b] H Q) : EvD B (tBM K "str" r ta t1) e z := fun σ G H ok X Q q =>
  ho σ G H ok X _ fun v x G1 H1 p ok1 s1 r1 => by
    subst p
    obtain rfl := (show v = V.str x from r1)
    refine ⟨rfl, h σ G1 H1 ok1 (X.mono s1) _ fun us ss G2 H2 p2 ok2 s2 r2 => ?_⟩
    subst p2
    cases r2 with
    | cons c d =>
      cases d
      obtain rfl := (show _ = V.str b from c)
      exact hr σ G2 H2 ok2 Q fun u G' H' ok' s' ru => q u z G' H' rfl ok' ((s1.trans s2).trans s') ru
def rCountS : V → List V → Hp → VK → Prop := fun x xs H Q => ∃ a b : Str, x = .str a ∧ xs = [.str b] ∧ Q (.int (Txt.count a b)) H
theorem mt_countS {X : Cx} : MtR X "str.count" rCountS := mt_count
theorem ev_count {K : PySem.W.Frag} {a b : Str} (ho : EvD B ta e a) (h : EvA B t1 e (· = [vs b])) : EvD B (tBM K "str" rCountS ta t1) e (Txt.count a b : Int) := ev_m1 ho h fun σ G H ok Q q => ⟨a, b, rfl, rfl, q _ G H ok (Same.refl G) rfl⟩
theorem ev_index {K : PySem.W.Frag} {W : WX} {a b : Str} {k : Nat} (ho : EvD B ta e a) (h : EvA B t1 e (· = [vs b])) (hk : Txt.index0 a b = some k) : EvD B (tBMS K "str" (rIndexX W) ta t1) e ((k : Nat) : Int) := fun σ G H ok X Q q =>
  ho σ G H ok X _ fun v x G1 H1 p ok1 s1 r1 => by
    subst p
    obtain rfl := (show v = V.str x from r1)
    refine ⟨rfl, h σ G1 H1 ok1 (X.mono s1) _ fun us ss G2 H2 p2 ok2 s2 r2 => ?_⟩
    subst p2
    cases r2 with
    | cons c d =>
      cases d
      obtain rfl := (show _ = V.str b from c)
      exact ⟨x, b, rfl, rfl, fun j hj => by
        rw [hk] at hj
        cases hj
        exact q _ _ G2 H2 rfl ok2 (s1.trans s2) rfl, fun z => by rw [hk] at z; cases z⟩
end
end Fw

namespace FwE
open PySem
set_option maxHeartbeats 4000000 in
theorem meets_enum1 {v : Value} {o : Obj} {H : Heap → Prop} (B : Begins v o H) :
    Meets (Builtin.«enumerate.__new__» ⟨[.type "enumerate", v], []⟩) (fun _ R s => H s.heap ∧
      R (.ok (.ret (.ref (s.heap.push o).objs.size))) { s with heap := (s.heap.push o).push { cls := .type "enumerate", data := .fields #[.none, .bool false, .ref s.heap.objs.size, rawInt 0, .none, .none] } }) :=
  .of_wp fun prog w A R s h => by
    obtain ⟨hp, g, d, tk, os⟩ := s; obtain ⟨h1, h⟩ := h
    have hsub := sub_enumerate
    have q1 : ∀ {A' : Around} {E : Value → Shared → Prop} {Q : Value → Shared → Prop}, Q (.ref hp.objs.size) ⟨hp.push o, g, d, tk, os⟩ → wpAny (model prog w) A' (pyIter v) Q E ⟨hp, g, d, tk, os⟩ :=
      fun q => B.iter prog w _ _ ⟨hp, g, d, tk, os⟩ _ h1 q
    wp_walk using q1
    refine wpAny_stack_any fun st => wpAny_pure ?_
    split
    · rename_i c _ _ _ _ _
      cases (c == Value.type "enumerate")
      · wp_walk using q1
        exact ⟨_, rfl, h⟩
      · wp_walk using q1
        exact ⟨_, rfl, h⟩
    · wp_walk using q1
      exact ⟨_, rfl, h⟩
theorem enum_begins1 {prog : Program} {w : World} {A : Around} {E : Value → Shared → Prop} {s : Shared} {v : Value} {o : Obj} {H : Heap → Prop} {Q : Value → Shared → Prop} (B : Begins v o H) (h1 : H s.heap)
    (hc : checkTypeCall "enumerate" ⟨[v], []⟩ = pure ()) (hn : checkBuiltinCall "enumerate.__new__" ⟨[.type "enumerate", v], []⟩ = pure ())
    (h : ∀ h', IsEnum h' (s.heap.objs.size + 1) s.heap.objs.size 0 .none → h'.get? s.heap.objs.size = some o → h'.objs.size = s.heap.objs.size + 2 →
      (∀ b o, s.heap.get? b = some o → h'.get? b = some o) → Q (.ref (s.heap.objs.size + 1)) { s with heap := h' }) :
    wpAny (model prog w) A (call (.type "enumerate") [v]) Q E s := by
  refine callType_new F.called_enumerate (by decide) hc hn (fun obj => F.args_object_init_2 obj _) F.entry_enumerate_new
    (meets_enum1 B) ⟨h1, ?_⟩
  have hz : (s.heap.push o).objs.size = s.heap.objs.size + 1 := Heap.size_push ..
  show _ ∧ _
  rw [hz]
  have he : IsEnum ((s.heap.push o).push { cls := .type "enumerate", data := .fields #[.none, .bool false, .ref s.heap.objs.size, rawInt 0, .none, .none] }) (s.heap.objs.size + 1) s.heap.objs.size 0 .none := by
    have := Heap.get?_push_size (s.heap.push o) (o := { cls := .type "enumerate", data := .fields #[.none, .bool false, .ref s.heap.objs.size, rawInt 0, .none, .none] }) rfl
    rw [hz] at this; exact this
  refine ⟨⟨_, he, rfl⟩, h _ he (Heap.get?_push_of_some _ (Heap.get?_push_size _ B.free)) (by rw [Heap.size_push, hz]) fun b o x => Heap.get?_push_of_some _ (Heap.get?_push_of_some _ x)⟩
end FwE

namespace L2
open PySem PySem.Spec PyProof.Rows
/-! ### enumerate(text), enumerate(tuple) -/
theorem strIter_at {h h' : Heap} {it : Addr} {n : String} {x : Str} {t : Tok} {i : Nat} (hi : h.IsStrIter it n x t i) (k : ∀ o, h.get? it = some o → h'.get? it = some o) : h'.IsStrIter it n x t i := by
  obtain ⟨o, h1, h2⟩ := hi
  exact ⟨o, k o h1, h2⟩
def ItsE (x : Str) : It := ⟨fun i _ => i < x.cps.size, fun i H v H' => ∃ T c, v = .ref T ∧ H T = none ∧ H' = upd H T (.tup [.int (i : Nat), .str ⟨#[c]⟩]) ∧ x.cps[i]? = some c, fun i _ => x.cps.size ≤ i⟩
def ItuE (K : PySem.W.Frag) (a : Addr) (xs : List V) : It :=
  ⟨fun i H => SqT K H a xs ∧ i < xs.length, fun i H v H' => ∃ T x, v = .ref T ∧ H T = none ∧ H' = upd H T (.tup [.int (i : Nat), x]) ∧ xs[i]? = some x, fun i H => SqT K H a xs ∧ xs.length ≤ i⟩
theorem turn_enumS {P : Program} {w : World} {K : PySem.W.Frag} {elts : List Expr} {kk : Nat} {tpos : Pos} (e it : Addr) (x : Str) (t : Tok) :
    Turn P w K (.Tuple elts kk tpos) (ItsE x) [e, it] e (fun i h => i ≤ x.cps.size ∧ (∃ old, IsEnum h e it ((i : Nat) : Int) old) ∧ h.IsStrIter it (strIterType x) x t i ∧ e ≠ it) where
  mem := by simp
  obj := fun i h st b hb => by
    obtain ⟨_, ⟨old, he⟩, ⟨o, ho, hc, hd⟩, _⟩ := st
    have e' : b = e ∨ b = it := by simpa using hb
    rcases e' with z | z
    · rw [z]; exact ⟨_, he, fun v q => nomatch q⟩
    · rw [z]; exact ⟨o, ho, fun v q => by rw [hd] at q; cases q⟩
  keep := fun i h h' st k => let ⟨hi', ⟨old, he⟩, hi, hne⟩ := st; ⟨hi', ⟨old, k e (by simp) _ he⟩, strIter_at hi fun o q => k it (by simp) o q, hne⟩
  item := by
    intro X hP hw hK hc i pins s σ H E I hf st hg
    subst hP hw hK
    obtain ⟨_, ⟨old, he⟩, hit, hne⟩ := st
    have hg : i < x.cps.size := hg
    have hel : e < s.heap.objs.size := Heap.lt_size he
    have hil : it < s.heap.objs.size := by obtain ⟨_, q, _⟩ := hit; exact Heap.lt_size q
    have hh : X.A.in1.handled = none := I.ok.hd hc
    refine wpAny_pyNext_enum_itemD (Draws.text (A := X.A.in1) hh it x t) he hit hg hne (by simpa using hne) fun v h' tk hP ho hit' hT hsz hk => ?_
    obtain ⟨c, u, hx, rfl⟩ := hP
    refine ⟨_, rfl, wpAny_letOwnedTupleGo_enum (s := { s with heap := h', toks := tk + 1 }) ho fun h'' he' sb => ?_⟩
    have hT2 : h''.get? s.heap.objs.size = some { cls := .type "tuple", data := .seq #[.int i tk, .str ⟨#[c]⟩ u] } := (sb.2 _ (Nat.ne_of_gt hel)).trans hT
    have new : ObjOk X.prog X.w (upd H s.heap.objs.size (.tup [.int (i : Nat), .str ⟨#[c]⟩])) h'' s.heap.objs.size (.tup [.int (i : Nat), .str ⟨#[c]⟩]) :=
      ⟨by show 2 ≤ sizeLine; decide, [.int i tk, .str ⟨#[c]⟩ u], .cons ⟨_, rfl⟩ (.cons ⟨_, rfl⟩ .nil), ⟨_, hT2, rfl, _, rfl⟩⟩
    have I1 : Inv X pins σ (upd H s.heap.objs.size (.tup [.int (i : Nat), .str ⟨#[c]⟩])) { s with heap := h'', toks := tk + 1 } :=
      I.turnedNew (ch := [e, it]) (fun b ob hb q => (sb.2 b (fun z => hb (by simp [z]))).trans (hk b ob (fun z => hb (by simp [z])) (fun z => hb (by simp [z])) q)) hf (Nat.le_refl _) new
    refine ⟨.ref s.heap.objs.size, _, I1, rfl, ⟨_, c, rfl, I.hok.fresh (Nat.le_refl _), rfl, hx⟩, ⟨hg, ⟨.str ⟨#[c]⟩ u, ?_⟩, strIter_at hit' fun o q => (sb.2 it (Ne.symm hne)).trans q, hne⟩, fun b hb => ?_⟩
    · have e1 : ((i + 1 : Nat) : Int) = (i : Int) + 1 := by omega
      rw [e1]; exact he'
    · have hb' : b < s.heap.objs.size := by
        have e' : b = e ∨ b = it := by simpa using hb
        rcases e' with z | z
        · rw [z]; exact hel
        · rw [z]; exact hil
      rw [upd_ne (Nat.ne_of_lt hb')]
      exact (hf b hb).1
  done := by
    intro X hP hw hK hc i pins s σ H E I hf st hg
    subst hP hw hK
    obtain ⟨hi', ⟨old, he⟩, hit, hne⟩ := st
    have hg : x.cps.size ≤ i := hg
    have e2 : i = x.cps.size := Nat.le_antisymm hi' hg
    subst e2
    obtain ⟨f0, f1, f2, f3, f4, f5⟩ := hf it (by simp)
    have hh : X.A.in1.handled = none := I.ok.hd hc
    exact wpAny_pyNext_enum_endD (Draws.text (A := X.A.in1) hh it x t) he hit fun h' eb => ⟨rfl, I.turned (t' := s.toks) (fun b o hb q => eb b o hb q) f0 f1 f3 f4 f5⟩
  self := fun A i s Q E st h => let ⟨_, ⟨_, he⟩, _⟩ := st; wpAny_pyIter_enum he h
theorem turn_enumT {P : Program} {w : World} {K : PySem.W.Frag} {elts : List Expr} {kk : Nat} {tpos : Pos} (e it a : Addr) (xs : List V) (its : Array Value) (rv : Vals xs its.toList) (hei : e ≠ it) (hea : e ≠ a) (hai : a ≠ it) :
    Turn P w K (.Tuple elts kk tpos) (ItuE K a xs) [e, it] e (fun i h => i ≤ xs.length ∧ (∃ old, IsEnum h e it ((i : Nat) : Int) old) ∧ h.IsTupleIter it a i) where
  mem := by simp
  obj := fun i h st b hb => by
    obtain ⟨_, ⟨old, he⟩, ⟨o, ho, hc, hd⟩⟩ := st
    have e' : b = e ∨ b = it := by simpa using hb
    rcases e' with z | z
    · rw [z]; exact ⟨_, he, fun v q => nomatch q⟩
    · rw [z]; exact ⟨o, ho, fun v q => by rw [hd] at q; cases q⟩
  keep := fun i h h' st k => let ⟨hi', ⟨old, he⟩, hi⟩ := st; ⟨hi', ⟨old, k e (by simp) _ he⟩, hi.at fun o q => k it (by simp) o q⟩
  item := by
    intro X hP hw hK hc i pins s σ H E I hf st hg
    subst hP hw hK
    obtain ⟨_, ⟨old, he⟩, hit⟩ := st
    obtain ⟨hq, hg⟩ := hg
    obtain ⟨its', rv', p, hz⟩ := I.tuple hq
    have hel : e < s.heap.objs.size := Heap.lt_size he
    have hil : it < s.heap.objs.size := by obtain ⟨_, q, _⟩ := hit; exact Heap.lt_size q
    have hh : X.A.in1.handled = none := I.ok.hd hc
    have hl := rv'.length
    refine wpAny_pyNext_enum_itemD (Draws.tuple (A := X.A.in1) hh it a hai its'.toArray) he ⟨hit, p⟩ (by simp; omega) hei (by simp [hei, hea]) fun v h' tk hP ho hit' hT hsz hk => ?_
    have hx : xs[i]? = some xs[i] := List.getElem?_eq_getElem hg
    obtain ⟨u, hu, ru⟩ := rv'.get hx
    have hP : its'.toArray[i]? = some v := hP
    have e9 : u = v := by
      rw [List.getElem?_toArray, hu] at hP
      exact Option.some.inj hP
    subst e9
    refine ⟨_, rfl, wpAny_letOwnedTupleGo_enum (s := { s with heap := h', toks := tk + 1 }) ho fun h'' he' sb => ?_⟩
    have hT2 : h''.get? s.heap.objs.size = some { cls := .type "tuple", data := .seq #[.int i tk, u] } := (sb.2 _ (Nat.ne_of_gt hel)).trans hT
    have new : ObjOk X.prog X.w (upd H s.heap.objs.size (.tup [.int (i : Nat), xs[i]])) h'' s.heap.objs.size (.tup [.int (i : Nat), xs[i]]) :=
      ⟨by show 2 ≤ sizeLine; decide, [.int i tk, u], .cons ⟨_, rfl⟩ (.cons ru .nil), ⟨_, hT2, rfl, _, rfl⟩⟩
    have I1 : Inv X pins σ (upd H s.heap.objs.size (.tup [.int (i : Nat), xs[i]])) { s with heap := h'', toks := tk + 1 } :=
      I.turnedNew (ch := [e, it]) (fun b ob hb q => (sb.2 b (fun z => hb (by simp [z]))).trans (hk b ob (fun z => hb (by simp [z])) (fun z => hb (by simp [z])) q)) hf (Nat.le_refl _) new
    refine ⟨.ref s.heap.objs.size, _, I1, rfl, ⟨_, xs[i], rfl, I.hok.fresh (Nat.le_refl _), rfl, hx⟩, ⟨hg, ⟨u, ?_⟩, hit'.1.at fun o q => (sb.2 it (Ne.symm hei)).trans q⟩, fun b hb => ?_⟩
    · have e1 : ((i + 1 : Nat) : Int) = (i : Int) + 1 := by omega
      rw [e1]; exact he'
    · have hb' : b < s.heap.objs.size := by
        have e' : b = e ∨ b = it := by simpa using hb
        rcases e' with z | z
        · rw [z]; exact hel
        · rw [z]; exact hil
      rw [upd_ne (Nat.ne_of_lt hb')]
      exact (hf b hb).1
  done := by
    intro X hP hw hK hc i pins s σ H E I hf st hg
    subst hP hw hK
    obtain ⟨hi', ⟨old, he⟩, hit⟩ := st
    obtain ⟨hq, hg⟩ := hg
    obtain ⟨its', rv', p, hz⟩ := I.tuple hq
    have e2 : i = xs.length := Nat.le_antisymm hi' hg
    subst e2
    obtain ⟨f0, f1, f2, f3, f4, f5⟩ := hf it (by simp)
    have hh : X.A.in1.handled = none := I.ok.hd hc
    have hl := rv'.length
    exact wpAny_pyNext_enum_endD (Draws.tuple (A := X.A.in1) hh it a hai its'.toArray) he ⟨by rw [List.size_toArray, ← hl]; exact hit, p⟩ fun h' eb => ⟨rfl, I.turned (t' := s.toks) (fun b o hb q => eb b o hb q) f0 f1 f3 f4 f5⟩
  self := fun A i s Q E st h => let ⟨_, ⟨_, he⟩, _⟩ := st; wpAny_pyIter_enum he h
def iEnumS (ta : TA) : TI := fun σ H R => ta σ H fun vs H1 => ∃ x : Str, vs = [.str x] ∧ R (ItsE x) H1
def iEnumT (K : PySem.W.Frag) (ta : TA) : TI := fun σ H R => ta σ H fun vs H1 => ∃ a xs, vs = [.ref a] ∧ SqT K H1 a xs ∧ R (ItuE K a xs) H1
theorem pi_enumS {X : Cx} {e : Expr} {ta : TA} {p pos tpos : Pos} {elts : List Expr} {kk : Nat} (hg : Gl X "enumerate") (hm : X.mg "enumerate" = none) (ha : PA X [e] ta) (hs : starEach [e] X.env = [(false, eval e X.env)] := by rfl) :
    PI X (.Tuple elts kk tpos) (.Call (.Name "enumerate" p) [e] [] pos) (iEnumS ta) := by
  refine ⟨fun pins s σ H R I h => ?_⟩
  refine Call_ (ld_blt I hg hm boot_enumerate (PyProof.Rows.callWith_type1 (thn (ha.run pos pins s σ H _ I h) fun us s1 ⟨vs, H1, I1, r1, q1⟩ => ?_) hs rfl))
  obtain ⟨x, ex, q⟩ := q1
  subst ex
  cases r1 with
  | cons r rr =>
    cases rr
    obtain ⟨t, rfl⟩ := r
    refine call_enumerate_str fun h' he hit hsz hk => wpAny_pyIter_enum he ?_
    have I2 : Inv X pins σ H1 { s1 with heap := h' } := I1.kept (t' := s1.toks) hk
    refine ⟨s1.heap.objs.size + 1, [s1.heap.objs.size + 1, s1.heap.objs.size], _, _, H1, rfl, I2, turn_enumS (s1.heap.objs.size + 1) s1.heap.objs.size x t, ⟨Nat.zero_le _, ⟨.none, he⟩, hit, Nat.succ_ne_self _⟩, fun b hb => ?_, q⟩
    have e' : b = s1.heap.objs.size + 1 ∨ b = s1.heap.objs.size := by simpa using hb
    have hle : s1.heap.objs.size ≤ b := by
      rcases e' with z | z
      · rw [z]; exact Nat.le_add_right _ _
      · rw [z]; exact Nat.le_refl _
    exact I1.fpOk hle (I1.hok.fresh hle)
theorem pi_enumT {X : Cx} {e : Expr} {ta : TA} {p pos tpos : Pos} {elts : List Expr} {kk : Nat} (hg : Gl X "enumerate") (hm : X.mg "enumerate" = none) (ha : PA X [e] ta) (hs : starEach [e] X.env = [(false, eval e X.env)] := by rfl) :
    PI X (.Tuple elts kk tpos) (.Call (.Name "enumerate" p) [e] [] pos) (iEnumT X.K ta) := by
  refine ⟨fun pins s σ H R I h => ?_⟩
  refine Call_ (ld_blt I hg hm boot_enumerate (PyProof.Rows.callWith_type1 (thn (ha.run pos pins s σ H _ I h) fun us s1 ⟨vs, H1, I1, r1, q1⟩ => ?_) hs rfl))
  obtain ⟨a, xs, ex, hq, q⟩ := q1
  subst ex
  cases r1 with
  | cons r rr =>
    cases rr
    cases r
    obtain ⟨its, rv, p', hz⟩ := I1.tuple hq
    have hal : a < s1.heap.objs.size := by obtain ⟨_, q, _⟩ := p'; exact Heap.lt_size q
    refine FwE.enum_begins1 (begins_tuple a its.toArray) p' (by kernel_rfl) (by kernel_rfl) fun h' he hit hsz hk => wpAny_pyIter_enum he ?_
    have I2 : Inv X pins σ H1 { s1 with heap := h' } := I1.kept (t' := s1.toks) hk
    refine ⟨s1.heap.objs.size + 1, [s1.heap.objs.size + 1, s1.heap.objs.size], _, _, H1, rfl, I2, turn_enumT (s1.heap.objs.size + 1) s1.heap.objs.size a xs its.toArray (by simpa using rv) (Nat.succ_ne_self _) (Nat.ne_of_gt (Nat.lt_succ_of_lt hal)) (Nat.ne_of_lt hal), ⟨Nat.zero_le _, ⟨.none, he⟩, ⟨_, hit, rfl, rfl⟩⟩, fun b hb => ?_, q⟩
    have e' : b = s1.heap.objs.size + 1 ∨ b = s1.heap.objs.size := by simpa using hb
    have hle : s1.heap.objs.size ≤ b := by
      rcases e' with z | z
      · rw [z]; exact Nat.le_add_right _ _
      · rw [z]; exact Nat.le_refl _
    exact I1.fpOk hle (I1.hok.fresh hle)
end L2

/-! Fc: exceptions whose context is None; calls within an except suite -/
namespace Fw
open PySem L2
theorem takes0N {X : Cx} : L2N.Takes X (fun _ _ _ _ => False) := fun _ _ x => by
  obtain ⟨_, _, _, _, _, _, _, _, _, _, _, _, _, _, _, _, z⟩ := x
  exact z.elim
section
variable {P : Program} {w : World} {K : PySem.W.Frag} {mg : Str → Option Value} {base : Heap}
theorem okN {nm qual : Str} {st : Stmt} {f : Addr} {fd : FuncData} {N ps : List Str} {k : Nat} {sp : Sp} (F : Fun K nm qual st f fd) (S : FnScope N ps (defScope st)) (len : ∀ us H Q E, sp us H Q E → us.length = ps.length)
    (hb : ∀ (cdv : Value) (A : Around) (outer : List Env) (s : Shared) (H : Hp) (us : List V) (Q : VK) (E : XK), Room k (A.deeper (PyProof.Rows.envOfC qual (defScope st) s.heap.objs.size f cdv)) → sp us H Q E →
      ∃ t, PSs (cxOf (L2N.CX P w) P w K mg base N qual (defScope st) f cdv A outer s H E) (defBody st) t ∧ t { nx := fun _ H1 => Q .non H1, rt := Q } (start N us) H) : FnOk P w K mg base (L2N.CX P w) (k + 1) f fd ps sp := by
  obtain ⟨_, _, _, _, _, _, cdv, _, _, rfl, l1, c1⟩ := F.ex
  exact fn_of l1 c1 S len (hb cdv)
end
/-! ### C(..) of an exception class with its own __init__: its context is None -/
section
variable {X : Cx} {e : Expr} {es : List Expr} {ta : TA} {p pos : Pos}
theorem passN0 : Passes (L2N.CX X.prog X.w) X E0 := fun _ _ _ _ _ _ _ z => by
  obtain ⟨_, _, _, _, _, _, _, _, _, _, _, _, q⟩ := z
  exact q.elim
theorem pmkN_oex {x : Str} {C fI : Addr} {k : Nat} {fd : FuncData} {ps : List Str} {sp : Sp} (T : OexC X.K C) (iC : PySem.W.findIn X.K (.ref C) "__init__" = some (some (.ref fI))) (tI : PySem.W.typeIn X.K (.ref fI) = some (.type "function"))
    (F1 : FnOk X.prog X.w X.K X.mg X.base (L2N.CX X.prog X.w) k fI fd ps sp) (hr : Room (k + 1) X.A) (hb : Binds X.K fd ps []) (hg : Gl X x) (hm : X.mg x = some (.ref C)) (ha : PA X (e :: es) ta)
    (hdb : (x == ("__debug__" : Str)) = false := by decide) (he : starEach (e :: es) X.env = (false, eval e X.env) :: starEach es X.env := by rfl) (hpl : (backTo pos (starEach es X.env)).any (·.1) = false := by rfl) :
    L2N.PMk X (.Call (.Name x p) (e :: es) [] pos) (tMkO C sp [] ta) := by
  intro pins s σ H Q I0 h0
  obtain ⟨nm, q, N, bs, bm, sn, sub, ab, col, dd, c0, c1, c2, c3, c5, hC, hbm⟩ := T.cls
  refine wpAny_Call_Name_kw (ld_glob I0 hg hm ?_ hdb)
  refine PySem.W.callWith_K (h₀ := X.base) I0.ok.mod.kin T.kC (thn (ha.run pos pins s σ H _ I0 h0) fun us s1 ⟨vs, H1, J1, rv, hz, k1⟩ => ⟨J1.kIn, ?_⟩) he hpl
  show wpAny _ _ (call (.ref C) us) _ _ _
  obtain ⟨hp, gn, dr, tk, os⟩ := s1
  have hle : hp.objs.size ≤ hp.objs.size + 1 := Nat.le_succ _
  have hnone : H1 (hp.objs.size + 1) = none := J1.hok.fresh hle
  have hsp := k1 (hp.objs.size + 1) hnone
  rw [List.append_nil] at hsp
  have keep : ∀ b o, hp.get? b = some o → ((hp.push (PySem.W.kdv_tup us)).push (PySem.HandSPX.excO C hp.objs.size)).get? b = some o := fun b o z => Heap.get?_push_of_some _ (Heap.get?_push_of_some _ z)
  have hat : ((hp.push (PySem.W.kdv_tup us)).push (PySem.HandSPX.excO C hp.objs.size)).get? (hp.objs.size + 1) = some (PySem.HandSPX.excO C hp.objs.size) := by heap_get
  have J2 : Inv X pins σ (upd H1 (hp.objs.size + 1) (exo (hp.objs.size + 1) C none)) ⟨(hp.push (PySem.W.kdv_tup us)).push (PySem.HandSPX.excO C hp.objs.size), gn, dr, tk, os⟩ :=
    J1.laid (t' := tk) (a := hp.objs.size + 1) (o := exo (hp.objs.size + 1) C none) (h' := (hp.push (PySem.W.kdv_tup us)).push (PySem.HandSPX.excO C hp.objs.size)) keep hle (exo_ok hat)
  have rv2 : Vals (V.ref (hp.objs.size + 1) :: vs) (Value.ref (hp.objs.size + 1) :: us) := .cons rfl rv
  have hlen : (Value.ref (hp.objs.size + 1) :: us ++ []).length = ps.length := by
    have z := rv2.length
    rw [F1.len _ _ _ _ hsp] at z
    rw [List.append_nil]
    exact z.symm
  have hbd := hb _ (Value.ref (hp.objs.size + 1) :: us) J2.kIn hlen
  rw [List.append_nil] at hbd
  have hsm : us.length ≤ sizeLine := by
    have z := Paired.length rv
    rw [sizeLine_eq]
    omega
  refine wpAny_call (PySem.HandSPX.call_own F.excBase_ValueError (fun Y => PySem.HandSPX.refsVE_contains Y bm hbm) (J1.kIn _ _ hC) (PySem.W.looks_findIn J1.kIn iC) (fun self => PySem.W.bind_fn J1.kIn self tI) hsm
    (codeAny_mono (F1.run _ X.stack _ _ ⟨Value.ref (hp.objs.size + 1) :: us, []⟩ (Value.ref (hp.objs.size + 1) :: us) _ _ (fun _ _ _ => False) (hr.make C us []) (J2.env0.make C us []) hbd rv2 hsp) fun r s2 hq => ?_))
  cases r with
  | error er => exact passN0 pins σ _ _ er s2 J2 hq
  | ok fl =>
    cases fl with
    | next => exact hq.elim
    | brk => exact hq.elim
    | cont => exact hq.elim
    | ret u =>
      obtain ⟨v, H2, os2, bare2, un2, hok2, rv3, ev, d, fs, ea, ed, hd1, q2⟩ := hq
      subst ev
      obtain ⟨h2, g2, d2, t2, os3⟩ := s2
      obtain ⟨t0, G, J3, kG, ge, hoe, na⟩ := mk_end0 (d2 := d2) (t2 := t2) J1 hle keep un2 hok2 os2 bare2 ea ed hd1
      exact ⟨rv3, hp.objs.size + 1, _, _, ⟨G, g2, d2, t2, os3⟩, _, .ref C, some d, rfl, J3, kG, ge, hoe, ⟨rfl, rfl, fun vs1 z => by cases z; rfl⟩, rfl, rfl, na, rfl, bare2, raises_own T.exC T.tyC, q2⟩
end
/-! ### defs that are called within an except suite; what stands at the handled exception is known -/
open L2H in
structure FnE (P : Program) (w : World) (K : PySem.W.Frag) (mg : Str → Option Value) (base : Heap) (CX : CXT) (k : Nat) (f : Addr) (fd : FuncData) (ps : List Str) (sp : Addr → Value → Option Addr → Sp) : Prop where
  len : ∀ a c d us H Q E, sp a c d us H Q E → us.length = ps.length
  run : ∀ (A : Around) (outer : List Env) (s : Shared) (H : Hp) (args : Args) (ws : List Value) (us : List V) (Q : VK) (E : XK) (p : Addr × Obj) (c : Value) (d : Option Addr), RoomH k A → Hot1 A p → Zc c d p.2 → PinOk outer H s p → Env0 P w K mg base A outer s H →
    BindsTo s fd args (ps.zip ws) → Vals us ws → sp p.1 c d us H Q E → codeAny (model P w) A (.call (.ref f) args) (L2.CR CX outer P w H s Q E) s
open L2H in
theorem okE {P : Program} {w : World} {K : PySem.W.Frag} {mg : Str → Option Value} {base : Heap} {nm qual : Str} {st : Stmt} {f : Addr} {fd : FuncData} {N ps : List Str} {k : Nat} {sp : Addr → Value → Option Addr → Sp} (F : Fun K nm qual st f fd) (S : FnScope N ps (defScope st))
    (len : ∀ a c d us H Q E, sp a c d us H Q E → us.length = ps.length)
    (hb : ∀ (cdv : Value) (A : Around) (outer : List Env) (s : Shared) (H : Hp) (us : List V) (Q : VK) (E : XK) (p : Addr × Obj) (c : Value) (d : Option Addr), Hot1 A p → Zc c d p.2 → RoomH k (A.deeper (PyProof.Rows.envOfC qual (defScope st) s.heap.objs.size f cdv)) → sp p.1 c d us H Q E →
      ∃ t, PSs (cxH (L2N.CX P w) P w K mg base N qual (defScope st) f cdv A outer s H E p) (defBody st) t ∧ t { nx := fun _ H1 => Q .non H1, rt := Q } (start N us) H) : FnE P w K mg base (L2N.CX P w) (k + 1) f fd ps sp := by
  obtain ⟨_, _, _, _, _, _, cdv, _, _, rfl, l1, c1⟩ := F.ex
  refine ⟨len, fun A outer s H args ws us Q E p c d hr hot hz hpin e0 hbt rv hsp => ?_⟩
  have hlen := len _ _ _ _ _ _ _ hsp
  have inK : K.In s.heap := e0.mod.kin.keeps fun b o z => (e0.bs b o z).1
  have nolim : s.heap.NoLimit := e0.mod.nolimit.keeps fun b o z => (e0.bs b o z).1
  have hk : ∀ y ∈ ps.zip ws, (defScope st).names.lookup y.1 = some .local ∨ ((defScope st).names.lookup y.1 = some .cell ∧ ((cellsFrom (s.heap.objs.size + 1) (defScope st).names []).lookup y.1).isSome = true) := fun ⟨n, v⟩ hy => by
    rcases S.par n (List.of_mem_zip hy).1 with z | z
    · exact .inl z
    · exact .inr ⟨z, PySem.W.cellsFrom_some _ _ _ (.inl z)⟩
  refine codeAny_call_function hr.depth (inK _ _ l1) rfl S.co S.gen rfl (PySem.W.codeRec_of inK c1) (hbt _ _ _ _ ?_)
  refine wpAny_newFunctionEnv_cells S.kind hk fun env henv s1 x => ?_
  subst henv
  refine ⟨nolim.keeps x.toInCall.keep, codeAny_func ?_⟩
  obtain ⟨t, ht, hq⟩ := hb cdv A outer s H us Q E p c d hot hz (hr.deeper _) hsp
  have J : Inv (cxH (L2N.CX P w) P w K mg base N qual (defScope st) f cdv A outer s H E p) [] (start N us) H s1 := inv_startH S hpin e0 hlen rv x
  refine wpAny_mono (ht.run [] s1 (start N us) H _ J hq) (fun fl s2 hs => ?_) fun _ _ z => z
  have fin : ∀ {σ2 : L2.St} {H2 : Hp} {v : V} {u : Value}, Inv (cxH (L2N.CX P w) P w K mg base N qual (defScope st) f cdv A outer s H E p) [] σ2 H2 s2 → RelV v u → Q v H2 → CE outer P w H s Q u s2 := fun J2 r2 q2 => ⟨_, _, J2.os, J2.bare, J2.base, J2.hok, r2, q2⟩
  cases fl with
  | next =>
    obtain ⟨_, _, J2, q2⟩ := hs
    exact fin (v := V.non) (u := Value.none) J2 rfl q2
  | ret u =>
    obtain ⟨_, _, _, J2, r2, q2⟩ := hs
    exact fin J2 r2 q2
  | brk =>
    obtain ⟨_, _, _, z⟩ := hs
    exact z.elim
  | cont =>
    obtain ⟨_, _, _, z⟩ := hs
    exact z.elim
/-- such a def by its name -/
structure CalE (P : Program) (w : World) (K : PySem.W.Frag) (mg : Str → Option Value) (base : Heap) (k : Nat) (f : Addr) (x : Str) (ps : List Str) (sp : Addr → Value → Option Addr → Sp) : Prop where
  ex : ∃ fd, FnE P w K mg base (L2N.CX P w) k f fd ps sp ∧ Binds K fd ps []
  g : mg x = some (.ref f)
  kp : PySem.W.keepIn K (.ref f) = true
open L2H in
theorem pe_calE {X : Cx} {W : WX} {k : Nat} {f : Addr} {x : Str} {ps : List Str} {sp : Addr → Value → Option Addr → Sp} {e : Expr} {es : List Expr} {t : TA} {q pos : Pos} {a : Addr} {oe : Obj} {c : Value} {d : Option Addr} (h : CalE X.prog X.w X.K X.mg X.base k f x ps sp) (hr : RoomH k X.A) (hp : (a, oe) ∈ X.pn) (hot : Hot1 X.A (a, oe)) (hz : Zc c d oe)
    (tk : L2N.Takes X W) (ha : PA X (e :: es) t) (hg : Gl X x := by rfl)
    (hdb : (x == ("__debug__" : Str)) = false := by decide) (he : starEach (e :: es) X.env = (false, eval e X.env) :: starEach es X.env := by rfl) (hpl : (backTo pos (starEach es X.env)).any (·.1) = false := by rfl) :
    PE X (.Call (.Name x q) (e :: es) [] pos) (tCallS (sp a c d) (WE W) t) := by
  obtain ⟨fd, F, hb⟩ := h.ex
  refine ⟨fun pins s σ H Q I0 h0 => ?_⟩
  refine wpAny_Call_Name_kw (ld_glob I0 hg h.g ?_ hdb)
  refine PySem.W.callWith_K (h₀ := X.base) I0.ok.mod.kin h.kp (thn (ha.run pos pins s σ H _ I0 h0) fun ws s1 ⟨us, H1, J1, rv, hsp⟩ => ⟨J1.kIn, ?_⟩) he hpl
  have hlen : ws.length = ps.length := by rw [← rv.length]; exact F.len _ _ _ _ _ _ _ hsp
  have hbd := hb s1 ws J1.kIn (by rw [List.append_nil]; exact hlen)
  rw [List.append_nil] at hbd
  have p1 := J1.pin (a, oe) (List.mem_append_left _ hp)
  have hpin : PinOk X.stack H1 s1 (a, oe) := ⟨p1.1, p1.2.1, fun z => (List.mem_cons.mp (J1.stkSub a z)).elim p1.2.2.1 p1.2.2.2.1, p1.2.2.2.2⟩
  refine wpAny_call (codeAny_mono (F.run X.A X.stack s1 H1 ⟨ws, []⟩ ws us Q (WE W σ) (a, oe) c d hr hot hz hpin J1.env0 hbd rv hsp) fun r s2 hq => ?_)
  cases r with
  | error er => exact L2N.passAt tk σ pins H1 s1 er s2 J1 hq
  | ok fl =>
    cases fl with
    | ret u => exact J1.after hq
    | next => exact hq.elim
    | brk => exact hq.elim
    | cont => exact hq.elim
open L2H in
theorem hot_suite {X : Cx} {a : Addr} {oe : Obj} {cls : Value} {d : Option Addr} {pn : List (Addr × Obj)} (hz : L2N.Zn cls d oe) (hf : ∃ us, oe.data = .fields us) : Hot1 (X.suite a ((a, oe) :: pn)).A (a, oe) := by
  obtain ⟨us, h1⟩ := hf
  exact ⟨rfl, us, h1, hz.2.2 us h1⟩
open L2H in
theorem roomH_s {X : Cx} {k n : Nat} {a : Addr} {pn : List (Addr × Obj)} (r : Room n X.A) (h : k ≤ n) : RoomH k (X.suite a pn).A := (⟨r.dp, r.un⟩ : RoomH n (X.suite a pn).A).mono h
end Fw

namespace Fw
open PySem L2
abbrev dS : Str := ⟨#[]⟩

section
variable {B : Bs} {e : Ev1} {α β γ δ ρ : Type} [Enc α] [Enc β] [Enc γ] [Enc ρ] {te tl ta tb : TE} {t1 : TA} {tt tu : TT} {E : En ρ} {wi : TI} {g : TG} {r : R2}
theorem R2V.mono {x : α} {y : β} {P P' : γ → Prop} (h : R2V B e r x y P) (k : ∀ z, P z → P' z) : R2V B e r x y P' := fun σ G H ok v w rv rw Q q => h σ G H ok v w rv rw Q fun u z G' H' p => q u z G' H' (k z p)
theorem RCV.mono {r : List V → Hp → VK → Prop} {ss : List Slot} {P P' : γ → Prop} (h : RCV B e r ss P) (k : ∀ z, P z → P' z) : RCV B e r ss P' := fun σ G H ok vs rv Q q => h σ G H ok vs rv Q fun u z G' H' p => q u z G' H' (k z p)
theorem Call.imp {K : PySem.W.Frag} {args : List Slot} {cl : List (Addr × Cell)} {post post' : ρ → List (Addr × Cell) → Prop} {xp xp' : XD → List (Addr × Cell) → Prop} {us : List V} {H : Hp} {Q : VK} {E : XK} (h : Call K args cl post xp us H Q E)
    (h1 : ∀ r c, post' r c → post r c) (h2 : ∀ x c, xp' x c → xp x c) : Call K args cl post' xp' us H Q E := by
  obtain ⟨G, a, b, c, d, q, x⟩ := h
  exact ⟨G, a, b, c, d, fun v r cl' G' H' p => q v r cl' G' H' (h1 r cl' p), fun d x' cl' G' H' p => x d x' cl' G' H' (h2 x' cl' p)⟩
end

/-! ### a def that is called -/
structure Cal (P : Program) (w : World) (K : PySem.W.Frag) (mg : Str → Option Value) (base : Heap) (k : Nat) (f : Addr) (x : Str) (ps : List Str) (sp : Sp) : Prop where
  ex : ∃ fd, FnOk P w K mg base (L2N.CX P w) k f fd ps sp ∧ Binds K fd ps []
  g : mg x = some (.ref f)
  kp : PySem.W.keepIn K (.ref f) = true
theorem pe_cal {X : Cx} {W : WX} {k : Nat} {f : Addr} {x : Str} {ps : List Str} {sp : Sp} {e : Expr} {es : List Expr} {t : TA} {p pos : Pos} (h : Cal X.prog X.w X.K X.mg X.base k f x ps sp) (hr : Room k X.A) (tk : L2N.Takes X W) (ha : PA X (e :: es) t) (hg : Gl X x := by rfl)
    (hdb : (x == ("__debug__" : Str)) = false := by decide) (he : starEach (e :: es) X.env = (false, eval e X.env) :: starEach es X.env := by rfl) (hpl : (backTo pos (starEach es X.env)).any (·.1) = false := by rfl) :
    PE X (.Call (.Name x p) (e :: es) [] pos) (tCallS sp (WE W) t) := by
  obtain ⟨fd, F, hb⟩ := h.ex
  exact pe_callS F hr hg h.g h.kp hb (fun σ => L2N.passAt tk σ) ha hdb he hpl

/-! ### raise X('m') -/
structure XcO (K : PySem.W.Frag) (mg : Str → Option Value) (x : Str) (C : Addr) : Prop where
  q : PySem.W.excIn K C [.type "ValueError", .type "Exception", .type "BaseException", .type "object"] "ValueError.__new__" = true
  g : mg x = some (.ref C)
  kp : PySem.W.keepIn K (.ref C) = true
  sb : PySem.W.subIn K (.ref C) (.type "BaseException") = some true
  ty : PySem.W.typeIn K (.ref C) = some (.type "type")
theorem ps_raiseO {X : Cx} {W : WX} {x m : Str} {C : Addr} {j : Nat} {p p2 pos pos' : Pos} (h : XcO X.K X.mg x C) (tk : L2N.Takes X W) (hc : X.calm = true := by rfl) (hg : Gl X x := by rfl) (hdb : (x == ("__debug__" : Str)) = false := by decide) :
    PS X (.Raise (some (.Call (.Name x p) [.Constant (.str m) j p2] [] pos)) none pos') (fun _ σ H => W (.ref C) none σ H) :=
  L2N.ps_raise hc tk (L2N.pmk_own F.excBase_ValueError h.q h.g h.kp (raises_own h.sb h.ty) hg hdb)
def xdP (C : Addr) : XD := ⟨.ref C, fun _ _ d => d = none⟩
/-- .. with fields -/
def xdF (C : Addr) (fs : List (Str × Slot)) : XD := ⟨.ref C, fun K H d => ∃ dd vs, d = some dd ∧ H dd = some (.xd vs) ∧ ∀ f s, fs.lookup f = some s → ∃ v, vs.lookup f = some v ∧ s.rp K H v⟩
section
variable {B : Bs} {e : Ev1} {α β γ δ ρ : Type} [Enc α] [Enc β] [Enc γ] [Enc ρ] {te tl ta tb : TE} {t1 : TA} {tt tu : TT} {E : En ρ} {wi : TI} {g : TG} {r : R2}
theorem do_raiseO {C : Addr} (h : B.xr (xdP C) e) : Do B (fun _ σ H => B.W (.ref C) none σ H) e E := fun σ G H ok X D m => X none σ G H e (xdP C) h ok (Same.refl G) rfl

/-! ### what is walked -/
theorem same_tup {K : PySem.W.Frag} {G H : Hp} {a : Addr} {xs : List V} (e : Same G H) (h : SqT K G a xs) : SqT K H a xs := same_t e h
theorem paired_ix {K : PySem.W.Frag} {G : Hp} {v : V} {y : α} : ∀ {us : List V} {ys : List α} {i : Nat}, Paired (Enc.rep K G) us ys → us[i]? = some v → ys[i]? = some y → Enc.rep K G v y
  | _, _, _, .nil, h1, _ => by simp at h1
  | _, _, 0, .cons a b, h1, h2 => by
    simp at h1 h2
    subst h1
    subst h2
    exact a
  | _, _, i + 1, .cons a b, h1, h2 => paired_ix (i := i) b (by simpa using h1) (by simpa using h2)
theorem ei_tup {xs : Tup α} (h : EvD B tl e xs) : EvI B (iTup B.K tl) e xs.l := fun σ G H ok X R q =>
  h σ G H ok X _ fun v y G1 H1 p ok1 s1 r1 => by
    subst p
    obtain ⟨a, us, rfl, h1, h2⟩ := r1
    refine ⟨a, rfl, ⟨us, same_t ok1.gh h1⟩, q _ G1 H1 ok1 s1 fun H2 s2 i => ?_⟩
    have hs : SqT B.K H2 a us := same_t s2 h1
    have hl := h2.length
    refine ⟨fun hi => ⟨us, us[i]'(by omega), hs, List.getElem?_eq_getElem (by omega)⟩, fun hi => ⟨us, hs, by omega⟩, fun y v H' hy hv => ?_⟩
    obtain ⟨rfl, hv⟩ := hv
    exact .inl ⟨rfl, paired_ix h2 (hv us hs) hy⟩
def enumI (xs : List α) : List (Int × α) := xs.zipIdx.map fun p => ((p.2 : Nat), p.1)
theorem enumI_len {xs : List α} : (enumI xs).length = xs.length := by simp [enumI]
theorem enumI_get {xs : List α} {i : Nat} {y : Int × α} (h : (enumI xs)[i]? = some y) : y.1 = (i : Int) ∧ xs[i]? = some y.2 := by
  unfold enumI at h
  rw [List.getElem?_map, List.getElem?_zipIdx] at h
  cases hx : xs[i]? with
  | none => rw [hx] at h; simp at h
  | some z =>
    rw [hx] at h
    have h : ((((0 + i : Nat) : Int), z) : Int × α) = y := by simpa using h
    subst h
    exact ⟨by simp, rfl⟩
theorem rep_pairI {K : PySem.W.Frag} {G1 : Hp} {T : Addr} {i : Nat} {u : V} {y : Int × α} (gT : G1 T = none) (h1 : y.1 = (i : Int)) (h2 : Enc.rep K G1 u y.2) : Enc.rep K (upd G1 T (.tup [.int (i : Nat), u])) (V.ref T) y :=
  ⟨T, .int (i : Nat), u, rfl, .inl (.inl upd_same), by show V.int _ = V.int _; rw [h1], Enc.mono (same_upd gT) h2⟩
theorem ei_enumS {x : Str} {ta : TA} (h : EvA B ta e (· = [vs x])) : EvI B (iEnumS ta) e (enumI (signs x)) := fun σ G H ok X R q =>
  h σ G H ok X _ fun us ss G1 H1 p ok1 s1 r1 => by
    subst p
    cases r1 with
    | cons a b =>
      cases b
      obtain rfl := (show _ = V.str x from a)
      refine ⟨x, rfl, q _ G1 H1 ok1 s1 fun H2 s2 i => ?_⟩
      have hl : (enumI (signs x)).length = x.cps.size := by
        rw [enumI_len]
        unfold signs
        rw [List.length_map, Array.length_toList]
      refine ⟨fun hi => by show i < x.cps.size; omega, fun hi => by show x.cps.size ≤ i; omega, fun y v H' hy hv => ?_⟩
      obtain ⟨T, c, rfl, hT, rfl, hc⟩ := hv
      obtain ⟨k1, k2⟩ := enumI_get hy
      refine .inr ⟨T, _, hT, rfl, rep_pairI (s2.free hT) k1 ?_⟩
      unfold signs at k2
      rw [List.getElem?_map, Array.getElem?_toList, hc] at k2
      have e2 : (⟨#[c]⟩ : Str) = y.2 := Option.some.inj k2
      show V.str _ = V.str _
      rw [e2]
theorem ei_enumL {xs : List α} {ta : TA} (h : EvA B ta e (· = [vs xs])) : EvI B (iEnum B.K ta) e (enumI xs) := fun σ G H ok X R q =>
  h σ G H ok X _ fun us ss G1 H1 p ok1 s1 r1 => by
    subst p
    cases r1 with
    | cons a b =>
      cases b
      obtain ⟨a', ws, rfl, h1, h2⟩ := (show Enc.rep B.K G1 _ xs from a)
      refine ⟨a', ws, rfl, .inl (.inl (ok1.gh _ _ h1)), q _ G1 H1 ok1 s1 fun H2 s2 i => ?_⟩
      have hs : SqL B.K H2 a' ws := .inl (.inl (s2 _ _ h1))
      have hl : (enumI xs).length = xs.length := enumI_len
      have hw := h2.length
      refine ⟨fun hi => ⟨ws, ws[i]'(by omega), hs, List.getElem?_eq_getElem (by omega)⟩, fun hi => ⟨ws, hs, by omega⟩, fun y v H' hy hv => ?_⟩
      obtain ⟨T, x, rfl, hT, rfl, hx⟩ := hv
      obtain ⟨k1, k2⟩ := enumI_get hy
      exact .inr ⟨T, _, hT, rfl, rep_pairI (s2.free hT) k1 (paired_ix h2 (hx ws hs) k2)⟩
theorem ei_enumT {xs : Tup α} {ta : TA} (h : EvA B ta e (· = [vs xs])) : EvI B (iEnumT B.K ta) e (enumI xs.l) := fun σ G H ok X R q =>
  h σ G H ok X _ fun us ss G1 H1 p ok1 s1 r1 => by
    subst p
    cases r1 with
    | cons a b =>
      cases b
      obtain ⟨a', ws, rfl, h1, h2⟩ := (show Enc.rep B.K G1 _ xs from a)
      refine ⟨a', ws, rfl, same_t ok1.gh h1, q _ G1 H1 ok1 s1 fun H2 s2 i => ?_⟩
      have hs : SqT B.K H2 a' ws := same_t s2 h1
      have hl : (enumI xs.l).length = xs.l.length := enumI_len
      have hw := h2.length
      refine ⟨fun hi => ⟨hs, by omega⟩, fun hi => ⟨hs, by omega⟩, fun y v H' hy hv => ?_⟩
      obtain ⟨T, x, rfl, hT, rfl, hx⟩ := hv
      obtain ⟨k1, k2⟩ := enumI_get hy
      exact .inr ⟨T, _, hT, rfl, rep_pairI (s2.free hT) k1 (paired_ix h2 hx k2)⟩

/-! ### places -/
theorem getD_some {l : List α} {k : Nat} {d : α} (h : k < l.length) : l[k]? = some (l.getD k d) := by
  rw [List.getElem?_eq_getElem h, List.getD_eq_getElem?_getD, List.getElem?_eq_getElem h]
  rfl
theorem r2_ixSp {z : Str} {i : Int} (hz : z.length ≤ 10000000) (h : 0 ≤ i ∧ i < z.length) : R2V B e rIxS z i (· = sgnAt z i.toNat) := r2_ixS hz (ixN_nn h.1 h.2)
theorem r2_ixSn {z : Str} {i : Int} (hz : z.length ≤ 10000000) (h : i < 0 ∧ -(z.length : Int) ≤ i) : R2V B e rIxS z i (· = sgnAt z (i + z.length).toNat) := r2_ixS hz (ixN_ng h.1 h.2)
theorem r2_ixLp {ys : List α} {i : Int} {d : α} (h : 0 ≤ i ∧ i < ys.length) : R2V B e (rIxL B.K) ys i (· = ys.getD i.toNat d) := r2_ixL (ixN_nn h.1 h.2) (getD_some (by omega))
theorem r2_ixLn {ys : List α} {i : Int} {d : α} (h : i < 0 ∧ -(ys.length : Int) ≤ i) : R2V B e (rIxL B.K) ys i (· = ys.getD (i + ys.length).toNat d) := r2_ixL (ixN_ng h.1 h.2) (getD_some (by omega))
theorem r2_ixUp {ys : Tup α} {i : Int} {d : α} (h : 0 ≤ i ∧ i < ys.l.length) : R2V B e (rIxT B.K) ys i (· = ys.l.getD i.toNat d) := r2_ixU (ixN_nn h.1 h.2) (getD_some (by omega))
theorem r2_ixUn {ys : Tup α} {i : Int} {d : α} (h : i < 0 ∧ -(ys.l.length : Int) ≤ i) : R2V B e (rIxT B.K) ys i (· = ys.l.getD (i + ys.l.length).toNat d) := r2_ixU (ixN_ng h.1 h.2) (getD_some (by omega))
theorem r2_ixOp {j : Nat} {a : Addr} {ys : List α} {i : Int} {d : α} (hc : e.cl[j]? = some (a, ownL ys)) (h : 0 ≤ i ∧ i < ys.length) : R2V B e (rIxL B.K) (Adr.mk a) i (· = ys.getD i.toNat d) := r2_ixO hc (ixN_nn h.1 h.2) (getD_some (by omega))
theorem r2_ixOn {j : Nat} {a : Addr} {ys : List α} {i : Int} {d : α} (hc : e.cl[j]? = some (a, ownL ys)) (h : i < 0 ∧ -(ys.length : Int) ≤ i) : R2V B e (rIxL B.K) (Adr.mk a) i (· = ys.getD (i + ys.length).toNat d) := r2_ixO hc (ixN_ng h.1 h.2) (getD_some (by omega))
theorem do_setLp {ti : TE} {k : Nat} {a : Addr} {ys : List α} {P : α → Prop} {i : Int} (hc : e.cl[k]? = some (a, ownL ys)) (h : Ev B te e P) (ho : EvD B ta e (Adr.mk a)) (hi : EvD B ti e i) (hj : 0 ≤ i ∧ i < ys.length) (q : ∀ y, P y → E.nx ⟨e.sl, e.cl.set k (a, ownL (ys.set i.toNat y))⟩) :
    Do B (tAsg te (gSub ta ti rSetL)) e E := do_setL hc h ho hi (ixN_nn hj.1 hj.2) q
/-- a list of things of different kinds -/
def ownS (lc : Bool) (ss : List Slot) : Cell := ⟨lc, fun K H o => ∃ us, o = .lst us ∧ Reps K H us ss, fun e ⟨us, h1, h2⟩ => ⟨us, h1, reps_mono e h2⟩⟩
theorem r2_ixOS {lc : Bool} {j k : Nat} {a : Addr} {ss : List Slot} {y : α} {i : Int} (hc : e.cl[j]? = some (a, ownS lc ss)) (hy : ss[k]? = some (vs y)) (hi : i = (k : Int)) : R2V B e (rIxL B.K) (Adr.mk a) i (· = y) := fun σ G H ok v w rv rw Q q => by
  obtain rfl := (show v = V.ref a from rv)
  obtain rfl := (show w = V.int i from rw)
  obtain ⟨_, _, o, h1, ws, rfl, h2⟩ := ok.cell hc
  obtain ⟨u, h3, h4⟩ := reps_get h2 hy
  have hk : k < ws.length := (List.getElem?_eq_some_iff.mp h3).1
  refine ⟨a, ws, i, u, rfl, rfl, .inl (.inl h1), ?_, q u y G H rfl ok (Same.refl G) h4⟩
  unfold atI
  rw [ixN_nn (by omega) (by omega)]
  have e1 : i.toNat = k := by omega
  rw [e1]
  exact h3
theorem reps_set {K : PySem.W.Frag} {G : Hp} {w : V} {y : Slot} (r : y.rp K G w) : ∀ {us : List V} {ys : List Slot} (j : Nat), Reps K G us ys → Reps K G (us.set j w) (ys.set j y)
  | _, _, _, .nil => .nil
  | _, _, 0, .cons _ t => .cons r t
  | _, _, j + 1, .cons a t => .cons a (reps_set r j t)
theorem do_setOS {lc : Bool} {ti : TE} {k j : Nat} {a : Addr} {ss : List Slot} {P : α → Prop} {i : Int} (hc : e.cl[k]? = some (a, ownS lc ss)) (h : Ev B te e P) (ho : EvD B ta e (Adr.mk a)) (hi : EvD B ti e i) (hj : i = (j : Int)) (hl : j < ss.length) (q : ∀ y, P y → E.nx ⟨e.sl, e.cl.set k (a, ownS lc (ss.set j (vs y)))⟩) :
    Do B (tAsg te (gSub ta ti rSetL)) e E := fun σ G H ok X D m =>
  h σ G H ok X _ fun w y G1 H1 py ok1 s1 r1 => ho σ G1 H1 ok1 (X.mono s1) _ fun v x G2 H2 p ok2 s2 r2 => hi σ G2 H2 ok2 (X.mono (s1.trans s2)) _ fun v3 x3 G3 H3 p3 ok3 s3 r3 => by
    subst p
    subst p3
    obtain rfl := (show v = V.ref a from r2)
    obtain rfl := (show v3 = V.int x3 from r3)
    obtain ⟨_, _, o, h1, us, rfl, hu⟩ := ok3.cell hc
    refine ⟨a, us, x3, j, rfl, rfl, h1, ?_, ?_⟩
    · rw [ixN_nn (by omega) (by rw [hu.length]; omega)]
      congr 1
      omega
    · exact m.nx σ G3 _ _ (q y py) (ok3.write (c' := ownS lc (ss.set j (vs y))) hc rfl ⟨us.set j w, rfl, reps_set (y := vs y) (Enc.mono (s2.trans s3) r1) j hu⟩) ((s1.trans s2).trans s3)
/-- another word about the cells -/
theorem Ok.cells {G H : Hp} {σ : St} (ok : Ok B G H σ e) {cl : List (Addr × Cell)} (hn : (cl.map (·.1)).Nodup) (h : ∀ p ∈ cl, ∃ c, (p.1, c) ∈ e.cl ∧ c.lc = p.2.lc ∧ ∀ K G o, c.hp K G o → p.2.hp K G o) : Ok B G H σ ⟨e.sl, cl⟩ :=
  ⟨ok.g0, ok.gh, ok.fr, ok.al, ok.nw, ok.sr, hn, fun p hp => by
    obtain ⟨c, hc, hl, k⟩ := h p hp
    obtain ⟨h1, h2, o, h3, h4⟩ := ok.cr.at_ _ hc
    exact ⟨h1, by rw [← hl]; exact h2, o, h3, k _ _ _ h4⟩⟩
theorem do_cells {t : TS} {sl : List (Option Slot)} {cl cl' : List (Addr × Cell)} (hn : (cl'.map (·.1)) = cl.map (·.1)) (h : ∀ p ∈ cl', ∃ c, (p.1, c) ∈ cl ∧ c.lc = p.2.lc ∧ ∀ K G o, c.hp K G o → p.2.hp K G o) (d : Do B t ⟨sl, cl'⟩ E) : Do B t ⟨sl, cl⟩ E :=
  fun σ G H ok X D m => d σ G H (ok.cells (cl := cl') (by rw [hn]; exact ok.cr.nd) h) X D m
/-- what a cell's word tells is opened -/
theorem do_open {t : TS} {sl : List (Option Slot)} {cl : List (Addr × Cell)} {a : Addr} {c : Cell} {ι : Type} {R : ι → Prop} {c' : ι → Cell} (h : ∀ K G o, c.hp K G o → ∃ i, R i ∧ (c' i).hp K G o) (hl : ∀ i, (c' i).lc = c.lc) (d : ∀ i, R i → Do B t ⟨sl, (a, c' i) :: cl⟩ E) : Do B t ⟨sl, (a, c) :: cl⟩ E :=
  fun σ G H ok X D m => by
    obtain ⟨h1, h2, o, h3, h4⟩ := ok.cr.at_ (a, c) List.mem_cons_self
    obtain ⟨i, ri, h5⟩ := h _ _ _ h4
    refine d i ri σ G H ⟨ok.g0, ok.gh, ok.fr, ok.al, ok.nw, ok.sr, ok.cr.nd, fun p hp => ?_⟩ X D m
    rcases List.mem_cons.mp hp with q | q
    · subst q
      exact ⟨h1, by rw [hl]; exact h2, o, h3, h5⟩
    · exact ok.cr.at_ p (List.mem_cons_of_mem _ q)

/-! ### targets -/
theorem do_asgG {js : List Nat} {f : α → List (Option Slot) → List (Option Slot)} {P : α → Prop} (h : Ev B te e P) (hg : EvG B g js f) (k : ∀ x, P x → E.nx ⟨f x e.sl, e.cl⟩) : Do B (tAsg te g) e E := fun σ G H ok X D m =>
  h σ G H ok X _ fun v x G' H' p ok' s r => hg σ G' H' e ok' v x r _ fun σ' ok2 _ => m.nx σ' G' H' _ (k x p) ok2 s
def rDivmod : List V → Hp → VK → Prop := fun xs H Q => ∃ i j, xs = [.int i, .int j] ∧ CDiv i j ∧ ∀ p, H p = none → Q (.ref p) (upd H p (.tup [.int (i / j), .int (i % j)]))
theorem cr_divmod {X : Cx} : CallR X (.builtin "divmod") rDivmod := call_divmod
theorem rc_divmod {i j : Int} (h : 0 < j ∧ j < 1073741824) : RCV B e rDivmod [vs i, vs j] (· = ((i / j, i % j) : Int × Int)) := fun σ G H ok us ru Q q => by
  cases ru with
  | cons a b =>
    cases b with
    | cons a2 b2 =>
      cases b2
      obtain rfl := (show _ = V.int i from a)
      obtain rfl := (show _ = V.int j from a2)
      refine ⟨i, j, rfl, h, fun p hp => ?_⟩
      have gp := ok.gh.free hp
      exact q (.ref p) _ (upd G p (.tup [.int (i / j), .int (i % j)])) _ rfl (ok.new hp) (same_upd gp) ⟨p, .int (i / j), .int (i % j), rfl, .inl (.inl upd_same), rfl, rfl⟩

/-! ### while -/
theorem do_whileD {c : TT} {tb : TS} {ι : Type} (st : ι → Ev1) (word : ι → Prop) (meas : ι → Nat) (i0 : ι) (h0 : word i0) (he : e = st i0)
    (hs : ∀ i, word i → ∃ b, EvTD B c (st i) b ∧ (b = true → Do B tb (st i) { nx := fun e' => ∃ i', word i' ∧ meas i' < meas i ∧ e' = st i', rt := E.rt, bk := E.nx, ct := fun e' => ∃ i', word i' ∧ meas i' < meas i ∧ e' = st i' }) ∧ (b = false → E.nx (st i))) :
    Do B (tWhile c tb) e E := fun σ G H ok X D m => by
  subst he
  refine ⟨fun n σ H => ∃ G' i, n = meas i ∧ word i ∧ Ok B G' H σ (st i) ∧ Same G G', ⟨meas i0, G, i0, rfl, h0, ok, Same.refl _⟩, ?_⟩
  rintro n σ2 H2 ⟨G2, i, rfl, hw, ok2, s2⟩
  obtain ⟨b, ev, h1, h2⟩ := hs i hw
  refine ev σ2 G2 H2 ok2 (X.mono s2) _ fun b' G3 H3 pb ok3 s3 => ?_
  subst pb
  cases b' with
  | false => exact iteF (m.nx σ2 G3 H3 _ (h2 rfl) ok3 (s2.trans s3))
  | true =>
    refine iteT ⟨fun σ H => ∃ G' i', word i' ∧ meas i' < meas i ∧ Ok B G' H σ (st i') ∧ Same G G', fun σ' H' ⟨G', i', a1, a2, a3, a4⟩ => ⟨meas i', a2, G', i', rfl, a1, a3, a4⟩, ?_⟩
    exact h1 rfl σ2 G3 H3 ok3 (X.mono (s2.trans s3)) _ ⟨fun σ5 G5 H5 e5 ⟨i', k1, k2, k3⟩ ok5 s5 => ⟨G5, i', k1, k2, k3 ▸ ok5, (s2.trans s3).trans s5⟩, fun v5 r5 σ5 G5 H5 e5 h5 ok5 s5 => m.rt v5 r5 σ5 G5 H5 e5 h5 ok5 ((s2.trans s3).trans s5),
      fun σ5 G5 H5 e5 h5 ok5 s5 => m.nx σ5 G5 H5 e5 h5 ok5 ((s2.trans s3).trans s5), fun σ5 G5 H5 e5 ⟨i', k1, k2, k3⟩ ok5 s5 => ⟨G5, i', k1, k2, k3 ▸ ok5, (s2.trans s3).trans s5⟩⟩

/-! ### in, ==, is, isinstance -/
theorem flat_strs (xs : List Str) : (xs.map V.str).all flatV = true := by simp [flatV]
theorem flat_ints (xs : List Int) : (xs.map V.int).all flatV = true := by simp [flatV]
theorem inV_strs (x : Str) (xs : List Str) : inV (.str x) (xs.map V.str) = decide (x ∈ xs) := by
  unfold inV
  induction xs with
  | nil => rfl
  | cons y r ih =>
    rw [List.map_cons, List.any_cons, ih]
    show ((y == x) || _) = _
    rw [Bool.eq_iff_iff]
    simp only [Bool.or_eq_true, beq_iff_eq, decide_eq_true_eq, List.mem_cons]
    exact ⟨fun h => h.imp Eq.symm id, fun h => h.imp Eq.symm id⟩
theorem inV_ints (x : Int) (xs : List Int) : inV (.int x) (xs.map V.int) = decide (x ∈ xs) := by
  unfold inV
  induction xs with
  | nil => rfl
  | cons y r ih =>
    rw [List.map_cons, List.any_cons, ih]
    show ((y == x) || _) = _
    rw [Bool.eq_iff_iff]
    simp only [Bool.or_eq_true, beq_iff_eq, decide_eq_true_eq, List.mem_cons]
    exact ⟨fun h => h.imp Eq.symm id, fun h => h.imp Eq.symm id⟩
theorem r2_inLS {x : Str} {xs : List Str} : R2V B e (rIn B.K false) x xs (· = decide (x ∈ xs)) := fun σ G H ok v w rv rw' Q q => by
  obtain ⟨p, ws, rfl, h1, h2⟩ := rw'
  obtain rfl := (show v = V.str x from rv)
  have e1 := paired_strs h2
  subst e1
  exact ⟨p, _, rfl, .inl (.inl (.inl (ok.gh _ _ h1))), rfl, flat_strs xs, q _ _ G H rfl ok (Same.refl G) (by show V.bl _ = V.bl _; rw [inV_strs]; rfl)⟩
theorem r2_niLS {x : Str} {xs : List Str} : R2V B e (rIn B.K true) x xs (· = !decide (x ∈ xs)) := fun σ G H ok v w rv rw' Q q => by
  obtain ⟨p, ws, rfl, h1, h2⟩ := rw'
  obtain rfl := (show v = V.str x from rv)
  have e1 := paired_strs h2
  subst e1
  exact ⟨p, _, rfl, .inl (.inl (.inl (ok.gh _ _ h1))), rfl, flat_strs xs, q _ _ G H rfl ok (Same.refl G) (by show V.bl _ = V.bl _; rw [inV_strs]; rfl)⟩
theorem r2_inLI {x : Int} {xs : List Int} : R2V B e (rIn B.K false) x xs (· = decide (x ∈ xs)) := fun σ G H ok v w rv rw' Q q => by
  obtain ⟨p, ws, rfl, h1, h2⟩ := rw'
  obtain rfl := (show v = V.int x from rv)
  have e1 := paired_ints h2
  subst e1
  exact ⟨p, _, rfl, .inl (.inl (.inl (ok.gh _ _ h1))), rfl, flat_ints xs, q _ _ G H rfl ok (Same.refl G) (by show V.bl _ = V.bl _; rw [inV_ints]; rfl)⟩
theorem r2_niLI {x : Int} {xs : List Int} : R2V B e (rIn B.K true) x xs (· = !decide (x ∈ xs)) := fun σ G H ok v w rv rw' Q q => by
  obtain ⟨p, ws, rfl, h1, h2⟩ := rw'
  obtain rfl := (show v = V.int x from rv)
  have e1 := paired_ints h2
  subst e1
  exact ⟨p, _, rfl, .inl (.inl (.inl (ok.gh _ _ h1))), rfl, flat_ints xs, q _ _ G H rfl ok (Same.refl G) (by show V.bl _ = V.bl _; rw [inV_ints]; rfl)⟩
/-- in an own list -/
theorem r2_niOS {k : Nat} {a : Addr} {x : Str} {xs : List Str} (hc : e.cl[k]? = some (a, ownL xs)) : R2V B e (rIn B.K true) x (Adr.mk a) (· = !decide (x ∈ xs)) := fun σ G H ok v w rv rw' Q q => by
  obtain rfl := (show w = V.ref a from rw')
  obtain rfl := (show v = V.str x from rv)
  obtain ⟨_, _, o, h1, ws, rfl, h2⟩ := ok.cell hc
  have e1 := paired_strs h2
  subst e1
  exact ⟨a, _, rfl, .inl (.inl (.inl h1)), rfl, flat_strs xs, q _ _ G H rfl ok (Same.refl G) (by show V.bl _ = V.bl _; rw [inV_strs]; rfl)⟩
theorem r2_inOS {k : Nat} {a : Addr} {x : Str} {xs : List Str} (hc : e.cl[k]? = some (a, ownL xs)) : R2V B e (rIn B.K false) x (Adr.mk a) (· = decide (x ∈ xs)) := fun σ G H ok v w rv rw' Q q => by
  obtain rfl := (show w = V.ref a from rw')
  obtain rfl := (show v = V.str x from rv)
  obtain ⟨_, _, o, h1, ws, rfl, h2⟩ := ok.cell hc
  have e1 := paired_strs h2
  subst e1
  exact ⟨a, _, rfl, .inl (.inl (.inl h1)), rfl, flat_strs xs, q _ _ G H rfl ok (Same.refl G) (by show V.bl _ = V.bl _; rw [inV_strs]; rfl)⟩
end
/-! ### data, for == -/
class PD (α : Type) [Enc α] where
  toD : α → PyData
  ok : α → Bool
  dep : Nat
  dp : ∀ {K : PySem.W.Frag} {H : Hp} {v : V} {x : α}, Enc.rep K H v x → Dp K H v (toD x)
  lay : ∀ x, ok x = true → (toD x).canLay0 = true
  dle : ∀ x, (toD x).depth ≤ dep
  eqv : ∀ x y, PyData.eqv (toD x) (toD y) = true ↔ x = y
instance : PD Int := { toD := .int, ok := fun _ => true, dep := 0, dp := fun {K H v x} h => by { obtain rfl := (show v = V.int x from h); exact .int x }, lay := fun _ _ => by simp [PyData.canLay0], dle := fun _ => by simp [PyData.depth], eqv := fun x y => by simp [PyData.eqv] }
instance : PD Bool := { toD := .bool, ok := fun _ => true, dep := 0, dp := fun {K H v x} h => by { obtain rfl := (show v = V.bl x from h); exact .bl x }, lay := fun _ _ => by simp [PyData.canLay0], dle := fun _ => by simp [PyData.depth], eqv := fun x y => by simp [PyData.eqv] }
instance : PD Str := { toD := .str, ok := fun x => x.cps.all (· < 0x110000), dep := 0, dp := fun {K H v x} h => by { obtain rfl := (show v = V.str x from h); exact .str x }, lay := fun _ h => by { show PyData.canLay0 (.str _) = true; rw [PyData.canLay0]; exact h }, dle := fun _ => by simp [PyData.depth], eqv := fun x y => by simp [PyData.eqv] }
section
variable {α β : Type} [Enc α] [Enc β] [PD α] [PD β]
theorem dp_all {K : PySem.W.Frag} {H : Hp} : ∀ {us : List V} {xs : List α}, Paired (Enc.rep K H) us xs → DpAll K H us (xs.map PD.toD)
  | _, _, .nil => .nil
  | _, _, .cons a b => .cons (PD.dp a) (dp_all b)
theorem lay_all : ∀ xs : List α, xs.all PD.ok = true → PyData.canLayAll0 (xs.map PD.toD) = true
  | [], _ => by simp [PyData.canLayAll0]
  | x :: xs, h => by
    rw [List.all_cons, Bool.and_eq_true] at h
    show PyData.canLayAll0 (PD.toD x :: xs.map PD.toD) = true
    rw [PyData.canLayAll0, lay_all xs h.2, PD.lay x h.1]
    rfl
theorem dep_all : ∀ xs : List α, PyData.depthAll (xs.map PD.toD) ≤ PD.dep α
  | [] => by simp [PyData.depthAll]
  | x :: xs => by
    have h1 := PD.dle x
    have h2 := dep_all xs
    show PyData.depthAll (PD.toD x :: xs.map PD.toD) ≤ _
    rw [PyData.depthAll]
    omega
theorem eqv_all : ∀ xs ys : List α, PyData.eqvAll (xs.map PD.toD) (ys.map PD.toD) = true ↔ xs = ys
  | [], [] => by simp [PyData.eqvAll]
  | [], y :: ys => by simp [PyData.eqvAll]
  | x :: xs, [] => by simp [PyData.eqvAll]
  | x :: xs, y :: ys => by
    show PyData.eqvAll (PD.toD x :: xs.map PD.toD) (PD.toD y :: ys.map PD.toD) = true ↔ _
    rw [PyData.eqvAll, Bool.and_eq_true, PD.eqv x y, eqv_all xs ys, List.cons.injEq]
end
instance {α : Type} [Enc α] [PD α] : PD (List α) where
  toD := fun xs => .list (xs.map PD.toD)
  ok := fun xs => xs.all PD.ok
  dep := PD.dep α + 1
  dp := fun h => by
    obtain ⟨a, us, rfl, h1, h2⟩ := h
    exact .lst (.inl (.inl h1)) (dp_all h2)
  lay := fun x h => by
    show PyData.canLay0 (.list _) = true
    simp only [PyData.canLay0]
    exact lay_all x h
  dle := fun x => by
    show PyData.depth (.list _) ≤ _
    simp only [PyData.depth]
    exact Nat.succ_le_succ (dep_all x)
  eqv := fun x y => by
    show PyData.eqv (.list _) (.list _) = true ↔ _
    simp only [PyData.eqv]
    exact eqv_all x y
instance {α : Type} [Enc α] [PD α] : PD (Tup α) where
  toD := fun xs => .tuple (xs.l.map PD.toD)
  ok := fun xs => xs.l.all PD.ok
  dep := PD.dep α + 1
  dp := fun h => by
    obtain ⟨a, us, rfl, h1, h2⟩ := h
    exact .tup h1 (dp_all h2)
  lay := fun x h => by
    show PyData.canLay0 (.tuple _) = true
    simp only [PyData.canLay0]
    exact lay_all x.l h
  dle := fun x => by
    show PyData.depth (.tuple _) ≤ _
    simp only [PyData.depth]
    exact Nat.succ_le_succ (dep_all x.l)
  eqv := fun x y => by
    show PyData.eqv (.tuple _) (.tuple _) = true ↔ _
    simp only [PyData.eqv]
    rw [eqv_all x.l y.l]
    exact ⟨fun h => by cases x; cases y; cases h; rfl, fun h => by rw [h]⟩
instance {α β : Type} [Enc α] [PD α] [Enc β] [PD β] : PD (α × β) where
  toD := fun x => .tuple [PD.toD x.1, PD.toD x.2]
  ok := fun x => PD.ok x.1 && PD.ok x.2
  dep := max (PD.dep α) (PD.dep β) + 1
  dp := fun h => by
    obtain ⟨a, u, w, rfl, h1, h2, h3⟩ := h
    exact .tup h1 (.cons (PD.dp h2) (.cons (PD.dp h3) .nil))
  lay := fun x h => by
    rw [Bool.and_eq_true] at h
    show PyData.canLay0 (.tuple _) = true
    simp only [PyData.canLay0, PyData.canLayAll0, PD.lay _ h.1, PD.lay _ h.2]
    rfl
  dle := fun x => by
    have h1 := PD.dle x.1
    have h2 := PD.dle x.2
    show PyData.depth (.tuple _) ≤ _
    simp only [PyData.depth, PyData.depthAll]
    omega
  eqv := fun x y => by
    show PyData.eqv (.tuple _) (.tuple _) = true ↔ _
    simp only [PyData.eqv, PyData.eqvAll, Bool.and_eq_true, PD.eqv, and_true]
    exact ⟨fun h => Prod.ext h.1 h.2, fun h => by rw [h]; exact ⟨rfl, rfl⟩⟩
section
variable {B : Bs} {e : Ev1} {α β γ δ ρ : Type} [Enc α] [Enc β] [Enc γ] [Enc ρ] {te tl ta tb : TE} {t1 : TA} {tt tu : TT} {E : En ρ} {wi : TI} {g : TG} {r : R2}
theorem pd_shaped [PD α] {x : α} (h : PD.ok x = true) (hd : PD.dep α ≤ 64) : SeqAt.shaped (PD.toD x) = true := by
  unfold SeqAt.shaped
  rw [PD.lay x h, Bool.true_and]
  exact decide_eq_true (Nat.le_trans (PD.dle x) hd)
theorem eqv_dec [PD α] [DecidableEq α] {x y : α} : PyData.eqv (PD.toD x) (PD.toD y) = decide (x = y) := by
  rw [Bool.eq_iff_iff, PD.eqv]
  exact decide_eq_true_iff.symm
theorem r2_eqP [PD α] [DecidableEq α] {x y : α} (hx : PD.ok x = true) (hy : PD.ok y = true) (hd : PD.dep α ≤ 64 := by decide) : R2V B e (rEqD B.K) x y (· = decide (x = y)) := fun σ G H ok v w rv rw' Q q =>
  ⟨PD.toD x, PD.toD y, PD.dp (Enc.mono ok.gh rv), PD.dp (Enc.mono ok.gh rw'), pd_shaped hx hd, pd_shaped hy hd, by rw [eqv_dec]; exact q _ _ G H rfl ok (Same.refl G) rfl⟩
theorem r2_neP [PD α] [DecidableEq α] {x y : α} (hx : PD.ok x = true) (hy : PD.ok y = true) (hd : PD.dep α ≤ 64 := by decide) : R2V B e (rNeD B.K) x y (· = !decide (x = y)) := fun σ G H ok v w rv rw' Q q =>
  ⟨PD.toD x, PD.toD y, PD.dp (Enc.mono ok.gh rv), PD.dp (Enc.mono ok.gh rw'), pd_shaped hx hd, pd_shaped hy hd, by rw [eqv_dec]; exact q _ _ G H rfl ok (Same.refl G) rfl⟩
/-! ### isinstance -/
theorem isi_F {α : Type} [EncF α] {x : α} {ty c : String} {b : Bool} (h : EvD B ta e x) (ht : ∀ H, TyOf B.K H (EncF.toV x) (.type ty)) (hk : kitB ty c = some b) : EvD B (tCB (rIsi B.K) (tCons ta (tCons (tC (.ty c)) tNil))) e b := fun σ G H ok X Q q =>
  h σ G H ok X _ fun v y G1 H1 p ok1 s1 r1 => by
    subst p
    have e1 := EncF.repV.mp r1
    subst e1
    exact ⟨_, _, .type ty, .type c, b, rfl, .ty c, .base (ht H1), kit_ty hk, q _ b G1 H1 rfl ok1 s1 rfl⟩
theorem isi_L {x : List α} {c : String} {b : Bool} (h : EvD B ta e x) (hk : kitB "list" c = some b) : EvD B (tCB (rIsi B.K) (tCons ta (tCons (tC (.ty c)) tNil))) e b := fun σ G H ok X Q q =>
  h σ G H ok X _ fun v y G1 H1 p ok1 s1 r1 => by
    subst p
    obtain ⟨a, us, rfl, h1, h2⟩ := r1
    exact ⟨_, _, .type "list", .type c, b, rfl, .ty c, .base (.lst (ok1.gh _ _ h1)), kit_ty hk, q _ b G1 H1 rfl ok1 s1 rfl⟩
theorem ty_tup {K : PySem.W.Frag} {H : Hp} {a : Addr} {us : List V} (h : SqT K H a us) : TyX K H (.ref a) (.type "tuple") := by
  rcases h with (h | ⟨o, h⟩) | ⟨o, its, n, h1, h2, _⟩
  · exact .base (.tup h)
  · exact .fTuple h
  · exact .kTuple h1 h2
theorem isi_U {x : Tup α} {c : String} {b : Bool} (h : EvD B ta e x) (hk : kitB "tuple" c = some b) : EvD B (tCB (rIsi B.K) (tCons ta (tCons (tC (.ty c)) tNil))) e b := fun σ G H ok X Q q =>
  h σ G H ok X _ fun v y G1 H1 p ok1 s1 r1 => by
    subst p
    obtain ⟨a, us, rfl, h1, h2⟩ := r1
    exact ⟨_, _, .type "tuple", .type c, b, rfl, .ty c, ty_tup (same_t ok1.gh h1), kit_ty hk, q _ b G1 H1 rfl ok1 s1 rfl⟩
theorem isi_O {k : Nat} {a : Addr} {ys : List α} {c : String} {b : Bool} (hc : e.cl[k]? = some (a, ownL ys)) (h : EvD B ta e (Adr.mk a)) (hk : kitB "list" c = some b) : EvD B (tCB (rIsi B.K) (tCons ta (tCons (tC (.ty c)) tNil))) e b := fun σ G H ok X Q q =>
  h σ G H ok X _ fun v y G1 H1 p ok1 s1 r1 => by
    subst p
    obtain rfl := (show v = V.ref a from r1)
    obtain ⟨_, _, o, h1, us, rfl, _⟩ := ok1.cell hc
    exact ⟨_, _, .type "list", .type c, b, rfl, .ty c, .base (.lst h1), kit_ty hk, q _ b G1 H1 rfl ok1 s1 rfl⟩
/-! ### text times int -/
def rRepS : R2 := fun x y H Q => ∃ (i : Str) (j : Int), x = .str i ∧ y = .int j ∧ -1000 ≤ j ∧ j ≤ 10000 ∧ i.length ≤ 1000 ∧ Q (.str (Txt.mul i j)) H
theorem op_repS {X : Cx} : OpR X (binaryOp .Mult) rRepS := by
  intro pins s σ H x y v u Q I rx ry h
  obtain ⟨i, j, rfl, rfl, h1, h2, h3, q⟩ := h
  obtain ⟨t, rfl⟩ := rx
  obtain ⟨t', rfl⟩ := ry
  refine PySem.SB.mul ⟨?_, fun _ _ => ?_, fun _ _ => ?_⟩ fun t' k => ⟨.str _, H, I.tok k, ⟨_, rfl⟩, q⟩
  · simp only [Bool.or_eq_false_iff, decide_eq_false_iff_not]
    omega
  · have hq : (10 ^ 3 : Int) ≤ (2 ^ 63 - 1) / j := by
      rw [Int.le_ediv_iff_mul_le (by omega)]
      omega
    omega
  · have : i.length * j.toNat ≤ 1000 * 10000 := Nat.mul_le_mul h3 (by omega)
    exact decide_eq_false (by rw [sizeLine_eq]; omega)
theorem r2_repS {i : Str} {j : Int} (h : -1000 ≤ j ∧ j ≤ 10000 ∧ i.length ≤ 1000) : R2V B e rRepS i j (· = Txt.mul i j) := r2_F (γ := Str) fun H Q q => ⟨i, j, rfl, rfl, h.1, h.2.1, h.2.2, q⟩
end
end Fw

namespace Fw
open PySem L2

section
variable {B : Bs} {e : Ev1} {α β γ δ ρ : Type} [Enc α] [Enc β] [Enc γ] [Enc ρ] {te tl ta tb : TE} {t1 : TA} {tt tu : TT} {E : En ρ} {wi : TI} {g : TG} {r : R2} {js : List Nat} {f : α → List (Option Slot) → List (Option Slot)}

/-! ### what is walked, some list; as long as the cells stand -/
def GivesC (B : Bs) (C : List (Addr × Cell)) (G1 : Hp) (J : It) (xs : List α) : Prop := ∀ G2 H cl, Same G1 G2 → Same G2 H → CR B G2 H cl → (∀ c ∈ C, c ∈ cl) → ∀ i : Nat,
  (i < xs.length → J.go i H) ∧ (xs.length ≤ i → J.stop i H) ∧ ∀ (y : α) v H', xs[i]? = some y → J.yld i H v H' → (H' = H ∧ Enc.rep B.K G2 v y) ∨ (∃ T o, H T = none ∧ H' = upd H T o ∧ Enc.rep B.K (upd G2 T o) v y)
def EvIC (B : Bs) (wi : TI) (e : Ev1) (P : List α → Prop) : Prop :=
  ∀ σ G H, Ok B G H σ e → XOk B G → ∀ R : It → Hp → Prop, (∀ J xs G' H', P xs → Ok B G' H' σ e → Same G G' → GivesC B e.cl G' J xs → R J H') → wi σ H R
theorem ei_c {xs : List α} (h : EvI B wi e xs) : EvIC B wi e (· = xs) := fun σ G H ok X R q =>
  h σ G H ok X R fun J G' H' ok' s' gv => q J xs G' H' rfl ok' s' fun G2 H2 cl s1 s2 _ _ i => by
    obtain ⟨g1, g2, g3⟩ := gv H2 (s1.trans s2) i
    refine ⟨g1, g2, fun y v H3 hy hv => ?_⟩
    rcases g3 y v H3 hy hv with ⟨a, b⟩ | ⟨T, o, a, b, c⟩
    · exact .inl ⟨a, Enc.mono s1 b⟩
    · exact .inr ⟨T, o, a, b, Enc.mono (same_upd2 s1) c⟩
/-- an own list is walked -/
theorem eic_own {k : Nat} {a : Addr} {xs : List α} (hc : e.cl[k]? = some (a, ownL xs)) (h : EvD B tl e (Adr.mk a)) : EvIC B (iList B.K tl) e (· = xs) := fun σ G H ok X R q =>
  h σ G H ok X _ fun v y G1 H1 p ok1 s1 r1 => by
    subst p
    obtain rfl := (show v = V.ref a from r1)
    obtain ⟨_, _, o, h1, us, rfl, hu⟩ := ok1.cell hc
    refine ⟨a, rfl, ⟨us, .inl (.inl h1)⟩, q _ xs G1 H1 rfl ok1 s1 fun G2 H2 cl s2 s3 cr hcl i => ?_⟩
    obtain ⟨_, _, o, h2, ws, rfl, hw⟩ := cr.at_ _ (hcl _ (List.mem_of_getElem? hc))
    have hl := hw.length
    have hs : SqL B.K H2 a ws := .inl (.inl h2)
    refine ⟨fun hi => ⟨ws, ws[i]'(by omega), hs, List.getElem?_eq_getElem (by omega)⟩, fun hi => ⟨ws, hs, by omega⟩, fun y v H' hy hv => ?_⟩
    obtain ⟨rfl, hv⟩ := hv
    exact .inl ⟨rfl, paired_ix hw (hv ws hs) hy⟩
theorem eic_rng1 {P : Int → Prop} (h : Ev B te e P) (hn : ∀ n, P n → n < 2 ^ 62 ∧ -(2 ^ 62) ≤ n) : EvIC B (iRng1 (tCons te tNil)) e (fun xs => ∃ n, P n ∧ xs = rngI 0 n.toNat) := fun σ G H ok X R q =>
  h σ G H ok X _ fun v n G1 H1 p ok1 s1 r1 => by
    obtain rfl := (show v = V.int n from r1)
    refine ⟨n, rfl, (hn n p).2, (hn n p).1, q _ _ G1 H1 ⟨n, p, rfl⟩ ok1 s1 fun G2 H2 cl s2 s3 _ _ i => ?_⟩
    obtain ⟨g1, g2, g3⟩ := gives_rng (K := B.K) (G := G1) (lo := 0) (n := n.toNat) H2 (s2.trans s3) i
    refine ⟨g1, g2, fun y v H3 hy hv => ?_⟩
    rcases g3 y v H3 hy hv with ⟨a, b⟩ | ⟨T, o, a, b, c⟩
    · exact .inl ⟨a, b⟩
    · exact .inr ⟨T, o, a, b, Enc.mono (same_upd2 s2) c⟩

/-! ### comprehensions once more -/
theorem evl_lcX {ws : List Nat} {Pxs : List α → Prop} (hi : EvIC B wi e Pxs) (hg : EvG B g js f) (hj : ∀ j ∈ js, j ∈ ws) (hl : ∀ xs, Pxs xs → xs.length ≤ 1000000) (I : List α → List β → Prop) (h0 : I [] []) (pt : α → Bool → Prop) (pe : α → β → Prop)
    (ht : ∀ xs pre x post, Pxs xs → xs = pre ++ x :: post → ∀ dc, EvT B tt ⟨f x (wipeE e.sl ws), e.cl ++ [dc]⟩ (pt x))
    (he : ∀ xs pre x post, Pxs xs → xs = pre ++ x :: post → pt x true → ∀ dc, Ev B te ⟨f x (wipeE e.sl ws), e.cl ++ [dc]⟩ (pe x))
    (hy : ∀ pre x ys y, I pre ys → pt x true → pe x y → I (pre ++ [x]) (ys ++ [y]))
    (hn : ∀ pre x ys, I pre ys → pt x false → I (pre ++ [x]) ys) : EvL B (tLc wi g tt te ws) e (fun ys => ∃ xs, Pxs xs ∧ I xs ys) := fun σ G H ok X Q q =>
  hi σ G H ok X _ fun J xs G1 H1 pxs ok1 s1 gv => fun D hD => by
    have hlx := hl xs pxs
    refine ⟨fun i n H => ∃ G2 ys, n = xs.length - i ∧ i ≤ xs.length ∧ ys.length ≤ i ∧ Ok B G2 H σ ⟨e.sl, e.cl ++ [(D, ownL ys)]⟩ ∧ B.H0 D = none ∧ Same G1 G2 ∧ I (xs.take i) ys, ⟨xs.length, G1, [], by simp, Nat.zero_le _, Nat.zero_le _, ?_, ok1.al D hD, Same.refl _, by rw [List.take_zero]; exact h0⟩, ?_⟩
    · exact (ok1.newH hD).addEnd (ok1.gh.free hD) upd_same (ok1.al D hD) (fun c hc => by
        obtain ⟨_, _, o', h3, _⟩ := ok1.cr.at_ c hc
        exact ne_of_none h3 hD) rfl ⟨[], rfl, .nil⟩
    rintro i n H2 ⟨G2, ys, rfl, hi2, hy2, ok2, hD0, s2, inv⟩
    obtain ⟨g1, g2, g3⟩ := gv G2 H2 _ s2 ok2.gh ok2.cr (fun c hc => List.mem_append_left _ hc) i
    by_cases hlt : i < xs.length
    · refine .inr ⟨g1 hlt, fun H => ∃ G2 ys, ys.length ≤ i + 1 ∧ Ok B G2 H σ ⟨e.sl, e.cl ++ [(D, ownL ys)]⟩ ∧ Same G1 G2 ∧ I (xs.take (i + 1)) ys, fun H' ⟨G', ys', k1, k2, k3, k4⟩ => ⟨xs.length - (i + 1), by omega, G', ys', rfl, hlt, k1, k2, hD0, k3, k4⟩, fun v H' hyl => ?_⟩
      have hx : xs[i]? = some xs[i] := List.getElem?_eq_getElem hlt
      have split : xs = xs.take i ++ xs[i] :: xs.drop (i + 1) := by rw [← List.drop_eq_getElem_cons hlt, List.take_append_drop]
      have tk1 : xs.take (i + 1) = xs.take i ++ [xs[i]] := by rw [List.take_add_one, hx]; rfl
      have fin : ∀ G3, Ok B G3 H' σ ⟨e.sl, e.cl ++ [(D, ownL ys)]⟩ → Same G1 G3 → Enc.rep B.K G3 v xs[i] → g v (wipe σ ws) H' fun σ2 H2 => wipe σ2 ws = wipe σ ws ∧ tt σ2 H2 fun b H3 =>
          if b = true then te σ2 H3 fun y H4 => ∃ acc, H4 D = some (.lst acc) ∧ acc.length < sizeLine ∧ (∃ G2 ys, ys.length ≤ i + 1 ∧ Ok B G2 (upd H4 D (.lst (acc ++ [y]))) σ ⟨e.sl, e.cl ++ [(D, ownL ys)]⟩ ∧ Same G1 G2 ∧ I (xs.take (i + 1)) ys)
          else ∃ G2 ys, ys.length ≤ i + 1 ∧ Ok B G2 H3 σ ⟨e.sl, e.cl ++ [(D, ownL ys)]⟩ ∧ Same G1 G2 ∧ I (xs.take (i + 1)) ys := fun G3 ok3 s13 r3 => by
        have ok3w : Ok B G3 H' (wipe σ ws) ⟨wipeE e.sl ws, e.cl ++ [(D, ownL ys)]⟩ := ⟨ok3.g0, ok3.gh, ok3.fr, ok3.al, ok3.nw, sr_wipe ok3.sr ws, ok3.cr⟩
        refine hg (wipe σ ws) G3 H' _ ok3w v _ r3 _ fun σ3 ok4 hw => ⟨by rw [hw ws hj, wipe_idem ws ws fun _ h => h], ?_⟩
        have back : ∀ {G5 H5 : Hp}, Ok B G5 H5 σ3 ⟨f xs[i] (wipeE e.sl ws), e.cl ++ [(D, ownL ys)]⟩ → Same G3 G5 → Ok B G5 H5 σ ⟨e.sl, e.cl ++ [(D, ownL ys)]⟩ := fun {G5 H5} k s5 => ⟨k.g0, k.gh, k.fr, k.al, k.nw, ok3.sr.mono s5, k.cr⟩
        refine ht xs _ _ _ pxs split (D, ownL ys) σ3 G3 H' ok4 (X.mono (s1.trans s13)) _ fun b G5 H5 pb ok5 s5 => ?_
        cases b with
        | false => exact iteF ⟨G5, ys, by omega, back ok5 s5, s13.trans s5, by rw [tk1]; exact hn _ _ _ inv pb⟩
        | true =>
          refine iteT (he xs _ _ _ pxs split pb (D, ownL ys) σ3 G5 H5 ok5 (X.mono ((s1.trans s13).trans s5)) _ fun y z G6 H6 pz ok6 s6 r6 => ?_)
          have k6 := back ok6 (s5.trans s6)
          have hcl : (⟨e.sl, e.cl ++ [(D, ownL ys)]⟩ : Ev1).cl[e.cl.length]? = some (D, ownL ys) := by
            show (e.cl ++ [(D, ownL ys)])[e.cl.length]? = _
            rw [List.getElem?_append_right (Nat.le_refl _), Nat.sub_self]
            rfl
          obtain ⟨_, _, o, ho, acc, rfl, hacc⟩ := k6.cell hcl
          refine ⟨acc, ho, ?_, G6, ys ++ [z], by rw [List.length_append]; show ys.length + 1 ≤ i + 1; omega, ?_, (s13.trans s5).trans s6, by rw [tk1]; exact hy _ _ _ _ inv pb pz⟩
          · rw [hacc.length, sizeLine_eq]
            omega
          · have w := k6.write (c' := ownL (ys ++ [z])) hcl rfl ⟨acc ++ [y], rfl, hacc.snoc r6⟩
            have e9 : (e.cl ++ [(D, ownL ys)]).set e.cl.length (D, ownL (ys ++ [z])) = e.cl ++ [(D, ownL (ys ++ [z]))] := by
              rw [List.set_append_right _ _ (Nat.le_refl _), Nat.sub_self]
              rfl
            exact e9 ▸ w
      rcases g3 _ v H' hx hyl with ⟨rfl, r⟩ | ⟨T, o, hT, rfl, r⟩
      · exact fin G2 ok2 s2 r
      · have gT : G2 T = none := ok2.gh.free hT
        exact fin (upd G2 T o) (ok2.new hT) (s2.trans (same_upd gT)) r
    · have e3 : i = xs.length := by omega
      subst e3
      rw [List.take_length] at inv
      have hcl : (⟨e.sl, e.cl ++ [(D, ownL ys)]⟩ : Ev1).cl[e.cl.length]? = some (D, ownL ys) := by
        show (e.cl ++ [(D, ownL ys)])[e.cl.length]? = _
        rw [List.getElem?_append_right (Nat.le_refl _), Nat.sub_self]
        rfl
      obtain ⟨gD, _, o, ho, acc, rfl, hacc⟩ := ok2.cell hcl
      exact .inl ⟨g2 (Nat.le_refl _), q D acc ys G2 H2 ⟨xs, pxs, inv⟩ ok2.dropEnd (s1.trans s2) ⟨_, ho, rfl⟩ gD hD0 ok2.endNe hacc⟩
/-- an element's value is told by a word -/
theorem evl_lcXN {ws : List Nat} {Pxs : List α → Prop} {pe : α → β → Prop} (hi : EvIC B wi e Pxs) (hg : EvG B g js f) (hj : ∀ j ∈ js, j ∈ ws) (hl : ∀ xs, Pxs xs → xs.length ≤ 1000000)
    (he : ∀ xs pre x post, Pxs xs → xs = pre ++ x :: post → ∀ dc, Ev B te ⟨f x (wipeE e.sl ws), e.cl ++ [dc]⟩ (pe x)) : EvL B (tLc wi g tYes te ws) e (fun ys => ∃ xs, Pxs xs ∧ Paired pe xs ys) :=
  evl_lcX hi hg hj hl (Paired pe) .nil (fun _ b => b = true) pe (fun _ _ _ _ _ _ _ => et_yes.mono fun _ h => h) (fun xs pre x post p s _ => he xs pre x post p s) (fun pre x ys y hI _ p => hI.snoc p) fun _ _ _ _ h => absurd h Bool.false_ne_true
theorem evl_lcN {ws : List Nat} {xs : List α} {pe : α → β → Prop} (hi : EvI B wi e xs) (hg : EvG B g js f) (hj : ∀ j ∈ js, j ∈ ws) (hl : xs.length ≤ 1000000)
    (he : ∀ pre x post, xs = pre ++ x :: post → ∀ dc, Ev B te ⟨f x (wipeE e.sl ws), e.cl ++ [dc]⟩ (pe x)) : EvL B (tLc wi g tYes te ws) e (Paired pe xs) :=
  (evl_lcXN (pe := pe) (ei_c hi) hg hj (fun _ h => by rw [h]; exact hl) fun ys pre x post h s => by subst h; exact he pre x post s).mono fun ys ⟨zs, h1, h2⟩ => by rw [← h1]; exact h2
/-- own list, decided -/
theorem evl_lcCD {ws : List Nat} {xs : List α} {p : α → Bool} {h : α → β} (hi : EvIC B wi e (· = xs)) (hg : EvG B g js f) (hj : ∀ j ∈ js, j ∈ ws) (hl : xs.length ≤ 1000000)
    (ht : ∀ pre x post, xs = pre ++ x :: post → ∀ dc, EvTD B tt ⟨f x (wipeE e.sl ws), e.cl ++ [dc]⟩ (p x))
    (he : ∀ pre x post, xs = pre ++ x :: post → p x = true → ∀ dc, EvD B te ⟨f x (wipeE e.sl ws), e.cl ++ [dc]⟩ (h x)) : EvL B (tLc wi g tt te ws) e (· = (xs.filter p).map h) :=
  (evl_lcX hi hg hj (fun _ h => by rw [h]; exact hl) (fun pre ys => ys = (pre.filter p).map h) rfl (fun x b => b = p x) (fun x y => y = h x) (fun zs pre x post h s => by subst h; exact ht pre x post s) (fun zs pre x post h s pb => by subst h; exact he pre x post s pb.symm)
    (fun pre x ys y hI pb py => by subst hI; subst py; rw [List.filter_append, List.map_append, List.filter_cons, if_pos pb.symm]; rfl)
    (fun pre x ys hI pb => by subst hI; rw [List.filter_append, List.map_append, List.filter_cons, if_neg (by rw [← pb]; exact Bool.false_ne_true)]; simp)).mono fun ys ⟨zs, h1, h2⟩ => by rw [← h1]; exact h2

/-! ### a new cell from a call; a new list of things of different kinds -/
theorem do_callNew {sp : Sp} {W : WX} {i : Nat} {c0 : Cell} {P : List Slot → Prop} (ha : EvA B t1 e P) (hl : c0.lc = true)
    (hs : ∀ ss, P ss → ∀ us H Q E, Call B.K ss [] (fun (r : Adr) c => c = [(r.a, c0)]) (fun _ _ => False) us H Q E → sp us H Q E) (k : ∀ a, E.nx ⟨e.sl.set i (va (Adr.mk a)), (a, c0) :: e.cl⟩) : Do B (tAsg (tCallS sp (WE W) t1) (gName i)) e E := fun σ G H ok X D m =>
  ha σ G H ok X _ fun us ss G1 H1 p ok1 s1 r1 => hs ss p us H1 _ _ ⟨G1, ok1.gh, r1, List.nodup_nil, fun _ h => (nomatch h), fun v r cl' G' H' pr a rv => by
    subst pr
    obtain rfl := (show v = V.ref r.a from rv)
    obtain ⟨h1, h2, h3⟩ := a.at_ (r.a, c0) List.mem_cons_self
    rw [if_pos hl] at h2
    have a0 : After B.K G1 H1 [] G' H' [] := ⟨a.gg, a.gh, a.fr, a.al, a.nw, List.nodup_nil, fun _ h => (nomatch h)⟩
    have ok2 : Ok B G' H' σ e := after_ok (cl := []) ok1 (fun _ h => absurd h (by simp)) a0
    have ne : ∀ c ∈ e.cl, c.1 ≠ r.a := fun c hc => by
      obtain ⟨_, _, o', k3, _⟩ := ok1.cr.at_ c hc
      exact ne_of_none k3 h2
    obtain ⟨o, h3, h4⟩ := h3
    have ok3 := ok2.addCell (c := c0) h1 h3 (ok1.al _ h2) ne hl h4
    exact m.nx _ G' H' _ (k r.a) (ok3.set i (v := .ref r.a) (s := vs (Adr.mk r.a)) rfl) (s1.trans a.gg), fun d x cl' G' H' z => z.elim⟩
theorem do_retS {E : En Adr} {c' : Cell} {ss : List Slot} (ha : EvA B t1 e (· = ss)) (hl : ss.length ≤ 1000) (hc : c'.lc = true) (hw : ∀ K G o, (ownS true ss).hp K G o → c'.hp K G o) (k : ∀ p, E.rt (Adr.mk p) ⟨e.sl, (p, c') :: e.cl⟩) : Do B (tRet (tLst t1)) e E := fun σ G H ok X D m =>
  ha σ G H ok X _ fun us ss' G1 H1 p ok1 s1 r1 => by
    subst p
    refine ⟨szl (by rw [r1.length]; omega), fun p hp => ?_⟩
    exact m.rt (.ref p) (Adr.mk p) σ G1 _ _ (k p) (ok1.newCell (c := c') hp hc (hw _ _ _ ⟨us, rfl, r1⟩)) s1 rfl
end
end Fw

namespace Fw
open PySem L2

/-! ### dicts with texts or numbers as keys -/
class DKy (κ : Type) [EncF κ] where
  kk : κ → Key
  kkV : ∀ x, kV (kk x) = EncF.toV x
  inj : ∀ x y, kk x = kk y → x = y
instance : DKy Str := ⟨Sum.inr, fun _ => rfl, fun _ _ h => Sum.inr.inj h⟩
instance : DKy Int := ⟨Sum.inl, fun _ => rfl, fun _ _ h => Sum.inl.inj h⟩
section
variable {κ : Type} [EncF κ] [DKy κ] [DecidableEq κ] {B : Bs} {e : Ev1} {α β γ δ ρ : Type} [Enc α] [Enc β] [Enc γ] [Enc ρ] {te td ty ta tb : TE} {t1 : TA} {tt tu : TT} {E : En ρ}
abbrev DRel (K : PySem.W.Frag) (H : Hp) : List (Key × V) → List (κ × β) → Prop := Paired fun (p : Key × V) (q : κ × β) => p.1 = DKy.kk q.1 ∧ Enc.rep K H p.2 q.2
def ownD (d : List (κ × β)) : Cell := ⟨true, fun K H o => ∃ kvs, o = .dK kvs ∧ DRel K H kvs d, fun e ⟨kvs, h1, h2⟩ => ⟨kvs, h1, Paired.mapP h2 fun _ _ r => ⟨r.1, Enc.mono e r.2⟩⟩⟩
def putD (d : List (κ × β)) (k : κ) (v : β) : List (κ × β) := if (d.any fun q => decide (q.1 = k)) = true then d.map (fun q => if q.1 = k then (q.1, v) else q) else d ++ [(k, v)]
def keysD (d : List (κ × β)) : List κ := d.map (·.1)
theorem drel_any {K : PySem.W.Frag} {H : Hp} {k : κ} : ∀ {kvs : List (Key × V)} {d : List (κ × β)}, DRel K H kvs d → (kvs.any fun kv => decide (kv.1 = DKy.kk k)) = d.any fun q => decide (q.1 = k)
  | _, _, .nil => rfl
  | _, _, .cons (a := p) (b := q) h t => by
    rw [List.any_cons, List.any_cons, drel_any t, h.1]
    congr 1
    rw [Bool.eq_iff_iff, decide_eq_true_eq, decide_eq_true_eq]
    exact ⟨fun z => DKy.inj _ _ z, fun z => congrArg DKy.kk z⟩
theorem drel_map {K : PySem.W.Frag} {H : Hp} {k : κ} {v : V} {y : β} (rv : Enc.rep K H v y) : ∀ {kvs : List (Key × V)} {d : List (κ × β)}, DRel K H kvs d → DRel K H (kvs.map fun kv => if kv.1 = DKy.kk k then (kv.1, v) else kv) (d.map fun q => if q.1 = k then (q.1, y) else q)
  | _, _, .nil => .nil
  | _, _, .cons (a := p) (b := q) h t => by
    rw [List.map_cons, List.map_cons]
    refine .cons ?_ (drel_map rv t)
    obtain ⟨p1, p2⟩ := p
    obtain ⟨q1, q2⟩ := q
    obtain ⟨h1, h2⟩ := h
    have h1 : p1 = DKy.kk q1 := h1
    subst h1
    by_cases e : q1 = k
    · rw [if_pos (by show (DKy.kk q1 : Key) = DKy.kk k; rw [e]), if_pos e]
      exact ⟨rfl, rv⟩
    · rw [if_neg (fun z => e (DKy.inj _ _ z)), if_neg e]
      exact ⟨rfl, h2⟩
theorem drel_put {K : PySem.W.Frag} {H : Hp} {k : κ} {v : V} {y : β} (rv : Enc.rep K H v y) {kvs : List (Key × V)} {d : List (κ × β)} (h : DRel K H kvs d) : DRel K H (putK kvs (DKy.kk k) v) (putD d k y) := by
  unfold putK putD
  rw [drel_any h]
  split
  · exact drel_map rv h
  · exact Paired.snoc h ⟨rfl, rv⟩
theorem do_dput {k : Nat} {a : Addr} {d : List (κ × β)} {P : β → Prop} {x : κ} (hc : e.cl[k]? = some (a, ownD d)) (h : Ev B te e P) (ho : EvD B td e (Adr.mk a)) (hi : EvD B ty e x) (hz : d.length ≤ 1000000) (q : ∀ y, P y → E.nx ⟨e.sl, e.cl.set k (a, ownD (putD d x y))⟩) : Do B (sDPut td ty te) e E := fun σ G H ok X D m =>
  h σ G H ok X _ fun w y G1 H1 py ok1 s1 r1 => ho σ G1 H1 ok1 (X.mono s1) _ fun v z G2 H2 p ok2 s2 r2 => hi σ G2 H2 ok2 (X.mono (s1.trans s2)) _ fun v3 x3 G3 H3 p3 ok3 s3 r3 => by
    subst p
    subst p3
    obtain rfl := (show v = V.ref a from r2)
    obtain rfl := EncF.repV.mp r3
    rw [← DKy.kkV x3]
    obtain ⟨_, _, o, h1, kvs, rfl, hu⟩ := ok3.cell hc
    exact ⟨a, _, rfl, DPut.k (k := DKy.kk x3) h1 (by rw [Paired.length hu, sizeLine_eq]; omega), m.nx σ G3 _ _ (q y py) (ok3.write (c' := ownD (putD d x3 y)) hc rfl ⟨_, rfl, drel_put (Enc.mono (s2.trans s3) r1) hu⟩) ((s1.trans s2).trans s3)⟩
theorem do_dnew {i : Nat} (β : Type) [Enc β] (k : ∀ a, E.nx ⟨e.sl.set i (va (Adr.mk a)), (a, ownD ([] : List (κ × β))) :: e.cl⟩) : Do B (tAsg tDNewK (gName i)) e E := fun σ G H ok X D m => fun p hp =>
  m.nx _ G _ _ (k p) ((ok.newCell (c := ownD ([] : List (κ × β))) hp rfl ⟨[], rfl, .nil⟩).set i (v := .ref p) (s := vs (Adr.mk p)) rfl) (Same.refl G)
theorem do_dnew1 {i : Nat} {β : Type} [EncF β] {x : κ} {y : β} (k : ∀ a, E.nx ⟨e.sl.set i (va (Adr.mk a)), (a, ownD [(x, y)]) :: e.cl⟩) : Do B (tAsg (tDisp [(tC (EncF.toV x), tC (EncF.toV y))]) (gName i)) e E := fun σ G H ok X D m => fun p hp => by
  refine ⟨upd_same, [(DKy.kk x, EncF.toV y)], by rw [List.map_cons, List.map_nil, DKy.kkV], by simp, ?_⟩
  have e1 : upd (upd H p (.dK [])) p (.dK (mergeK [] [(DKy.kk x, EncF.toV y)])) = upd H p (.dK [(DKy.kk x, EncF.toV y)]) := by
    funext b
    by_cases hb : b = p
    · subst hb
      rw [upd_same, upd_same]
      rfl
    · rw [upd_ne hb, upd_ne hb, upd_ne hb]
  show D.nx _ (upd (upd H p (.dK [])) p (.dK (mergeK [] [(DKy.kk x, EncF.toV y)])))
  rw [e1]
  exact m.nx _ G _ _ (k p) ((ok.newCell (c := ownD [(x, y)]) hp rfl ⟨_, rfl, .cons ⟨rfl, EncF.repV.mpr rfl⟩ .nil⟩).set i (v := .ref p) (s := vs (Adr.mk p)) rfl) (Same.refl G)
theorem keys_paired {K : PySem.W.Frag} {H G : Hp} : ∀ {kvs : List (Key × V)} {d : List (κ × β)}, DRel K H kvs d → Paired (Enc.rep K G) (kvs.map fun kv => kV kv.1) (keysD d)
  | _, _, .nil => .nil
  | _, _, .cons (a := p) (b := q) h t => by
    refine .cons ?_ (keys_paired t)
    refine EncF.repV.mpr ?_
    show kV p.1 = EncF.toV q.1
    rw [h.1, DKy.kkV]
theorem evl_listD {k : Nat} {a : Addr} {d : List (κ × β)} (hc : e.cl[k]? = some (a, ownD d)) (h : EvA B t1 e (· = [vs (Adr.mk a)])) : EvL B (tCB rListD t1) e (· = keysD d) := evl_cb h fun σ G H ok us ru => by
  cases ru with
  | cons ra b =>
    cases b
    obtain rfl := (show _ = V.ref a from ra)
    obtain ⟨_, _, o, h1, kvs, rfl, h2⟩ := ok.cell hc
    exact ⟨_, keysD d, rfl, keys_paired h2, fun Q q => ⟨a, kvs, rfl, h1, q⟩⟩
end

/-! ### sorted -/
def wLe (a b : Str) : Bool := decide (a.length < b.length ∨ (a.length = b.length ∧ a.cps.toList ≤ b.cps.toList))
def pLe (a b : Int × Str) : Bool := decide (a.1 < b.1 ∨ (a.1 = b.1 ∧ a.2.cps.toList ≤ b.2.cps.toList))
def sortW (xs : List Str) : List Str := xs.mergeSort wLe
def sortP (xs : List (Int × Str)) : List (Int × Str) := xs.mergeSort pLe
theorem str_eq_iff {a b : Str} : a.cps.toList = b.cps.toList ↔ a = b := by
  constructor
  · intro h
    cases a
    cases b
    congr 1
    exact Array.toList_inj.mp h
  · intro h
    rw [h]
theorem dataLe_is {β : Type} (x : β → Int) (y : β → Str) : PySem.W.dataLe false (fun b => .tuple [.int (x b), .str (y b)]) = fun p q => decide (x p < x q ∨ (x p = x q ∧ (y p).cps.toList ≤ (y q).cps.toList)) := by
  funext p q
  show (!PySem.W.dataLt (.tuple [.int (x q), .str (y q)]) (.tuple [.int (x p), .str (y p)])) = _
  rw [PySem.W.dataLt_pair (by simp [PySem.W.alike]) (by simp [PySem.W.alike]), PySem.W.dataLt_int, PySem.W.dataLt_str]
  simp only [PyData.eqv, beq_iff_eq]
  by_cases h1 : x q = x p
  · rw [if_pos h1]
    by_cases h2 : y q = y p
    · rw [if_pos h2]
      have h3 : (y p).cps.toList ≤ (y q).cps.toList := by rw [h2]; exact List.le_refl _
      simp [h1, h3]
    · rw [if_neg h2]
      by_cases h3 : (y q).cps.toList < (y p).cps.toList
      · have h4 : ¬ (y p).cps.toList ≤ (y q).cps.toList := fun r => List.not_lt.mpr r h3
        simp [h1, h3, h4]
      · have h4 : (y p).cps.toList ≤ (y q).cps.toList := List.not_lt.mp h3
        simp [h1, h3, h4]
  · rw [if_neg h1]
    by_cases h2 : x q < x p
    · have h3 : ¬ x p < x q := by omega
      have h4 : ¬ x p = x q := by omega
      simp [h2, h3, h4]
    · have h3 : x p < x q := by omega
      simp [h2, h3]
theorem dataLe_W : PySem.W.dataLe false (fun b : Str => .tuple [.int b.length, .str b]) = wLe := by
  rw [dataLe_is (fun b : Str => (b.length : Int)) (fun b => b)]
  funext p q
  unfold wLe
  have e : (((p.length : Nat) : Int) < (q.length : Int) ∨ (((p.length : Nat) : Int) = (q.length : Int) ∧ p.cps.toList ≤ q.cps.toList)) ↔ (p.length < q.length ∨ (p.length = q.length ∧ p.cps.toList ≤ q.cps.toList)) := by
    rw [Int.ofNat_lt, Int.ofNat_inj]
  exact decide_eq_decide.mpr e
theorem dataLe_P : PySem.W.dataLe false (fun b : Int × Str => .tuple [.int b.1, .str b.2]) = pLe := dataLe_is (fun b : Int × Str => b.1) (fun b => b.2)
open PySem.W in
theorem alike_is {β : Type} (x : β → Int) (y : β → Str) (bs : List β) : AllAlike (bs.map fun b => PyData.tuple [.int (x b), .str (y b)]) := AllAlike.of fun _ _ => by simp [alike, alikeAll]
theorem depth_is (x : Int) (y : Str) : (PyData.tuple [.int x, .str y]).depth = 1 := by simp [PyData.depth, PyData.depthAll]
abbrev PrV (K : PySem.W.Frag) (H : Hp) (u : V) (k : Int × Str) : Prop := ∃ T, u = .ref T ∧ SqT K H T [.int k.1, .str k.2]
def rSortPr (K : PySem.W.Frag) : List V → Hp → VK → Prop := fun vs H Q => ∃ a ws ks G, vs = [.ref a] ∧ SqL K H a ws ∧ Same G H ∧ Paired (PrV K G) ws ks ∧ ks.length ≤ 1000000 ∧ ∀ p ws', H p = none → Paired (PrV K G) ws' (sortP ks) → Q (.ref p) (upd H p (.lst ws'))
section
variable {X : Cx}
theorem vals_each {β : Type} {R : V → β → Prop} : ∀ {ws : List V} {us : List Value} {bs : List β}, Vals ws us → Paired R ws bs → PySem.W.EachIs (fun v b => ∃ u, RelV u v ∧ R u b) us bs
  | _, _, _, .nil, .nil => .nil
  | _, _, _, .cons r t, .cons a b => .cons ⟨_, r, a⟩ (vals_each t b)
theorem each_vals {β : Type} {R : V → β → Prop} : ∀ {us : List Value} {bs : List β}, PySem.W.EachIs (fun v b => ∃ u, RelV u v ∧ R u b) us bs → ∃ ws, Vals ws us ∧ Paired R ws bs
  | _, _, .nil => ⟨[], .nil, .nil⟩
  | _, _, .cons ⟨u, h1, h2⟩ t => by
    obtain ⟨ws, k1, k2⟩ := each_vals t
    exact ⟨u :: ws, .cons h1 k1, .cons h2 k2⟩
theorem cr_sortedPr (hu : X.A.units + 64 < cLine) : CallR X (.builtin "sorted") (rSortPr X.K) := by
  intro pins s σ H vs us Q I r h
  obtain ⟨a, ws, ks, G, rfl, hs, sg, hp, hl, q⟩ := h
  obtain rfl := Vals.ref1 r
  obtain ⟨its, rv, pl, hz⟩ := I.list hs
  have er : PySem.W.EachIs (fun v b => ∃ as, Reads s.heap v ((fun b : Int × Str => PyData.tuple [.int b.1, .str b.2]) b) as) its ks := (vals_each rv hp).mono fun v b ⟨u, ru, T, hu', hT⟩ => by
    subst hu'
    exact Dp.reads I _ _ _ (.tup (same_t sg hT) (.cons (.int _) (.cons (.str _) .nil))) ru
  refine PySem.W.sorted_data (R := fun v b => ∃ u, RelV u v ∧ PrV X.K G u b) (enc := fun b : Int × Str => PyData.tuple [.int b.1, .str b.2]) pl.isList (vals_each rv hp) er (alike_is (fun b : Int × Str => b.1) (fun b => b.2) ks) (PySem.W.Sortable.tuples fun _ => ⟨_, _, rfl⟩) (by rw [sizeLine_eq]; omega) (fun b _ => by rw [depth_is]; omega) fun out ho eo => ?_
  rw [dataLe_P] at eo
  obtain ⟨ws', k1, k2⟩ := each_vals eo
  obtain ⟨ep, he'⟩ := PyProof.Rows.sortedAll_at s.heap its out.toArray
  have hlen : ws'.length ≤ sizeLine := by rw [k1.length, ho, sizeLine_eq]; omega
  exact ⟨.ref _, upd H (s.heap.objs.size + 1) (.lst ws'), I.laid (t' := s.toks) (fun _ _ => PyProof.Rows.sortedAll_old) (Nat.le_succ _) ⟨hlen, out, ep, k1, he'⟩, rfl, q _ ws' (I.hok.fresh (Nat.le_succ _)) k2⟩

/-! sorted(xs, key=f), f(word) = (len(word), word) -/
theorem key_body {X : Cx} {pins : List (Addr × Obj)} {σ : St} {H : Hp} {s : Shared} (I : Inv X pins σ H s) {E : Value → Shared → Prop} {p1 p2 p3 p4 p5 p6 : Pos} {kk : Nat} {z : Str} (hN : X.N[0]? = some ("word" : Str)) (hσ : σ[0]? = some (some (.str z))) (lw : X.env.scope.names.lookup ("word" : Str) = some NameKind.local)
    (hg : Gl X "len") (hm : X.mg "len" = none) (hz : z.length ≤ sizeLine) (h1 : starEach [Expr.Name "word" p2] X.env = [(false, eval (.Name "word" p2) X.env)])
    (h2 : starEach [Expr.Call (.Name "len" p1) [.Name "word" p2] [] p3, .Name "word" p4] X.env = [(false, eval (.Call (.Name "len" p1) [.Name "word" p2] [] p3) X.env), (false, eval (.Name "word" p4) X.env)]) :
    wpAny (model X.prog X.w) X.A (execs [.Return (some (.Tuple [.Call (.Name "len" p1) [.Name "word" p2] [] p3, .Name "word" p4] kk p5)) p6] X.env) (fun fl s' => ∃ u, fl = .ret u ∧ PySem.W.KeyPure (.tuple [.int z.length, .str z]) s u s') E s := by
  obtain ⟨m, hn, hl'⟩ := I.loc
  obtain ⟨u, ⟨t', ru⟩, l⟩ := hl' 0 "word" (.str z) hN hσ (.inl lw)
  subst ru
  obtain ⟨hp, g, d, tk, os⟩ := s
  have rd : ∀ {tk' : Nat} {pos : Pos} {Q : Value → Shared → Prop}, Q (.str z t') ⟨hp, g, d, tk', os⟩ → wpAny (model X.prog X.w) X.A (eval (.Name "word" pos) X.env) Q E ⟨hp, g, d, tk', os⟩ := fun {tk' pos Q} q => by
    rcases l with ⟨hk, hm⟩ | ⟨hk, _⟩
    · exact wpAny_Name (wpAny_loadName_local I.ok.kind hk hn hm q) (by decide)
    · have hk : X.env.scope.names.lookup ("word" : Str) = some NameKind.cell ∨ X.env.scope.names.lookup ("word" : Str) = some NameKind.free := hk
      rw [lw] at hk
      rcases hk with hk | hk <;> cases hk
  refine wpAny_execs_cons (wpAny_Return_some (wpAny_Tuple_spliced ?_))
  rw [h2]
  show wpAny _ _ (PySem.spliced ((false, _) :: backTo p5 [(false, _)])) _ _ _
  refine Calls.spliced_cons (wpAny_Call_Name_kw (ld_blt I hg hm boot_len ?_ (by decide) (by decide)))
  rw [h1]
  have hn63 := line63
  refine PySem.callWith_builtin1 (rd (PySem.P.len_str (by omega) ?_))
  refine Calls.spliced_cons (rd (Calls.spliced_nil ⟨by show 2 ≤ sizeLine; decide, _, rfl, _, _, rfl, fun b o e => Heap.get?_push_of_some _ e, ?_⟩))
  exact .tuple (as := [] ++ ([] ++ [])) (Heap.get?_push_size _ rfl) rfl rfl (.cons (.int _ _) (.cons (.str _ _) .nil))
/-- what is known of such a key -/
structure KeyF (P : Program) (w : World) (K : PySem.W.Frag) (mg : Str → Option Value) (base : Heap) (f : Addr) : Prop where
  turn : ∀ {A : Around} {outer : List Env} {s : Shared} {H : Hp} {z : Str} {t : Tok}, Room 2 A → Env0 P w K mg base A outer s H → z.length ≤ sizeLine → wpAny (model P w) A (call (.ref f) [.str z t]) (PySem.W.KeyPure (.tuple [.int z.length, .str z]) s) (fun _ _ => False) s
theorem key_turn {P : Program} {w : World} {K : PySem.W.Frag} {mg : Str → Option Value} {base : Heap} {x qual : Str} {st : Stmt} {f : Addr} {fd : FuncData} (F : Fun K x qual st f fd) (S : FnScope [("word" : Str)] [("word" : Str)] (defScope st))
    {p1 p2 p3 p4 p5 p6 : Pos} {kk : Nat} (hb : defBody st = [.Return (some (.Tuple [.Call (.Name "len" p1) [.Name "word" p2] [] p3, .Name "word" p4] kk p5)) p6]) (hl : mg "len" = none) (gl : ∀ n cdv, (PyProof.Rows.envOfC qual (defScope st) n f cdv).kindOf "len" = some NameKind.globalImplicit)
    (hbd : Binds K fd [("word" : Str)] []) (lw : (defScope st).names.lookup ("word" : Str) = some NameKind.local)
    (q1 : ∀ n cdv, starEach [Expr.Name "word" p2] (PyProof.Rows.envOfC qual (defScope st) n f cdv) = [(false, eval (.Name "word" p2) (PyProof.Rows.envOfC qual (defScope st) n f cdv))] := by intros; rfl)
    (q2 : ∀ n cdv, starEach [Expr.Call (.Name "len" p1) [.Name "word" p2] [] p3, .Name "word" p4] (PyProof.Rows.envOfC qual (defScope st) n f cdv) = [(false, eval (.Call (.Name "len" p1) [.Name "word" p2] [] p3) (PyProof.Rows.envOfC qual (defScope st) n f cdv)), (false, eval (.Name "word" p4) (PyProof.Rows.envOfC qual (defScope st) n f cdv))] := by intros; rfl) : KeyF P w K mg base f := by
  refine ⟨fun {A outer s H z t} hr e0 hz => ?_⟩
  have KX : K.In s.heap := e0.mod.kin.keeps fun b o e => (e0.bs b o e).1
  have bt := hbd s [.str z t] KX rfl
  obtain ⟨oc, od, kV, doc, pm, an, cdv, ct, osl, rfl, lk, hcd⟩ := F.ex
  have lim : s.heap.NoLimit := e0.mod.nolimit.keeps fun b o e => (e0.bs b o e).1
  refine wpAny_call (codeAny_call_function hr.depth (KX _ _ lk) rfl S.co S.gen rfl (PySem.W.codeRec_of KX hcd) (bt _ _ _ _ ?_))
  refine wpAny_newFunctionEnv_cells S.kind (fun y hy => .inl ?_) fun env he s1 x => ?_
  · rcases List.mem_cons.mp hy with h | h
    · rw [h]
      exact lw
    · exact absurd h (by simp)
  subst he
  refine ⟨lim.keeps x.toInCall.keep, codeAny_func ?_⟩
  have I : Inv (cxOf (L2.CX P w) P w K mg base [("word" : Str)] qual (defScope st) f cdv A outer s H (fun _ _ _ => True)) [] (L2.start [("word" : Str)] [V.str z]) H s1 := inv_start S hr.hd e0 rfl (.cons ⟨t, rfl⟩ .nil) x
  obtain ⟨h1, tk, rfl, hk⟩ := x.done
  have kb := key_body (E := fun _ _ => False) (p1 := p1) (p2 := p2) (p3 := p3) (p4 := p4) (p5 := p5) (p6 := p6) (kk := kk) I rfl rfl lw (gl _ _) hl hz (q1 _ _) (q2 _ _)
  rw [← hb] at kb
  refine wpAny_mono kb (fun fl s' ⟨u, hf, hp⟩ => ?_) fun e s' z => z.elim
  subst hf
  obtain ⟨h', tk', e1, e2, e3⟩ := hp
  exact ⟨h', tk', e1, fun b o q => e2 b o (hk b o q), e3⟩
def rSortKy (f : Addr) : List V → List V → Hp → VK → Prop := fun vs zs H Q => ∃ a xs, vs = [V.ref a] ∧ zs = [V.ref f] ∧ H a = some (.lst (xs.map V.str)) ∧ xs.length ≤ 1000000 ∧ (∀ x ∈ xs, x.length ≤ sizeLine) ∧ ∀ p, H p = none → Q (.ref p) (upd H p (.lst ((sortW xs).map V.str)))
theorem cr_sortedKy {f : Addr} (kf : KeyF X.prog X.w X.K X.mg X.base f) (hr : Room 4 X.A) : CallRK X (.builtin "sorted") [Str.ofString "key"] (rSortKy f) := by
  intro pins s σ H vs zs us ws Q I r rz h
  obtain ⟨a, xs, rfl, rfl, hs, hl, hx, q⟩ := h
  obtain rfl := Vals.ref1 r
  obtain rfl := Vals.ref1 rz
  obtain ⟨its, rv, pl, hz⟩ := I.list (.inl (.inl hs))
  have ev : PySem.W.EachIs (fun (v : Value) (b : Str) => ∃ t, v = .str b t) its xs := by
    clear hl hx q hs pl hz
    induction xs generalizing its with
    | nil =>
      cases rv
      exact .nil
    | cons x xs ih =>
      cases rv with
      | cons a b => exact .cons a (ih _ b)
  have hu := hr.un
  refine PySem.W.sorted_key_data (R := fun (v : Value) (b : Str) => ∃ t, v = .str b t) (b := false) (fun b : Str => .tuple [.int b.length, .str b]) pl.isList ev (alike_is (fun b : Str => (b.length : Int)) (fun b => b) xs) (PySem.W.Sortable.tuples fun _ => ⟨_, _, rfl⟩) (by rw [sizeLine_eq]; omega) (fun b _ => by rw [depth_is]; omega) (PyProof.Rows.ksk_s1 _ _) (fun _ => PyProof.Rows.ksk_l1 _ _) (fun _ => PyProof.Rows.ksk_t1 _ _)
    (fun v b ⟨t, hv⟩ hb h tk kp => ?_) fun out c h' tk kp hn hD ho eo => ?_
  · subst hv
    have I2 : Inv X pins σ H { s with heap := h, toks := tk } := I.kept (t' := tk) kp
    exact kf.turn (hr.in1.in1) I2.env0.in1.in1 (hx b hb)
  · rw [dataLe_W] at eo
    have rv' : Vals ((sortW xs).map V.str) out := by
      have key : ∀ {us : List Value} {bs : List Str}, PySem.W.EachIs (fun (v : Value) (b : Str) => ∃ t, v = .str b t) us bs → Vals (bs.map V.str) us := by
        intro us bs h
        induction h with
        | nil => exact .nil
        | cons a _ ih => exact .cons a ih
      exact key eo
    have hlen : ((sortW xs).map V.str).length ≤ sizeLine := by rw [rv'.length, ho, sizeLine_eq]; omega
    exact ⟨.ref _, upd H (s.heap.objs.size + 1) (.lst ((sortW xs).map V.str)), I.laid (t' := tk) kp (Nat.le_succ _) ⟨hlen, out, c, rv', hD⟩, rfl, q _ (I.hok.fresh (Nat.le_succ _))⟩
theorem pe_sortedK {f : Addr} {x : Str} {e : Expr} {ta : TE} {p p' kpos pos : Pos} (hr : Room 4 X.A) (kf : KeyF X.prog X.w X.K X.mg X.base f) (gx : X.mg x = some (.ref f)) (hm : X.mg "sorted" = none) (ha : PE X e ta) (hg : Gl X "sorted" := by rfl) (hgx : Gl X x := by rfl)
    (hdb : (x == ("__debug__" : Str)) = false := by decide) (hv : bootBuiltins "sorted" = some (.builtin "sorted") := by decide +kernel)
    (hs : starEach [e] X.env = (false, eval e X.env) :: starEach [] X.env := by rfl)
    (he : backTo pos (starEach [e] X.env) = (false, eval e X.env) :: backTo pos (starEach [] X.env) := by rfl) (hpl : (backTo pos (starEach [e] X.env)).any (·.1) = false := by rfl)
    (hall : (backToKw pos (keywordEach [⟨some "key", .Name x p', kpos⟩] X.env)).all (·.1.isSome) = true := by rfl) (hnone : (backToKw pos (keywordEach [⟨some "key", .Name x p', kpos⟩] X.env)).any (·.1.isNone) = false := by rfl) (hks : (backToKw pos (keywordEach [⟨some "key", .Name x p', kpos⟩] X.env)).filterMap (·.1) = [Str.ofString "key"] := by rfl) :
    PE X (.Call (.Name "sorted" p) [e] [⟨some "key", .Name x p', kpos⟩] pos) (tCKw (rSortKy f) (tCons ta tNil) (tCons (tC (.ref f)) tNil)) :=
  pe_callBK (cr_sortedKy kf hr) hg hm hv (pa_cons ha pa_nil hs) (pk_cons (pe_glob hgx gx rfl hdb) pk_nil) (by decide) (by decide) he hpl hall hnone hks
end
section
variable {B : Bs} {e : Ev1} {α β γ δ ρ : Type} [Enc α] [Enc β] [Enc γ] [Enc ρ] {te td ty ta tb : TE} {t1 : TA} {tt tu : TT} {E : En ρ}
theorem evl_sortedK {f : Addr} {xs : List Str} (h : EvD B ta e xs) (hl : xs.length ≤ 1000000) (hx : ∀ x ∈ xs, x.length ≤ 10000000) : EvL B (tCKw (rSortKy f) (tCons ta tNil) (tCons (tC (.ref f)) tNil)) e (· = sortW xs) := fun σ G H ok X Q q =>
  h σ G H ok X _ fun v y G1 H1 p ok1 s1 r1 => by
    subst p
    obtain ⟨a, us, rfl, h1, h2⟩ := r1
    have e1 := paired_strs h2
    subst e1
    have h3 : Paired (Enc.rep B.K G1) ((sortW y).map V.str) (sortW y) := by
      generalize sortW y = zs
      induction zs with
      | nil => exact .nil
      | cons z zs ih => exact .cons rfl ih
    exact ⟨a, y, rfl, rfl, ok1.gh _ _ h1, hl, fun x hx' => szl (hx x hx'), newL (P := (· = sortW y)) ok1 rfl h3 fun p us xs G' H' px ok' s' => q p us xs G' H' px ok' (s1.trans s')⟩
theorem prv_of {K : PySem.W.Frag} {G : Hp} : ∀ {ws : List V} {ks : List (Int × Str)}, Paired (Enc.rep K G) ws ks → Paired (PrV K G) ws ks := fun {ws ks} h => Paired.mapP h fun v x r => by
  obtain ⟨a, u, w, h1, h2, h3, h4⟩ := r
  have h3 : u = V.int _ := h3
  have h4 : w = V.str _ := h4
  subst h3
  subst h4
  exact ⟨a, h1, h2⟩
theorem of_prv {K : PySem.W.Frag} {G : Hp} : ∀ {ws : List V} {ks : List (Int × Str)}, Paired (PrV K G) ws ks → Paired (Enc.rep K G) ws ks := fun {ws ks} h => Paired.mapP h fun v x r => by
  obtain ⟨a, h1, h2⟩ := r
  exact ⟨a, _, _, h1, h2, rfl, rfl⟩
theorem evl_sortedP {xs : List (Int × Str)} (h : EvA B t1 e (· = [vs xs])) (hl : xs.length ≤ 1000000) : EvL B (tCB (rSortPr B.K) t1) e (· = sortP xs) := fun σ G H ok X Q q =>
  h σ G H ok X _ fun us ss G1 H1 p ok1 s1 r1 => by
    subst p
    cases r1 with
    | cons ra b =>
      cases b
      obtain ⟨a, ws, rfl, h1, h2⟩ := (show Enc.rep B.K G1 _ xs from ra)
      exact ⟨a, ws, xs, G1, rfl, .inl (.inl (ok1.gh _ _ h1)), ok1.gh, prv_of h2, hl, fun p ws' hp hw => newL (P := (· = sortP xs)) ok1 rfl (of_prv hw) (fun p us xs G' H' px ok' s' => q p us xs G' H' px ok' (s1.trans s')) p hp⟩
end
end Fw

namespace FwX
open PySem L2 PySem.W PySem.Spec PyProof.Rows NdefX

/-- what is known of an exception class with an own __init__ that calls super().__init__ -/
structure XcI (P : Program) (K : Frag) (C cc cda : Addr) (F : NF) : Prop where
  T : OexC K C
  cl : F.cl = [(("__class__" : Str), cc)]
  cell : ∃ c d sl, K.lookup cc = some ⟨c, d, .cell (some (.ref C)), sl⟩
  cde : F.c = cda
  code : ∃ c d vs sl file tf, K.lookup cda = some ⟨c, d, .fields vs, sl⟩ ∧ vs[2]? = some (.str file tf) ∧ ((P.main.file : Str) == file) = true
  clsd : ∃ cd, clsIn K C = some cd
  sub : mroIn K C (.ref C) = some true
  sup : ks_superIn K C C "__init__" = some (some (.builtin "ValueError.__init__"))
  isV : subIn K (.ref C) (.type "ValueError") = some true
  opq : nsIn K cStatics "thirdparty.any" = some none
  ini : excInitIn K C [.type "ValueError", .type "Exception", .type "BaseException", .type "object"] "ValueError.__new__" = true
  top : (P.main.scope.names.lookup ("super" : Str)).isSome = false

section
variable {P : Program} {w : World} {K : Frag} {mg : Str → Option Value} {base : Heap} {CXx : CXT} {k : Nat} {C cc cda f a : Addr} {F : NF} {ps : List Str} {E : Value → Shared → Prop}
/-- super().__init__(text), evaluated; nothing that is tracked is touched -/
theorem super_init {X : Cx} {pins : List (Addr × Obj)} {σ : L2.St} {H : Hp} {s : Shared} {L : Addr} {body : List Stmt} {p0 p1 p2 p3 p4 : Pos} {msg : Str} {j : Nat} {fd : FuncData} {ar : Arg} {of : Obj} {Q : Value → Shared → Prop}
    (I : L2.Inv X pins σ H s) (XI : XcI X.prog X.K C cc cda F) (henv : X.env = envX F.qual F.scope L f (.ref F.c) F.cl) (hf : s.heap.get? f = some of) (hfd : of.data = .func fd) (hp : (fd.params.posonlyargs ++ fd.params.args).head? = some ar)
    (hN : X.N[0]? = some ar.arg) (hσ : σ[0]? = some (some (.ref a))) (lw : F.scope.names.lookup ar.arg = some NameKind.local) (hks : F.scope.names.lookup ("super" : Str) = some .globalImplicit) (hkc : F.scope.names.lookup ("__class__" : Str) = some .free)
    (hk : F.scope.kind = .function) (hm : X.mg "super" = none) (ha : H a = some (exo a C none))
    {pl : Sem Bool} (he : eval (.Call (.Attribute (.Call (.Name "super" p0) [] [] p1) "__init__" p2) [.Constant (.str msg) j p3] [] p4) X.env = (do
      let ov ← attributeBase (.Call (.Name "super" p0) [] [] p1) "__init__" X.env (eval (.Call (.Name "super" p0) [] [] p1) X.env)
      standAt p2.atName
      let (f, first) ← holding [ov] (getMethod ov "__init__" pl)
      callWith p4 f first (backTo p4 (starEach [.Constant (.str msg) j p3] X.env)) []))
    (hst : starEach [.Constant (.str msg) j p3] X.env = [(false, eval (.Constant (.str msg) j p3) X.env)])
    (q : ∀ s', L2.Inv X pins σ H s' → Q .none s') :
    PySem.wpAt (model X.prog X.w) X.A (.func body X.env) (eval (.Call (.Attribute (.Call (.Name "super" p0) [] [] p1) "__init__" p2) [.Constant (.str msg) j p3] [] p4) X.env) Q E s := by
  have KX := I.kIn
  obtain ⟨m, hn, hl'⟩ := I.loc
  obtain ⟨u, ru, l⟩ := hl' 0 ar.arg (.ref a) hN hσ (.inl (by rw [henv]; exact lw))
  have ru : u = Value.ref a := ru
  subst ru
  obtain ⟨cd, hcd⟩ := XI.clsd
  obtain ⟨oc, odc, osl, hcell⟩ := XI.cell
  obtain ⟨ccl, cdd, cvs, csl, file, tf, hcda, hvs, hfile⟩ := XI.code
  obtain ⟨oD, hD1, hD2⟩ : ∃ oD, s.heap.get? C = some oD ∧ oD.data = .cls cd := by
    unfold clsIn at hcd
    split at hcd
    · rename_i c d cd' sl ho
      cases hcd
      exact ⟨_, KX _ _ ho, rfl⟩
    · cases hcd
  obtain ⟨t1, hx⟩ := exo_at I.hok ha
  have ek : X.env.kindOf "super" = some .globalImplicit := by rw [henv]; exact hks
  have ec : X.env.kindOf "__class__" = some .free := by rw [henv]; exact hkc
  have hcl : X.env.cells.lookup ("__class__" : Str) = some cc := by
    rw [henv]
    show F.cl.lookup _ = _
    rw [XI.cl]
    rfl
  refine ks_wpAt_MethodCall (ks_wpAt_super_base ek ec (by decide) (by rw [henv]) hf hfd hp (by rw [henv, XI.cde]) (KX _ _ hcda) rfl hvs hfile XI.top ?_) he
  have hkk : X.env.scope.kind = .function := by rw [henv]; exact hk
  obtain ⟨mb, b1, b2⟩ := I.mod.blt
  refine ks_loadName_global hkk ek (Calls.loadGlobal_builtin (by rw [I.ok.glob]; exact I.mod.glob.keeps I.bk) hm (by rw [I.ok.blt]; exact b1.keeps I.bk) ((b2 _ (by decide)).trans (show bootBuiltins "super" = some (.type "super") by decide +kernel)) ⟨rfl, ?_⟩)
  refine wpAny_loadName_free hkk ec hcl ⟨_, KX _ _ hcell, rfl⟩ ?_
  have rd : ∀ {Q' : Value → Shared → Prop}, Q' (.ref a) s → wpAny (model X.prog X.w) X.A (loadName X.env ar.arg) Q' E s := fun {Q'} qq => by
    rcases l with ⟨hk2, hm2⟩ | ⟨hk2, _⟩
    · exact wpAny_loadName_local hkk hk2 hn hm2 qq
    · exfalso
      have lw2 : X.env.scope.names.lookup ar.arg = some NameKind.local := by rw [henv]; exact lw
      have hk2 : X.env.scope.names.lookup ar.arg = some NameKind.cell ∨ X.env.scope.names.lookup ar.arg = some NameKind.free := hk2
      rw [lw2] at hk2
      rcases hk2 with hk2 | hk2 <;> cases hk2
  refine rd ?_
  obtain ⟨hh, g, d, t, os⟩ := s
  refine ks_wpAny_isType_cls hD1 hD2 ⟨rfl, ?_⟩
  refine ks_wpAny_call_super hD1 hD2 hx rfl (fun c e => by cases e) (looks_mroIn KX XI.sub) (fun h1 e1 k1 => ?_)
  have K1 : X.K.In h1 := KX.keeps k1
  have I1 : InstAt h1 a ({ cls := .ref C, dict := none, data := .fields #[.ref t1, .none, .none, .none, .bool false, .none] } : Obj) C none := ⟨k1 _ _ hx, rfl, rfl, trivial⟩
  have hm1 := XI.sup
  unfold ks_superIn at hm1
  rw [hcd] at hm1
  refine kxs_getMethod kxs_ValueError e1 (looks_opaque K1 XI.opq) (l₀ := cd.mro) (fun A Q E s k q => wpAny_bind ((looks_clsIn K1 hcd) A _ E s k (wpAny_pure q))) rfl K1 hm1 (I1.type.andThen (looks_subIn K1 XI.isV)) (ks_ne K1 I1 hcd) (by decide) ?_
  rw [hst]
  refine kxs_callWith (i := "ValueError.__init__") (x := a) rfl (Calls.evalArgs_plain ?_)
  show wpAny _ _ (PySem.spliced ((false, eval (.Constant (.str msg) j p3) X.env) :: backTo p4 [])) _ _ _
  refine Calls.spliced_cons (Calls.Constant_str (Calls.spliced_nil ?_))
  obtain ⟨nm, N', qn, bs, bm, hdct, sn, sub, ab, col, dd, k0, k2, k3, k4, k5, hC, hT⟩ := excInit_of K1 XI.ini
  have up : ∀ b o, h1.get? b = some o → (h1.push (kxs_mw "ValueError.__init__" a)).get? b = some o := fun b o e => Heap.get?_push_of_some _ e
  have hu : (h1.push (kxs_mw "ValueError.__init__" a)).get? h1.objs.size = some (kxs_mw "ValueError.__init__" a) := Heap.get?_push_at rfl rfl
  refine ⟨hu, ?_⟩
  show wpAny _ _ (call (.ref h1.objs.size) [.str msg _]) _ _ _
  refine wpAny_call (codeAny_of_tree ?_)
  show wpAny _ X.A.in1 (callAny (.ref h1.objs.size) ⟨[.str msg _], []⟩) _ _ _
  simp only [callAny]
  refine wpAny_bind (wpAny_load hu ?_)
  simp only [kxs_mw, show (Value.type "method-wrapper" == Value.type "method" || Value.type "method-wrapper" == Value.type "builtin_function_or_method" || Value.type "method-wrapper" == Value.type "method-wrapper") = true by decide, if_true]
  refine KFB.if_so (by decide) ?_
  refine wpAny_bind (check_bound_init PySem.F.excBase_ValueError.toExcCallFacts (up _ _ hC) (up _ _ (k1 _ _ hx)) rfl ?_)
  refine wpAny_bind (wpAny_pure (wpAny_pure ?_))
  refine ⟨plainId_quiet PySem.F.excBase_ValueError.init.plain _, codeAny_builtin PySem.F.excBase_ValueError.initEntry ?_⟩
  refine exc_init_tree (cls := .ref C) (t0 := t1) (dv := none) (c2 := .none) (c3 := .none) (b4 := .bool false) (up _ _ (k1 _ _ hx)) (by show 1 ≤ sizeLine; decide) (fun h' k' e' _ => ?_)
  have J0 : L2.Inv X pins σ H ⟨hh, g, d, t, os⟩ := I
  have J := I.write (t' := t + 1 + 1) (x := a) (e := a) (o := exo a C none) (h' := h') (by rw [ha]; exact True.intro) (.inl rfl) (fun b o hb e => k' b o hb (up _ _ (k1 _ _ e))) ⟨_, e'⟩ (exo_ok e')
  have eu : upd H a (exo a C none) = H := by
    funext b
    by_cases hb : b = a
    · rw [hb, upd_same, ha]
    · rw [upd_ne hb]
  rw [eu] at J
  exact q _ J
/-- the call super().__init__('..') of a text -/
abbrev supCall (p0 p1 p2 p3 p4 : Pos) (msg : Str) (j : Nat) : Expr := .Call (.Attribute (.Call (.Name "super" p0) [] [] p1) "__init__" p2) [.Constant (.str msg) j p3] [] p4
/-- what is seen of the text alone -/
structure SupTx (F : NF) (fI : Addr) (p0 p1 p2 p3 p4 p5 : Pos) (msg : Str) (j : Nat) (pl : Sem Bool) : Prop where
  he : ∀ L, eval (supCall p0 p1 p2 p3 p4 msg j) (envF F fI L) = (do
      let ov ← attributeBase (.Call (.Name "super" p0) [] [] p1) "__init__" (envF F fI L) (eval (.Call (.Name "super" p0) [] [] p1) (envF F fI L))
      standAt p2.atName
      let (f, first) ← holding [ov] (getMethod ov "__init__" pl)
      callWith p4 f first (backTo p4 (starEach [.Constant (.str msg) j p3] (envF F fI L))) [])
  st : ∀ L, starEach [.Constant (.str msg) j p3] (envF F fI L) = [(false, eval (.Constant (.str msg) j p3) (envF F fI L))]
  hi : ∀ L, interactive (envF F fI L) = false
  hs : ∀ L, swapsWith (supCall p0 p1 p2 p3 p4 msg j) none p5.line (envF F fI L) = pure false
theorem fn_exc {N : List Str} {sp : Sp} {fI : Addr} {oc doc pm ct : Value} {od : Option Addr} {osl : Array (Option Value)} {p0 p1 p2 p3 p4 p5 : Pos} {msg : Str} {j : Nat} {rest : List Stmt} {ar : Arg} {pl : Sem Bool}
    (lk : K.lookup fI = some ⟨oc, od, .func (F.fd doc pm ct), osl⟩) (hcd : codeIn K (.ref F.c) F.qual = true) (S : NScope N ps [("__class__" : Str)] F.scope) (XI : XcI P K C cc cda F)
    (hb : F.body = .Expr (supCall p0 p1 p2 p3 p4 msg j) p5 :: rest) (len : ∀ vs H Q E, sp vs H Q E → vs.length = ps.length) (hself : ∀ vs H Q E, sp vs H Q E → ∃ a r, vs = .ref a :: r ∧ H a = some (exo a C none))
    (hm : mg "super" = none) (hks : F.scope.names.lookup ("super" : Str) = some .globalImplicit) (hp : (F.params.posonlyargs ++ F.params.args).head? = some ar) (h0 : ps[0]? = some ar.arg) (tx : SupTx F fI p0 p1 p2 p3 p4 p5 msg j pl)
    (hbody : ∀ (A : Around) (outer : List Env) (s : Shared) (H : Hp) (vs : List V) (Q : VK) (E : XK), Room k (A.deeper (envF F fI s.heap.objs.size)) → sp vs H Q E →
      ∃ t, PSs (ncx CXx P w K mg base N F fI A outer s H E) rest t ∧ t { nx := fun _ H' => Q .non H', rt := Q } (startF N vs [some (.ref C)]) H) :
    FnOk P w K mg base CXx (k + 1) fI (F.fd doc pm ct) ps sp := by
  refine ⟨len, fun A outer s H args us vs Q E hr e0 hbt r hsp => ?_⟩
  have KX : K.In s.heap := e0.mod.kin.keeps fun b o e => (e0.bs b o e).1
  have hl := len _ _ _ _ hsp
  have lim : s.heap.NoLimit := e0.mod.nolimit.keeps fun b o e => (e0.bs b o e).1
  obtain ⟨cl, cld, csl, hcell⟩ := XI.cell
  have C0 : CellsAt F.cl [("__class__" : Str)] [some (.ref C)] s.heap H := by
    have hc0 := e0.bs cc _ (e0.mod.kin _ _ hcell)
    rw [XI.cl]
    refine ⟨rfl, fun y c e => ?_, fun x y c e1 e2 => ?_, fun i y hi => ?_⟩
    · have e' : c = cc := by
        have := PySem.mem_of_lookup e
        simp at this
        exact this.2
      subst e'
      exact ⟨hc0.2, _, ⟨_, hc0.1, rfl⟩⟩
    · have q1 := PySem.mem_of_lookup e1
      have q2 := PySem.mem_of_lookup e2
      simp at q1 q2
      rw [q1.1, q2.1]
    · cases i with
      | zero =>
        simp at hi
        subst hi
        exact ⟨cc, rfl, fun v hv => by
          simp at hv
          subst hv
          exact ⟨.ref C, rfl, ⟨_, hc0.1, rfl⟩⟩⟩
      | succ i => simp at hi
  refine ks_codeAny_call_defAt (fd := F.fd doc pm ct) (body := F.body) (binds := ps.zip us) hr.depth (KX _ _ lk) rfl lim (PySem.W.codeRec_of KX hcd) rfl hbt S.nocell (fun ⟨n, _⟩ hy => S.par n (List.of_mem_zip hy).1) (fun h₁ hns kp => ?_) S.co S.gen S.kind
  have I : L2.Inv (ncx CXx P w K mg base N F fI A outer s H E) [] (startF N vs [some (.ref C)]) H { s with heap := h₁, toks := s.toks + (ps.zip us).length } := inv_startN S hr.hd e0 hl r C0 hns kp
  obtain ⟨a, rv, ev, ha⟩ := hself _ _ _ _ hsp
  obtain ⟨t, ht, hq⟩ := hbody A outer s H vs Q E (hr.deeper _) hsp
  have hpl : ps.length ≤ N.length := by
    have q := congrArg List.length S.pre
    rw [List.length_take, List.length_append] at q
    omega
  have hps : 0 < ps.length := (List.getElem?_eq_some_iff.mp h0).1
  have hN : N[0]? = some ar.arg := by
    have q : (N.take (ps.length + [("__class__" : Str)].length))[0]? = some ar.arg := by
      rw [S.pre, List.getElem?_append_left hps]
      exact h0
    rw [List.getElem?_take_of_lt (by omega)] at q
    exact q
  have hσ : (startF N vs [some (.ref C)])[0]? = some (some (.ref a)) := by
    subst ev
    rfl
  rw [hb]
  refine ks_wpAt_execs_cons (ks_wpAt_Expr_any (super_init (X := ncx CXx P w K mg base N F fI A outer s H E) (f := fI) I XI rfl (kp _ _ (KX _ _ lk)) rfl hp hN hσ (S.par _ (List.mem_of_getElem? h0)) hks (S.frk _ (by simp)) S.kind hm ha (tx.he _) (tx.st _) (fun s' J => ?_)) (tx.hi _) (tx.hs _))
  refine PySem.wpAt_of_wpAny (wpAny_mono (ht.run [] s' (startF N vs [some (.ref C)]) H _ J hq) (fun fl s'' hs => ?_) fun e s' hs => hs)
  have fin : ∀ {σ' : L2.St} {H' : Hp} {v : V} {u : Value}, L2.Inv (ncx CXx P w K mg base N F fI A outer s H E) [] σ' H' s'' → L2.RelV v u → Q v H' → CE outer P w H s Q u s'' :=
    fun {σ' H' v u} J rv q => ⟨v, H', J.os, J.bare, J.base, J.hok, rv, q⟩
  cases fl with
  | ret u =>
    obtain ⟨v, σ', H', J, rv, q⟩ := hs
    exact fin J rv q
  | next =>
    obtain ⟨σ', H', J, q⟩ := hs
    exact fin (v := V.non) (u := Value.none) J rfl q
  | brk =>
    obtain ⟨_, _, _, q⟩ := hs
    exact False.elim q
  | cont =>
    obtain ⟨_, _, _, q⟩ := hs
    exact False.elim q
end
end FwX

namespace Fw
open PySem L2

/-! ### an exception with fields is made and raised -/
/-- what __init__(self, ..) of such a class promises: the fields, by their names -/
def spI (C : Addr) (names : List Str) : Sp := fun us H Q _ => ∃ a vals, us = .ref a :: vals ∧ vals.length = names.length ∧ H a = some (exo a C none) ∧
  ∀ dx H2, H dx = none → dx ≠ a → H2 a = some (exo a C (some dx)) → H2 dx = some (exd dx (names.zip vals).reverse) → (∀ b, b ≠ a → b ≠ dx → H2 b = H b) → Q .non H2
theorem spI_len {C : Addr} {names : List Str} {us : List V} {H : Hp} {Q : VK} {E : XK} (h : spI C names us H Q E) : us.length = names.length + 1 := by
  obtain ⟨a, vals, rfl, h, _⟩ := h
  rw [List.length_cons, h]
structure CalX (P : Program) (w : World) (K : PySem.W.Frag) (mg : Str → Option Value) (base : Heap) (k : Nat) (C : Addr) (x : Str) (names : List Str) : Prop where
  T : OexC K C
  ex : ∃ fI fd ps, PySem.W.findIn K (.ref C) "__init__" = some (some (.ref fI)) ∧ PySem.W.typeIn K (.ref fI) = some (.type "function") ∧ FnOk P w K mg base (L2N.CX P w) k fI fd ps (spI C names) ∧ Binds K fd ps []
  g : mg x = some (.ref C)
theorem ps_raiseF {X : Cx} {W : WX} {k : Nat} {x : Str} {C : Addr} {names : List Str} {e : Expr} {es : List Expr} {ta : TA} {p pos pos' : Pos} (h : CalX X.prog X.w X.K X.mg X.base k C x names) (hr : Room (k + 1) X.A) (tk : L2N.Takes X W) (ha : PA X (e :: es) ta) (hc : X.calm = true := by rfl) (hg : Gl X x := by rfl)
    (hdb : (x == ("__debug__" : Str)) = false := by decide) (he : starEach (e :: es) X.env = (false, eval e X.env) :: starEach es X.env := by rfl) (hpl : (backTo pos (starEach es X.env)).any (·.1) = false := by rfl) :
    PS X (.Raise (some (.Call (.Name x p) (e :: es) [] pos)) none pos') (fun _ σ H => tMkO C (spI C names) [] ta σ H fun cls d H' => W cls d σ H') := by
  obtain ⟨fI, fd, ps, h1, h2, F1, hb⟩ := h.ex
  exact L2N.ps_raise hc tk (pmkN_oex h.T h1 h2 F1 hr hb hg h.g ha hdb he hpl)
section
variable {B : Bs} {e : Ev1} {α β γ δ ρ : Type} [Enc α] [Enc β] [Enc γ] [Enc ρ] {te tl ta tb : TE} {t1 : TA} {tt tu : TT} {E : En ρ}
theorem zip_lookup {K : PySem.W.Frag} {G : Hp} : ∀ {names : List Str} {us : List V} {ss : List Slot} {f : Str} {s : Slot}, Reps K G us ss → (names.zip ss).lookup f = some s → ∃ v, (names.zip us).lookup f = some v ∧ s.rp K G v
  | [], _, _, _, _, _, h => by simp at h
  | _ :: _, _, _, _, _, .nil, h => by simp at h
  | n :: names, _, _, f, s, .cons (a := u) (b := t) a r, h => by
    rw [List.zip_cons_cons, List.lookup_cons] at h
    rw [List.zip_cons_cons, List.lookup_cons]
    cases e : (f == n) with
    | true =>
      rw [e] at h
      have h : t = s := Option.some.inj h
      subst h
      exact ⟨u, rfl, a⟩
    | false =>
      rw [e] at h
      exact zip_lookup r h
theorem rev_lookup : ∀ {l : List (Str × V)} {f : Str}, (l.map (·.1)).Nodup → l.reverse.lookup f = l.lookup f
  | [], _, _ => rfl
  | (n, u) :: l, f, nd => by
    rw [List.map_cons, List.nodup_cons] at nd
    rw [List.reverse_cons, List.lookup_append, rev_lookup nd.2, List.lookup_cons]
    cases e : (f == n) with
    | true =>
      have e' : f = n := by simpa using e
      subst e'
      have hn : l.lookup f = none := by
        cases q : l.lookup f with
        | none => rfl
        | some v => exact absurd (List.mem_map_of_mem (f := (·.1)) (PySem.mem_of_lookup q)) nd.1
      rw [hn]
      simp [List.lookup]
    | false =>
      have e2 : ((n, u) :: l).lookup f = l.lookup f := by rw [List.lookup_cons, e]
      rw [e2]
      cases l.lookup f <;> rfl
theorem zip_names : ∀ {names : List Str} {us : List V}, us.length = names.length → (names.zip us).map (·.1) = names
  | [], _, _ => by simp
  | _ :: _, [], h => by simp at h
  | n :: names, u :: us, h => by
    rw [List.zip_cons_cons, List.map_cons, zip_names (by simpa using h)]
theorem do_raiseF {C : Addr} {names : List Str} {ss : List Slot} (ha : EvA B t1 e (· = ss)) (hl : ss.length = names.length) (hn : names.Nodup) (hz : names.length ≤ 1000) (hx : B.xr (xdF C (names.zip ss)) e) :
    Do B (fun _ σ H => tMkO C (spI C names) [] t1 σ H fun cls d H' => B.W cls d σ H') e E := fun σ G H ok X D m =>
  ha σ G H ok X _ fun us ss' G1 H1 p ok1 s1 r1 => by
    subst p
    have hul : us.length = names.length := by rw [r1.length, hl]
    refine ⟨by omega, fun a h1a => ⟨a, us ++ [], rfl, by rw [List.append_nil, hul], upd_same, fun dx H2 hd ne h2a h2d hb => ?_⟩⟩
    rw [List.append_nil] at h2d
    have h1d : H1 dx = none := by
      rw [upd_ne ne] at hd
      exact hd
    refine ⟨rfl, dx, _, h2a, h2d, h1d, ?_⟩
    have eq : upd (del H2 a) dx (.xd (names.zip us).reverse) = upd H1 dx (.xd (names.zip us).reverse) := by
      funext b
      by_cases h1 : b = dx
      · subst h1
        rw [upd_same, upd_same]
      · rw [upd_ne h1, upd_ne h1]
        by_cases h2 : b = a
        · subst h2
          rw [del_same, h1a]
        · rw [del_ne h2, hb b h2 h1, upd_ne h2]
    rw [eq]
    have gd := ok1.gh.free h1d
    have sg : Same G1 (upd G1 dx (.xd (names.zip us).reverse)) := same_upd gd
    refine X (some dx) σ (upd G1 dx (.xd (names.zip us).reverse)) _ e (xdF C (names.zip ss')) hx (ok1.new h1d) (s1.trans sg) ⟨dx, _, rfl, upd_same, fun f s hs => ?_⟩
    obtain ⟨v, hv, rv⟩ := zip_lookup r1 hs
    exact ⟨v, by rw [rev_lookup (by rw [zip_names hul]; exact hn)]; exact hv, s.mono sg rv⟩
end

/-! ### try: .. except C as n: .. -/
/-- a caught exception as a value -/
structure Exn where
  a : Addr
  d : Option Addr
  x : XD
instance : Enc Exn where
  rep := fun K H v z => v = .ref z.a ∧ ∃ H0, Same H0 H ∧ z.x.rp K H0 z.d
  mono := fun e ⟨h1, H0, h2, h3⟩ => ⟨h1, H0, h2.trans e, h3⟩
section
variable {B : Bs} {e : Ev1} {α β γ δ ρ : Type} [Enc α] [Enc β] [Enc γ] [Enc ρ] {te tl ta tb : TE} {t1 : TA} {tt tu : TT} {E : En ρ}
theorem do_try_as {c : Value} {i : Nat} {ts : Addr → Value → Option Addr → TS} {tbody : WX → TS} {Wout : WX} (xr : XD → Ev1 → Prop) (hb : ∀ W, Do { B with W := W, xr := xr } (tbody W) e E)
    (hs : ∀ x e', xr x e' → ∃ b, PySem.W.exmOne B.K x.cls c = some b ∧
      (b = true → ∀ a d, Do B (ts a x.cls d) ⟨e'.sl.set i (va (Exn.mk a d x)), e'.cl⟩ { nx := fun e'' => E.nx ⟨e''.sl.set i none, e''.cl⟩, rt := E.rt, bk := fun e'' => E.bk ⟨e''.sl.set i none, e''.cl⟩, ct := fun e'' => E.ct ⟨e''.sl.set i none, e''.cl⟩ }) ∧
      (b = false → B.xr x e' ∧ Wout = B.W)) :
    Do B (fun D σ H => tbody (wAs B.K c i ts Wout D) D σ H) e E := fun σ G H ok X D m => by
  have ok' : Ok { B with W := wAs B.K c i ts Wout D, xr := xr } G H σ e := ⟨ok.g0, ok.gh, ok.fr, ok.al, ok.nw, ok.sr, ok.cr.nd, ok.cr.at_⟩
  have back : ∀ {G' H' : Hp} {σ' : L2.St} {e' : Ev1}, Ok { B with W := wAs B.K c i ts Wout D, xr := xr } G' H' σ' e' → Ok B G' H' σ' e' := fun {G' H' σ' e'} k => ⟨k.g0, k.gh, k.fr, k.al, k.nw, k.sr, k.cr.nd, k.cr.at_⟩
  refine hb (wAs B.K c i ts Wout D) σ G H ok' (fun d σ' G' H' e' x hx okx sx rx => ?_) D ⟨fun σ' G' H' e' h k s => m.nx σ' G' H' e' h (back k) s, fun v r σ' G' H' e' h k s rv => m.rt v r σ' G' H' e' h (back k) s rv, fun σ' G' H' e' h k s => m.bk σ' G' H' e' h (back k) s, fun σ' G' H' e' h k s => m.ct σ' G' H' e' h (back k) s⟩
  obtain ⟨b, h1, h2, h3⟩ := hs x e' hx
  refine ⟨b, h1, fun hb a ha => ?_, fun hb => ?_⟩
  · have k := (back okx).set i (v := .ref a) (s := vs (Exn.mk a d x)) ⟨rfl, G', Same.refl _, rx⟩
    exact h2 hb a d _ G' H' k (X.mono sx) _ ⟨fun σ5 G5 H5 e5 h5 k5 s5 => m.nx _ G5 H5 _ h5 (k5.setNo i none) (sx.trans s5), fun v5 r5 σ5 G5 H5 e5 h5 k5 s5 rv => m.rt v5 r5 σ5 G5 H5 e5 h5 k5 (sx.trans s5) rv,
      fun σ5 G5 H5 e5 h5 k5 s5 => m.bk _ G5 H5 _ h5 (k5.setNo i none) (sx.trans s5), fun σ5 G5 H5 e5 h5 k5 s5 => m.ct _ G5 H5 _ h5 (k5.setNo i none) (sx.trans s5)⟩
  · obtain ⟨hx', hw⟩ := h3 hb
    subst hw
    exact X d σ' G' H' e' x hx' (back okx) sx rx
/-- .. except C: .. -/
theorem do_try_only {c : Value} {ts : Addr → Value → Option Addr → TS} {tbody : WX → TS} {Wout : WX} (xr : XD → Ev1 → Prop) (hb : ∀ W, Do { B with W := W, xr := xr } (tbody W) e E)
    (hs : ∀ x e', xr x e' → ∃ b, PySem.W.exmOne B.K x.cls c = some b ∧ (b = true → ∀ a d, Do B (ts a x.cls d) e' E) ∧ (b = false → B.xr x e' ∧ Wout = B.W)) :
    Do B (fun D σ H => tbody (wOnly B.K c ts Wout D) D σ H) e E := fun σ G H ok X D m => by
  have ok' : Ok { B with W := wOnly B.K c ts Wout D, xr := xr } G H σ e := ⟨ok.g0, ok.gh, ok.fr, ok.al, ok.nw, ok.sr, ok.cr.nd, ok.cr.at_⟩
  have back : ∀ {G' H' : Hp} {σ' : L2.St} {e' : Ev1}, Ok { B with W := wOnly B.K c ts Wout D, xr := xr } G' H' σ' e' → Ok B G' H' σ' e' := fun {G' H' σ' e'} k => ⟨k.g0, k.gh, k.fr, k.al, k.nw, k.sr, k.cr.nd, k.cr.at_⟩
  refine hb (wOnly B.K c ts Wout D) σ G H ok' (fun d σ' G' H' e' x hx okx sx rx => ?_) D ⟨fun σ' G' H' e' h k s => m.nx σ' G' H' e' h (back k) s, fun v r σ' G' H' e' h k s rv => m.rt v r σ' G' H' e' h (back k) s rv, fun σ' G' H' e' h k s => m.bk σ' G' H' e' h (back k) s, fun σ' G' H' e' h k s => m.ct σ' G' H' e' h (back k) s⟩
  obtain ⟨b, h1, h2, h3⟩ := hs x e' hx
  refine ⟨b, h1, fun hb a ha => h2 hb a d σ' G' H' (back okx) (X.mono sx) D (m.mono sx), fun hb => ?_⟩
  obtain ⟨hx', hw⟩ := h3 hb
  subst hw
  exact X d σ' G' H' e' x hx' (back okx) sx rx
end

/-! ### isinstance(e, C), e.field -/
structure XkC (K : PySem.W.Frag) (D : Addr) : Prop where
  cl : (PySem.W.clsIn K D).isSome = true
  ga : PySem.W.findIn K (.ref D) "__getattribute__" = some (some (.builtin "BaseException.__getattribute__"))
  gg : PySem.W.findIn K (.ref D) "__getattr__" = some none
  sb : PySem.W.subIn K (.ref D) (.type "BaseException") = some true
  ca : PySem.W.findIn K (.ref D) "__class__" = some (some (.builtin "object.__class__"))
  cn : PySem.W.specialIn K (.builtin "object.__class__") "__get__" = some (some (.builtin "getset_descriptor.__get__"))
  ct : PySem.W.takesIn K (.builtin "object.__class__") = some true
  cm : PySem.W.mroIn K D (.type "object") = some true
  hd : PySem.W.hasDictIn K D = true
def DictOk (H : Hp) : Option Addr → Prop
  | none => True
  | some dd => ∃ fs, H dd = some (.xd fs)
def rIsX (K : PySem.W.Frag) (D a : Addr) (d : Option Addr) : List V → Hp → VK → Prop := fun xs H Q => ∃ (c : V) (cv : Value) (b : Bool), xs = [.ref a, c] ∧ (∀ u, RelV c u → u = cv) ∧ DictOk H d ∧ PySem.W.kitOne K (.ref D) cv = some b ∧ Q (.bl b) H
theorem call_isX {X : Cx} {a D : Addr} {d : Option Addr} {oe : Obj} {pn : List (Addr × Obj)} (C : XkC X.K D) (hz : Zc (.ref D) d oe) (hf : ∃ vs, oe.data = .fields vs) : CallR (X.suite a ((a, oe) :: pn)) (.builtin "isinstance") (rIsX X.K D a d) := by
  intro pins s σ H xs us Q I r h
  obtain ⟨c, cv, b, rfl, hcv, hdk, e, q⟩ := h
  cases r with
  | cons rx rr =>
    cases rr with
    | cons rt rr =>
      cases rr
      cases rx
      have ec := hcv _ rt
      subst ec
      obtain ⟨hget, _⟩ := I.pin (a, oe) (List.mem_append.mpr (.inl List.mem_cons_self))
      obtain ⟨vs, hv⟩ := hf
      have J : ∃ od, PySem.W.InstAt s.heap a oe D od := by
        cases d with
        | none =>
          refine ⟨none, ?_⟩
          obtain ⟨oc, od, oda, osl⟩ := oe
          obtain ⟨h1, h2⟩ := hz
          dsimp only at h1 h2 hv
          subst h1 h2 hv
          exact ⟨hget, rfl, rfl, trivial⟩
        | some dd =>
          obtain ⟨fs, ea⟩ := hdk
          have hx : ObjOk X.prog X.w H s.heap dd (.xd fs) := I.hok dd _ ea
          obtain ⟨mA, hns, hr⟩ := hx
          obtain ⟨od, ho, hl⟩ := lookIn_ns hns
          exact ⟨some od, hget, hz.1, by unfold PySem.W.notCls; rw [hv] <;> rfl, by rw [hz.2]; exact ho⟩
      obtain ⟨od, J⟩ := J
      exact PySem.W.kia_one (PySem.W.kitx_exc C.cl C.ga C.gg C.sb C.ca C.cn C.ct C.cm) I.kIn J e (fun z => nomatch z) fun tk => ⟨.bl b, H, I.kept (t' := tk) fun _ _ z => z, rfl, q⟩
section
variable {B : Bs} {e : Ev1} {α β γ δ ρ : Type} [Enc α] [Enc β] [Enc γ] [Enc ρ] {te tl ta tb : TE} {t1 : TA} {tt tu : TT} {E : En ρ}
theorem rp_dict {K : PySem.W.Frag} {H0 H : Hp} {C : Addr} {fs : List (Str × Slot)} {d : Option Addr} (s : Same H0 H) (h : (xdF C fs).rp K H0 d) : DictOk H d := by
  obtain ⟨dd, vs, rfl, h1, _⟩ := h
  exact ⟨vs, s _ _ h1⟩
/-- the class is written -/
theorem ev_isX {D C a : Addr} {d : Option Addr} {x : XD} {b : Bool} (h : EvD B te e (Exn.mk a d x)) (hk : PySem.W.kitOne B.K (.ref D) (.ref C) = some b) (hd : x = xdP D ∨ ∃ fs, x = xdF D fs) : EvD B (tCB (rIsX B.K D a d) (tCons te (tCons (tC (.ref C)) tNil))) e b := fun σ G H ok X Q q =>
  h σ G H ok X _ fun v y G1 H1 p ok1 s1 r1 => by
    subst p
    obtain ⟨e1, H0, s0, r0⟩ := r1
    have e1 : v = V.ref a := e1
    subst e1
    refine ⟨.ref C, .ref C, b, rfl, fun u hu => hu, ?_, hk, q _ b G1 H1 rfl ok1 s1 rfl⟩
    rcases hd with rfl | ⟨fs, rfl⟩
    · have r0 : d = none := r0
      subst r0
      trivial
    · exact rp_dict (s0.trans ok1.gh) r0
theorem ev_xf {D a : Addr} {d : Option Addr} {fs : List (Str × Slot)} {f : Str} {y : α} (h : EvD B te e (Exn.mk a d (xdF D fs))) (hf : fs.lookup f = some (vs y)) : EvD B (tXf a (.ref D) d D f te) e y := fun σ G H ok X Q q =>
  h σ G H ok X _ fun v z G1 H1 p ok1 s1 r1 => by
    subst p
    obtain ⟨e1, H0, s0, dd, ws, e2, h1, h2⟩ := r1
    have e1 : v = V.ref a := e1
    subst e1
    have e2 : d = some dd := e2
    subst e2
    obtain ⟨u, h3, h4⟩ := h2 f _ hf
    exact ⟨rfl, rfl, dd, ws, u, rfl, ok1.gh _ _ (s0 _ _ h1), h3, q u y G1 H1 rfl ok1 s1 (Enc.mono s0 h4)⟩
end
end Fw

namespace Fw
open PySem L2 NdefX
/-- self.n1 = n1 -/
theorem init_read1 {K : PySem.W.Frag} {C : Addr} {n1 : Str} {us : List V} {ws : List (Option V)} {H : Hp} {Q : VK} {E : XK} {N : List Str} (h : spI C [n1] us H Q E) (T : OexC K C) (f1 : PySem.W.findIn K (.ref C) n1 = some none) :
    tOst K n1 (tVar 0) (tVar 1) { nx := fun _ H' => Q .non H', rt := Q } (startF N us ws) H := by
  obtain ⟨a, vals, rfl, hl, ha, q⟩ := h
  match vals, hl with
  | [v1], _ =>
    refine ⟨v1, rfl, .ref a, rfl, a, C, rfl, T, f1, .inl ⟨ha, fun dx hd ne => ?_⟩⟩
    exact q dx _ hd ne (by rw [upd_same]) (by rw [upd_ne ne, upd_same]; rfl) fun b h1 h2 => by rw [upd_ne h1, upd_ne h2]
/-- self.n1 = n1; self.n2 = n2 -/
theorem init_read2 {K : PySem.W.Frag} {C : Addr} {n1 n2 : Str} {us : List V} {ws : List (Option V)} {H : Hp} {Q : VK} {E : XK} {N : List Str} (h : spI C [n1, n2] us H Q E) (T : OexC K C) (f1 : PySem.W.findIn K (.ref C) n1 = some none) (f2 : PySem.W.findIn K (.ref C) n2 = some none) :
    tSeq (tOst K n1 (tVar 0) (tVar 1)) (tOst K n2 (tVar 0) (tVar 2)) { nx := fun _ H' => Q .non H', rt := Q } (startF N us ws) H := by
  obtain ⟨a, vals, rfl, hl, ha, q⟩ := h
  match vals, hl with
  | [v1, v2], _ =>
    refine ⟨v1, rfl, .ref a, rfl, a, C, rfl, T, f1, .inl ⟨ha, fun dx hd ne => ?_⟩⟩
    have e1 : (upd (upd H dx (exd dx [(n1, v1)])) a (exo a C (some dx))) dx = some (exd dx [(n1, v1)]) := by rw [upd_ne ne, upd_same]
    refine ⟨v2, rfl, .ref a, rfl, a, C, rfl, T, f2, .inr ⟨dx, [(n1, v1)], by rw [upd_same], e1, by show 1 ≤ 900; omega, ?_⟩⟩
    exact q dx _ hd ne (by rw [upd_ne (Ne.symm ne), upd_same]) (by rw [upd_same]; rfl) fun b h1 h2 => by rw [upd_ne h2, upd_ne h1, upd_ne h2]
end Fw

namespace Fw
open PySem L2
/-- fewer slots are told -/
def WkL : List (Option Slot) → List (Option Slot) → Prop
  | [], [] => True
  | a :: r, b :: r' => (b = none ∨ a = b) ∧ WkL r r'
  | _, _ => False
theorem WkL.len : ∀ {l l' : List (Option Slot)}, WkL l l' → l'.length = l.length
  | [], [], _ => rfl
  | _ :: _, _ :: _, h => by rw [List.length_cons, List.length_cons, WkL.len h.2]
  | [], _ :: _, h => h.elim
  | _ :: _, [], h => h.elim
theorem WkL.get : ∀ {l l' : List (Option Slot)}, WkL l l' → ∀ (i : Nat) (s : Slot), l'[i]? = some (some s) → l[i]? = some (some s)
  | [], [], _, _, _, h => by simp at h
  | a :: r, b :: r', ⟨h, t⟩, 0, s, e => by
    simp at e ⊢
    rcases h with h | h
    · rw [h] at e; cases e
    · rw [h]; exact e
  | a :: r, b :: r', ⟨h, t⟩, i + 1, s, e => by
    simp at e ⊢
    exact WkL.get t i s e
  | [], _ :: _, h, _, _, _ => h.elim
  | _ :: _, [], h, _, _, _ => h.elim
theorem WkL.refl : ∀ l : List (Option Slot), WkL l l
  | [] => trivial
  | _ :: r => ⟨.inr rfl, WkL.refl r⟩
def Wk (e e0 : Ev1) : Prop := WkL e.sl e0.sl ∧ e0.cl.Sublist e.cl
section
variable {B : Bs} {e : Ev1} {α β γ ρ : Type} [Enc α] [Enc β] [Enc γ] [Enc ρ] {te tl ta : TE} {tt c : TT} {t u tb : TS} {E : En ρ} {wi : TI} {g : TG} {js : List Nat} {f : α → List (Option Slot) → List (Option Slot)} {xs : List α}
theorem Ok.wk {G H : Hp} {σ : L2.St} {e e0 : Ev1} (ok : Ok B G H σ e) (h : Wk e e0) : Ok B G H σ e0 := by
  obtain ⟨h1, h2⟩ := h
  have k := ok.weak (sl := e0.sl) (WkL.len h1) (WkL.get h1)
  exact ⟨k.g0, k.gh, k.fr, k.al, k.nw, k.sr, List.Nodup.sublist (h2.map _) k.cr.nd, fun p hp => k.cr.at_ p (h2.mem hp)⟩
theorem do_wk {e0 : Ev1} (h : Wk e e0) (d : Do B t e0 E) : Do B t e E := fun σ G H ok X D m => d σ G H (ok.wk h) X D m
/-- what is walked is known by a word alone -/
def EvIN (B : Bs) (wi : TI) (e : Ev1) {α : Type} [Enc α] (P : List α → Prop) : Prop :=
  ∀ σ G H, Ok B G H σ e → XOk B G → ∀ R : It → Hp → Prop, (∀ J xs G' H', P xs → Ok B G' H' σ e → Same G G' → Gives B.K G' J xs → R J H') → wi σ H R
theorem do_forN {P : List α → Prop} (hi : EvIN B wi e P) (hg : EvG B g js f) (Inv : List α → List α → Ev1 → Prop) (h0 : ∀ xs, P xs → ∃ e0, Wk e e0 ∧ Inv xs [] e0)
    (hs : ∀ xs, P xs → ∀ pre x post e', xs = pre ++ x :: post → Inv xs pre e' → Do B tb ⟨f x e'.sl, e'.cl⟩ { nx := fun e1 => ∃ e0, Wk e1 e0 ∧ Inv xs (pre ++ [x]) e0, rt := E.rt, bk := E.nx, ct := fun e1 => ∃ e0, Wk e1 e0 ∧ Inv xs (pre ++ [x]) e0 })
    (hd : ∀ xs, P xs → ∀ e', Inv xs xs e' → E.nx e') : Do B (tFor wi g tb) e E := fun σ G H ok X D m =>
  hi σ G H ok X _ fun J xs G1 H1 px ok1 s1 gv => by
    obtain ⟨ei, wki, invi⟩ := h0 xs px
    refine ⟨fun i n σ H => ∃ G e', n = xs.length - i ∧ i ≤ xs.length ∧ Ok B G H σ e' ∧ Same G1 G ∧ Inv xs (xs.take i) e', ⟨xs.length, G1, ei, by simp, Nat.zero_le _, ok1.wk wki, Same.refl _, by rw [List.take_zero]; exact invi⟩, ?_⟩
    rintro i n σ2 H2 ⟨G2, e2, rfl, hi2, ok2, s2, inv⟩
    obtain ⟨g1, g2, g3⟩ := gv H2 (s2.trans ok2.gh) i
    by_cases hlt : i < xs.length
    · refine .inr ⟨g1 hlt, fun σ H => ∃ G e', Ok B G H σ e' ∧ Same G1 G ∧ Inv xs (xs.take (i + 1)) e', fun σ' H' ⟨G', e', k1, k2, k3⟩ => ⟨xs.length - (i + 1), by omega, G', e', rfl, hlt, k1, k2, k3⟩, fun v H' hy => ?_⟩
      have hx : xs[i]? = some xs[i] := List.getElem?_eq_getElem hlt
      have split : xs = xs.take i ++ xs[i] :: xs.drop (i + 1) := by rw [← List.drop_eq_getElem_cons hlt, List.take_append_drop]
      have tk1 : xs.take (i + 1) = xs.take i ++ [xs[i]] := by rw [List.take_add_one, hx]; rfl
      have fin : ∀ G3, Ok B G3 H' σ2 e2 → Same G1 G3 → Same G2 G3 → Enc.rep B.K G3 v xs[i] → g v σ2 H' fun σ3 H3 => tb { D with nx := fun σ H => ∃ G e', Ok B G H σ e' ∧ Same G1 G ∧ Inv xs (xs.take (i + 1)) e', ct := fun σ H => ∃ G e', Ok B G H σ e' ∧ Same G1 G ∧ Inv xs (xs.take (i + 1)) e', bk := D.nx } σ3 H3 := fun G3 ok3 s13 s23 r3 =>
        hg σ2 G3 H' e2 ok3 v _ r3 _ fun σ3 ok4 _ => by
          refine hs xs px (xs.take i) xs[i] (xs.drop (i + 1)) e2 split inv σ3 G3 H' ok4 (X.mono (s1.trans s13)) _ ⟨fun σ5 G5 H5 e5 ⟨e0, w5, h5⟩ ok5 s5 => ⟨G5, e0, ok5.wk w5, s13.trans s5, by rw [tk1]; exact h5⟩, fun v5 r5 σ5 G5 H5 e5 h5 ok5 s5 => m.rt v5 r5 σ5 G5 H5 e5 h5 ok5 ((s1.trans s13).trans s5),
            fun σ5 G5 H5 e5 h5 ok5 s5 => m.nx σ5 G5 H5 e5 h5 ok5 ((s1.trans s13).trans s5), fun σ5 G5 H5 e5 ⟨e0, w5, h5⟩ ok5 s5 => ⟨G5, e0, ok5.wk w5, s13.trans s5, by rw [tk1]; exact h5⟩⟩
      rcases g3 _ v H' hx hy with ⟨rfl, r⟩ | ⟨T, o, hT, rfl, r⟩
      · exact fin G2 ok2 s2 (Same.refl _) (Enc.mono s2 r)
      · have gT : G2 T = none := ok2.gh.free hT
        exact fin (upd G2 T o) (ok2.new hT) (s2.trans (same_upd gT)) (same_upd gT) (Enc.mono (same_upd2 s2) r)
    · have e3 : i = xs.length := by omega
      subst e3
      rw [List.take_length] at inv
      exact .inl ⟨g2 (Nat.le_refl _), m.nx σ2 G2 H2 e2 (hd xs px e2 inv) ok2 (s1.trans s2)⟩
theorem do_forW (hi : EvI B wi e xs) (hg : EvG B g js f) (Inv : List α → Ev1 → Prop) (h0 : ∃ e0, Wk e e0 ∧ Inv [] e0)
    (hs : ∀ pre x post e', xs = pre ++ x :: post → Inv pre e' → Do B tb ⟨f x e'.sl, e'.cl⟩ { nx := fun e1 => ∃ e0, Wk e1 e0 ∧ Inv (pre ++ [x]) e0, rt := E.rt, bk := E.nx, ct := fun e1 => ∃ e0, Wk e1 e0 ∧ Inv (pre ++ [x]) e0 })
    (hd : ∀ e', Inv xs e' → E.nx e') : Do B (tFor wi g tb) e E :=
  do_forN (P := (· = xs)) (fun σ G H ok X R q => hi σ G H ok X R fun J G' H' ok' s' gv => q J xs G' H' rfl ok' s' gv) hg (fun _ => Inv) (fun _ _ => h0) (fun ys hy pre x post e' he hv => hs pre x post e' (hy ▸ he) hv) fun ys hy e' hv => hd e' (hy ▸ hv)
theorem do_whileW {c : TT} {tb : TS} {ι : Type} (st : ι → Ev1) (word : ι → Prop) (meas : ι → Nat) (i0 : ι) (h0 : word i0) (he : Wk e (st i0))
    (hs : ∀ i, word i → ∃ b, EvTD B c (st i) b ∧ (b = true → Do B tb (st i) { nx := fun e' => ∃ i', word i' ∧ meas i' < meas i ∧ Wk e' (st i'), rt := E.rt, bk := E.nx, ct := fun e' => ∃ i', word i' ∧ meas i' < meas i ∧ Wk e' (st i') }) ∧ (b = false → E.nx (st i))) :
    Do B (tWhile c tb) e E := fun σ G H ok X D m => by
  refine ⟨fun n σ H => ∃ G' i, n = meas i ∧ word i ∧ Ok B G' H σ (st i) ∧ Same G G', ⟨meas i0, G, i0, rfl, h0, ok.wk he, Same.refl _⟩, ?_⟩
  rintro n σ2 H2 ⟨G2, i, rfl, hw, ok2, s2⟩
  obtain ⟨b, ev, h1, h2⟩ := hs i hw
  refine ev σ2 G2 H2 ok2 (X.mono s2) _ fun b' G3 H3 pb ok3 s3 => ?_
  subst pb
  cases b' with
  | false => exact iteF (m.nx σ2 G3 H3 _ (h2 rfl) ok3 (s2.trans s3))
  | true =>
    refine iteT ⟨fun σ H => ∃ G' i', word i' ∧ meas i' < meas i ∧ Ok B G' H σ (st i') ∧ Same G G', fun σ' H' ⟨G', i', a1, a2, a3, a4⟩ => ⟨meas i', a2, G', i', rfl, a1, a3, a4⟩, ?_⟩
    exact h1 rfl σ2 G3 H3 ok3 (X.mono (s2.trans s3)) _ ⟨fun σ5 G5 H5 e5 ⟨i', k1, k2, k3⟩ ok5 s5 => ⟨G5, i', k1, k2, ok5.wk k3, (s2.trans s3).trans s5⟩, fun v5 r5 σ5 G5 H5 e5 h5 ok5 s5 => m.rt v5 r5 σ5 G5 H5 e5 h5 ok5 ((s2.trans s3).trans s5),
      fun σ5 G5 H5 e5 h5 ok5 s5 => m.nx σ5 G5 H5 e5 h5 ok5 ((s2.trans s3).trans s5), fun σ5 G5 H5 e5 ⟨i', k1, k2, k3⟩ ok5 s5 => ⟨G5, i', k1, k2, ok5.wk k3, (s2.trans s3).trans s5⟩⟩
end
end Fw

namespace Fw
open PySem L2
section
variable {B : Bs} {e : Ev1} {α β γ ρ : Type} [Enc α] [Enc β] [Enc γ] [Enc ρ] {te tl ta : TE} {tt tu : TT} {t u tb : TS} {E : En ρ}
/-- a test: what is known where it holds, what where it fails -/
def EvTX (B : Bs) (tt : TT) (e : Ev1) (Pt Pf : Prop) : Prop := EvT B tt e (fun b => (b = true → Pt) ∧ (b = false → Pf))
theorem etx_leaf {P : Bool → Prop} {Pt Pf : Prop} (h : EvT B tt e P) (h1 : P true → Pt) (h2 : P false → Pf) : EvTX B tt e Pt Pf := h.mono fun b p => ⟨fun q => h1 (q ▸ p), fun q => h2 (q ▸ p)⟩
theorem etx_or {Pt Pf Qt Qf : Prop} (h1 : EvTX B tt e Pt Pf) (h2 : Pf → EvTX B tu e Qt Qf) : EvTX B (tOr tt tu) e (Pt ∨ Qt) (Pf ∧ Qf) :=
  et_or h1 (fun p => h2 (p.2 rfl)) (fun p => ⟨fun _ => .inl (p.1 rfl), fun q => absurd q.symm Bool.false_ne_true⟩) fun p b q => ⟨fun hb => .inr (q.1 hb), fun hb => ⟨p.2 rfl, q.2 hb⟩⟩
theorem etx_and {Pt Pf Qt Qf : Prop} (h1 : EvTX B tt e Pt Pf) (h2 : Pt → EvTX B tu e Qt Qf) : EvTX B (tAnd tt tu) e (Pt ∧ Qt) (Pf ∨ Qf) :=
  et_and h1 (fun p => h2 (p.1 rfl)) (fun p => ⟨fun q => absurd q Bool.false_ne_true, fun _ => .inl (p.2 rfl)⟩) fun p b q => ⟨fun hb => ⟨p.1 rfl, q.1 hb⟩, fun hb => .inr (q.2 hb)⟩
theorem etx_not {Pt Pf : Prop} (h : EvTX B tt e Pt Pf) : EvTX B (tNot tt) e Pf Pt := (et_not h).mono fun b p => ⟨fun q => p.2 (by rw [q]; rfl), fun q => p.1 (by rw [q]; rfl)⟩
theorem do_ifX {Pt Pf : Prop} (h : EvTX B tt e Pt Pf) (h1 : Pt → Do B t e E) (h2 : Pf → Do B u e E) : Do B (tIfS tt t u) e E := do_if h (fun p => h1 (p.1 rfl)) fun p => h2 (p.2 rfl)

/-- a word between two statements -/
theorem do_seqJ (M : Ev1 → Prop) (h : Do B t e { E with nx := fun e1 => ∃ e0, Wk e1 e0 ∧ M e0 }) (k : ∀ e0, M e0 → Do B u e0 E) : Do B (tSeq t u) e E :=
  do_seq (h.mono (fun _ ⟨e0, w, m⟩ => do_wk w (k e0 m)) (fun _ _ q => q) (fun _ q => q) (fun _ q => q))

/-! ### a text's sign at any place -/
def ixAny (n : Nat) (i : Int) : Nat := if 0 ≤ i then i.toNat else (i + n).toNat
theorem ixN_any {n : Nat} {i : Int} (h : -(n : Int) ≤ i ∧ i < n) : ixN n i = some (ixAny n i) := by
  unfold ixAny
  by_cases h0 : 0 ≤ i
  · rw [if_pos h0]
    exact ixN_nn h0 h.2
  · rw [if_neg h0]
    exact ixN_ng (by omega) h.1
theorem r2_ixSg {z : Str} {i : Int} (hz : z.length ≤ 10000000) (h : -(z.length : Int) ≤ i ∧ i < z.length) : R2V B e rIxS z i (· = sgnAt z (ixAny z.length i)) := r2_ixS hz (ixN_any h)

/-! ### [e for x in xs for y in ys] -/
variable {wi wi1 : TI} {g g1 : TG} {js js1 : List Nat} {f : α → List (Option Slot) → List (Option Slot)} {f1 : β → List (Option Slot) → List (Option Slot)} {xs : List α}
theorem sub_mem {vs1 ws : List Nat} (h : ∀ j ∈ vs1, j ∈ ws) : ∀ j ∈ vs1, j ∈ ws := h
theorem evl_lc2D {ws vs1 : List Nat} {ys : α → List β} {h : α → β → γ} (hi : EvI B wi e xs) (hg : EvG B g js f) (hj : ∀ j ∈ js, j ∈ ws) (hv : ∀ j ∈ vs1, j ∈ ws) (hg1 : EvG B g1 js1 f1) (hj1 : ∀ j ∈ js1, j ∈ vs1)
    (hl : ∀ n, n ≤ xs.length → ((xs.take n).flatMap fun x => (ys x).map (h x)).length ≤ 1000000) (hl1 : ∀ x ∈ xs, (ys x).length ≤ 1000000)
    (hi1 : ∀ pre x post, xs = pre ++ x :: post → ∀ dc, EvI B wi1 ⟨f x (wipeE e.sl ws), e.cl ++ [dc]⟩ (ys x))
    (he : ∀ pre x post, xs = pre ++ x :: post → ∀ pre1 y post1, ys x = pre1 ++ y :: post1 → ∀ dc, EvD B te ⟨f1 y (wipeE (f x (wipeE e.sl ws)) vs1), e.cl ++ [dc]⟩ (h x y)) :
    EvL B (tLc2 wi g tYes wi1 g1 tYes te ws vs1) e (· = xs.flatMap fun x => (ys x).map (h x)) := fun σ G H ok X Q q =>
  hi σ G H ok X _ fun J G1 H1 ok1 s1 gv => fun D hD => by
    have ak : ∀ {G H : Hp} {zs : List γ}, Ok B G H σ ⟨e.sl, e.cl ++ [(D, ownL zs)]⟩ → (⟨e.sl, e.cl ++ [(D, ownL zs)]⟩ : Ev1).cl[e.cl.length]? = some (D, ownL zs) := fun _ => by
      show (e.cl ++ [(D, ownL _)])[e.cl.length]? = _
      rw [List.getElem?_append_right (Nat.le_refl _), Nat.sub_self]
      rfl
    refine ⟨fun i n H => ∃ G2, n = xs.length - i ∧ i ≤ xs.length ∧ Ok B G2 H σ ⟨e.sl, e.cl ++ [(D, ownL ((xs.take i).flatMap fun x => (ys x).map (h x)))]⟩ ∧ B.H0 D = none ∧ Same G1 G2, ⟨xs.length, G1, by simp, Nat.zero_le _, ?_, ok1.al D hD, Same.refl _⟩, ?_⟩
    · exact (ok1.newH hD).addEnd (ok1.gh.free hD) upd_same (ok1.al D hD) (fun c hc => by
        obtain ⟨_, _, o', h3, _⟩ := ok1.cr.at_ c hc
        exact ne_of_none h3 hD) rfl ⟨[], rfl, .nil⟩
    rintro i n H2 ⟨G2, rfl, hi2, ok2, hD0, s2⟩
    obtain ⟨g1', g2', g3'⟩ := gv H2 (s2.trans ok2.gh) i
    by_cases hlt : i < xs.length
    · refine .inr ⟨g1' hlt, fun H => ∃ G2, Ok B G2 H σ ⟨e.sl, e.cl ++ [(D, ownL ((xs.take (i + 1)).flatMap fun x => (ys x).map (h x)))]⟩ ∧ Same G1 G2, fun H' ⟨G', k1, k2⟩ => ⟨xs.length - (i + 1), by omega, G', rfl, hlt, k1, hD0, k2⟩, fun v H' hyl => ?_⟩
      have hx : xs[i]? = some xs[i] := List.getElem?_eq_getElem hlt
      have split : xs = xs.take i ++ xs[i] :: xs.drop (i + 1) := by rw [← List.drop_eq_getElem_cons hlt, List.take_append_drop]
      have tk1 : (xs.take (i + 1)).flatMap (fun x => (ys x).map (h x)) = (xs.take i).flatMap (fun x => (ys x).map (h x)) ++ (ys xs[i]).map (h xs[i]) := by
        rw [List.take_add_one, hx, List.flatMap_append]
        show _ ++ (([xs[i]] : List α).flatMap _) = _
        rw [List.flatMap_cons, List.flatMap_nil, List.append_nil]
      have fin : ∀ G3, Ok B G3 H' σ ⟨e.sl, e.cl ++ [(D, ownL ((xs.take i).flatMap fun x => (ys x).map (h x)))]⟩ → Same G1 G3 → Enc.rep B.K G3 v xs[i] → g v (wipe σ ws) H' fun σ2 H2 => wipe σ2 ws = wipe σ ws ∧ tYes σ2 H2 fun b H3 =>
          if b = true then wi1 σ2 H3 fun J1 H4 => ∃ W1 : Nat → Nat → Hp → Prop, (∃ m, W1 0 m H4) ∧ ∀ j k H, W1 j k H →
            (J1.stop j H ∧ (∃ G2, Ok B G2 H σ ⟨e.sl, e.cl ++ [(D, ownL ((xs.take (i + 1)).flatMap fun x => (ys x).map (h x)))]⟩ ∧ Same G1 G2)) ∨ (J1.go j H ∧ ∃ Nx1 : Hp → Prop, (∀ H', Nx1 H' → ∃ k', k' < k ∧ W1 (j + 1) k' H') ∧ ∀ x H', J1.yld j H x H' → g1 x (wipe σ2 vs1) H' fun σ3 H5 => wipe σ3 vs1 = wipe σ2 vs1 ∧ tYes σ3 H5 fun b H6 =>
              if b = true then te σ3 H6 fun y H7 => ∃ acc, H7 D = some (.lst acc) ∧ acc.length < sizeLine ∧ Nx1 (upd H7 D (.lst (acc ++ [y]))) else Nx1 H6)
          else (∃ G2, Ok B G2 H3 σ ⟨e.sl, e.cl ++ [(D, ownL ((xs.take (i + 1)).flatMap fun x => (ys x).map (h x)))]⟩ ∧ Same G1 G2) := fun G3 ok3 s13 r3 => by
        have ok3w : Ok B G3 H' (wipe σ ws) ⟨wipeE e.sl ws, e.cl ++ [(D, ownL ((xs.take i).flatMap fun x => (ys x).map (h x)))]⟩ := ⟨ok3.g0, ok3.gh, ok3.fr, ok3.al, ok3.nw, sr_wipe ok3.sr ws, ok3.cr⟩
        refine hg (wipe σ ws) G3 H' _ ok3w v _ r3 _ fun σ3 ok4 hw => ⟨by rw [hw ws hj, wipe_idem ws ws fun _ h => h], ?_⟩
        unfold tYes
        show (if true = true then _ else _)
        rw [if_pos rfl]
        refine hi1 _ _ _ split (D, ownL ((xs.take i).flatMap fun x => (ys x).map (h x))) σ3 G3 H' ok4 (X.mono (s1.trans s13)) _ fun J1 G4 H4 ok5 s4 gv1 => ?_
        have back : ∀ {G5 H5 : Hp} {σ' : L2.St} {sl : List (Option Slot)} {cl : List (Addr × Cell)}, Ok B G5 H5 σ' ⟨sl, cl⟩ → Same G3 G5 → Ok B G5 H5 σ ⟨e.sl, cl⟩ := fun {G5 H5 σ' sl cl} k s5 => ⟨k.g0, k.gh, k.fr, k.al, k.nw, ok3.sr.mono s5, k.cr⟩
        refine ⟨fun j k H => ∃ G5, k = (ys xs[i]).length - j ∧ j ≤ (ys xs[i]).length ∧ Ok B G5 H σ3 ⟨f xs[i] (wipeE e.sl ws), e.cl ++ [(D, ownL (((xs.take i).flatMap fun x => (ys x).map (h x)) ++ ((ys xs[i]).take j).map (h xs[i])))]⟩ ∧ Same G4 G5, ⟨(ys xs[i]).length, G4, by simp, Nat.zero_le _, by simpa using ok5, Same.refl _⟩, ?_⟩
        rintro j k H6 ⟨G5, rfl, hj2, ok6, s5⟩
        obtain ⟨k1, k2, k3⟩ := gv1 H6 (s5.trans ok6.gh) j
        by_cases hlt1 : j < (ys xs[i]).length
        · refine .inr ⟨k1 hlt1, fun H => ∃ G5, Ok B G5 H σ3 ⟨f xs[i] (wipeE e.sl ws), e.cl ++ [(D, ownL (((xs.take i).flatMap fun x => (ys x).map (h x)) ++ ((ys xs[i]).take (j + 1)).map (h xs[i])))]⟩ ∧ Same G4 G5, fun H' ⟨G', a1, a2⟩ => ⟨(ys xs[i]).length - (j + 1), by omega, G', rfl, hlt1, a1, a2⟩, fun v7 H7 hy7 => ?_⟩
          have hx1 : (ys xs[i])[j]? = some (ys xs[i])[j] := List.getElem?_eq_getElem hlt1
          have split1 : ys xs[i] = (ys xs[i]).take j ++ (ys xs[i])[j] :: (ys xs[i]).drop (j + 1) := by rw [← List.drop_eq_getElem_cons hlt1, List.take_append_drop]
          have tk2 : ((ys xs[i]).take (j + 1)).map (h xs[i]) = ((ys xs[i]).take j).map (h xs[i]) ++ [h xs[i] (ys xs[i])[j]] := by
            rw [List.take_add_one, hx1, List.map_append]
            rfl
          have fin1 : ∀ G8, Ok B G8 H7 σ3 ⟨f xs[i] (wipeE e.sl ws), e.cl ++ [(D, ownL (((xs.take i).flatMap fun x => (ys x).map (h x)) ++ ((ys xs[i]).take j).map (h xs[i])))]⟩ → Same G4 G8 → Enc.rep B.K G8 v7 (ys xs[i])[j] →
              g1 v7 (wipe σ3 vs1) H7 fun σ4 H5 => wipe σ4 vs1 = wipe σ3 vs1 ∧ tYes σ4 H5 fun b H6 => if b = true then te σ4 H6 fun y H7 => ∃ acc, H7 D = some (.lst acc) ∧ acc.length < sizeLine ∧ (∃ G5, Ok B G5 (upd H7 D (.lst (acc ++ [y]))) σ3 ⟨f xs[i] (wipeE e.sl ws), e.cl ++ [(D, ownL (((xs.take i).flatMap fun x => (ys x).map (h x)) ++ ((ys xs[i]).take (j + 1)).map (h xs[i])))]⟩ ∧ Same G4 G5)
                else (∃ G5, Ok B G5 H6 σ3 ⟨f xs[i] (wipeE e.sl ws), e.cl ++ [(D, ownL (((xs.take i).flatMap fun x => (ys x).map (h x)) ++ ((ys xs[i]).take (j + 1)).map (h xs[i])))]⟩ ∧ Same G4 G5) := fun G8 ok8 s8 r8 => by
            have ok8w : Ok B G8 H7 (wipe σ3 vs1) ⟨wipeE (f xs[i] (wipeE e.sl ws)) vs1, e.cl ++ [(D, ownL (((xs.take i).flatMap fun x => (ys x).map (h x)) ++ ((ys xs[i]).take j).map (h xs[i])))]⟩ := ⟨ok8.g0, ok8.gh, ok8.fr, ok8.al, ok8.nw, sr_wipe ok8.sr vs1, ok8.cr⟩
            refine hg1 (wipe σ3 vs1) G8 H7 _ ok8w v7 _ r8 _ fun σ4 ok9 hw9 => ⟨by rw [hw9 vs1 hj1, wipe_idem vs1 vs1 fun _ h => h], ?_⟩
            unfold tYes
            show (if true = true then _ else _)
            rw [if_pos rfl]
            refine he _ _ _ split _ _ _ split1 (D, ownL (((xs.take i).flatMap fun x => (ys x).map (h x)) ++ ((ys xs[i]).take j).map (h xs[i]))) σ4 G8 H7 ok9 (X.mono (((s1.trans s13).trans s4).trans s8)) _ fun y z Ga Ha pz oka sa ra => ?_
            subst pz
            have ka : Ok B Ga Ha σ3 ⟨f xs[i] (wipeE e.sl ws), e.cl ++ [(D, ownL (((xs.take i).flatMap fun x => (ys x).map (h x)) ++ ((ys xs[i]).take j).map (h xs[i])))]⟩ := ⟨oka.g0, oka.gh, oka.fr, oka.al, oka.nw, ok8.sr.mono sa, oka.cr⟩
            have hcl : (⟨f xs[i] (wipeE e.sl ws), e.cl ++ [(D, ownL (((xs.take i).flatMap fun x => (ys x).map (h x)) ++ ((ys xs[i]).take j).map (h xs[i])))]⟩ : Ev1).cl[e.cl.length]? = some (D, ownL (((xs.take i).flatMap fun x => (ys x).map (h x)) ++ ((ys xs[i]).take j).map (h xs[i]))) := by
              show (e.cl ++ [(D, ownL _)])[e.cl.length]? = _
              rw [List.getElem?_append_right (Nat.le_refl _), Nat.sub_self]
              rfl
            obtain ⟨_, _, o, ho, acc, rfl, hacc⟩ := ka.cell hcl
            refine ⟨acc, ho, ?_, Ga, ?_, s8.trans sa⟩
            · rw [hacc.length, sizeLine_eq, List.length_append, List.length_map, List.length_take]
              have b1 := hl i (by omega)
              have b2 := hl1 xs[i] (List.getElem_mem hlt)
              omega
            · have w := ka.write (c' := ownL ((((xs.take i).flatMap fun x => (ys x).map (h x)) ++ ((ys xs[i]).take j).map (h xs[i])) ++ [h xs[i] (ys xs[i])[j]])) hcl rfl ⟨acc ++ [y], rfl, hacc.snoc ra⟩
              have e9 : ∀ c c' : Addr × Cell, (e.cl ++ [c]).set e.cl.length c' = e.cl ++ [c'] := fun c c' => by
                rw [List.set_append_right _ _ (Nat.le_refl _), Nat.sub_self]
                rfl
              rw [tk2, ← List.append_assoc]
              have w' := w
              unfold Ev1.cl at w'
              rw [e9] at w'
              exact w'
          rcases k3 _ v7 H7 hx1 hy7 with ⟨rfl, r⟩ | ⟨T, o, hT, rfl, r⟩
          · exact fin1 G5 ok6 s5 (Enc.mono s5 r)
          · have gT : G5 T = none := ok6.gh.free hT
            exact fin1 (upd G5 T o) (ok6.new hT) (s5.trans (same_upd gT)) (Enc.mono (same_upd2 s5) r)
        · have e3 : j = (ys xs[i]).length := by omega
          subst e3
          rw [List.take_length, ← tk1] at ok6
          exact .inl ⟨k2 (Nat.le_refl _), G5, back ok6 (s4.trans s5), (s13.trans s4).trans s5⟩
      rcases g3' _ v H' hx hyl with ⟨rfl, r⟩ | ⟨T, o, hT, rfl, r⟩
      · exact fin G2 ok2 s2 (Enc.mono s2 r)
      · have gT : G2 T = none := ok2.gh.free hT
        exact fin (upd G2 T o) (ok2.new hT) (s2.trans (same_upd gT)) (Enc.mono (same_upd2 s2) r)
    · have e3 : i = xs.length := by omega
      subst e3
      rw [List.take_length] at ok2
      obtain ⟨gD, _, o, ho, acc, rfl, hacc⟩ := ok2.cell (ak ok2)
      exact .inl ⟨g2' (Nat.le_refl _), q D acc _ G2 H2 rfl ok2.dropEnd (s1.trans s2) ⟨_, ho, rfl⟩ gD hD0 ok2.endNe hacc⟩
end
end Fw

namespace Fw
open PySem L2
/-- isinstance(e, c), e the caught exception, its class cls -/
def rIsC (K : PySem.W.Frag) (a : Addr) (cls : Value) (d : Option Addr) : List V → Hp → VK → Prop := fun xs H Q => ∃ D, cls = .ref D ∧ XkC K D ∧ rIsX K D a d xs H Q
theorem call_isC {X : Cx} {a : Addr} {cls : Value} {d : Option Addr} {oe : Obj} {pn : List (Addr × Obj)} (hz : Zc cls d oe) (hf : ∃ vs, oe.data = .fields vs) : CallR (X.suite a ((a, oe) :: pn)) (.builtin "isinstance") (rIsC X.K a cls d) := by
  intro pins s σ H xs us Q I r h
  obtain ⟨D, rfl, C, h⟩ := h
  exact call_isX C hz hf pins s σ H xs us Q I r h
section
variable {B : Bs} {e : Ev1} {α : Type} [Enc α] {te : TE}
theorem ev_isC {D C a : Addr} {d : Option Addr} {x : XD} {b : Bool} (xk : XkC B.K D) (h : EvD B te e (Exn.mk a d x)) (hk : PySem.W.kitOne B.K (.ref D) (.ref C) = some b) (hd : x = xdP D ∨ ∃ fs, x = xdF D fs) : EvD B (tCB (rIsC B.K a x.cls d) (tCons te (tCons (tC (.ref C)) tNil))) e b := fun σ G H ok X Q q => by
  have e1 : x.cls = .ref D := by
    rcases hd with rfl | ⟨fs, rfl⟩ <;> rfl
  rw [e1]
  refine h σ G H ok X _ fun v z G1 H1 p ok1 s1 r1 => ?_
  have := ev_isX (B := B) (e := e) (te := te) (C := C) h hk hd
  subst p
  obtain ⟨e2, H0, s0, r0⟩ := r1
  have e2 : v = V.ref a := e2
  subst e2
  refine ⟨D, rfl, xk, .ref C, .ref C, b, rfl, fun u hu => hu, ?_, hk, q _ b G1 H1 rfl ok1 s1 rfl⟩
  rcases hd with rfl | ⟨fs, rfl⟩
  · have r0 : d = none := r0
    subst r0
    trivial
  · exact rp_dict (s0.trans ok1.gh) r0
theorem ev_xfC {D a : Addr} {d : Option Addr} {x : XD} {fs : List (Str × Slot)} {f : Str} {y : α} (hx : x = xdF D fs) (h : EvD B te e (Exn.mk a d x)) (hf : fs.lookup f = some (vs y)) : EvD B (tXf a x.cls d D f te) e y := by
  subst hx
  exact ev_xf h hf
end

/-! ### try .. except as one word, so that the body's tree can be read off -/
def tTryAs (K : PySem.W.Frag) (c : Value) (i : Nat) (ts : Addr → Value → Option Addr → TS) (Wout : WX) (tb : WX → TS) : TS := fun D σ H => tb (wAs K c i ts Wout D) D σ H
def tTryMany (K : PySem.W.Frag) (l : List (Value × (Addr → Value → Option Addr → TS))) (Wout : WX) (tb : WX → TS) : TS := fun D σ H => tb (wMany K Wout D l) D σ H
section
variable {X : Cx} {x n : Str} {c : Value} {i : Nat} {body suite : List Stmt} {b₀ : Stmt} {np pos pos' : Pos} {tb : WX → TS} {ts : Addr → Value → Option Addr → TS} {Wout : WX}
theorem ps_tryA (hs : X.stack = X.env :: X.outer) (hf : X.env.frame = some X.env.locals) (hN : X.N.Nodup) (hi : X.N[i]? = some n) (hln : X.env.kindOf n = some .local) (hc : Names X x c) (tk : L2N.Takes X Wout)
    (hb : ∀ (W : WX) (pn : List (Addr × Obj)) (xe : Value → Shared → Prop), L2N.Takes (X.tr pn xe) W → PassesOwn (model X.prog X.w) X.A X.env xe → PSs (X.tr pn xe) body (tb W))
    (hu : ∀ (a : Addr) (oe : Obj) (cls : Value) (d : Option Addr) (pn : List (Addr × Obj)), L2N.Zn cls d oe → (∃ vs, oe.data = .fields vs) → PSs (X.suite a ((a, oe) :: pn)) (b₀ :: suite) (ts a cls d)) :
    PS X (.Try body [.ExceptHandler (some (.Name x np)) (some n) (b₀ :: suite) pos'] [] [] pos) (tTryAs X.K c i ts Wout tb) := L2N.ps_try_as hs hf hN hi hln hc tk hb hu
/-- one clause, its exception not named -/
theorem ps_tryO (hs : X.stack = X.env :: X.outer) (hf : X.env.frame = some X.env.locals) (hc : Names X x c) (tk : L2N.Takes X Wout)
    (hb : ∀ (W : WX) (pn : List (Addr × Obj)) (xe : Value → Shared → Prop), L2N.Takes (X.tr pn xe) W → PassesOwn (model X.prog X.w) X.A X.env xe → PSs (X.tr pn xe) body (tb W))
    (hu : ∀ (a : Addr) (oe : Obj) (cls : Value) (d : Option Addr) (pn : List (Addr × Obj)), L2N.Zn cls d oe → (∃ vs, oe.data = .fields vs) → PSs (X.suite a ((a, oe) :: pn)) (b₀ :: suite) (ts a cls d)) :
    PS X (.Try body [.ExceptHandler (some (.Name x np)) none (b₀ :: suite) pos'] [] [] pos) (tTryMany X.K [(c, ts)] Wout tb) := L2N.ps_try_many hs hf tk hb (.cons hc hu .nil)
end
section
variable {B : Bs} {e : Ev1} {ρ : Type} [Enc ρ] {E : En ρ}
theorem do_tryA {c : Value} {i : Nat} {ts : Addr → Value → Option Addr → TS} {tb : WX → TS} {Wout : WX} (xr : XD → Ev1 → Prop) (hb : ∀ W, Do { B with W := W, xr := xr } (tb W) e E)
    (hs : ∀ x e', xr x e' → ∃ b, PySem.W.exmOne B.K x.cls c = some b ∧
      (b = true → ∀ a d, Do B (ts a x.cls d) ⟨e'.sl.set i (va (Exn.mk a d x)), e'.cl⟩ { nx := fun e'' => E.nx ⟨e''.sl.set i none, e''.cl⟩, rt := E.rt, bk := fun e'' => E.bk ⟨e''.sl.set i none, e''.cl⟩, ct := fun e'' => E.ct ⟨e''.sl.set i none, e''.cl⟩ }) ∧
      (b = false → B.xr x e' ∧ Wout = B.W)) : Do B (tTryAs B.K c i ts Wout tb) e E := do_try_as (tbody := tb) xr hb hs
theorem do_tryO {c : Value} {ts : Addr → Value → Option Addr → TS} {tb : WX → TS} {Wout : WX} (xr : XD → Ev1 → Prop) (hb : ∀ W, Do { B with W := W, xr := xr } (tb W) e E)
    (hs : ∀ x e', xr x e' → ∃ b, PySem.W.exmOne B.K x.cls c = some b ∧ (b = true → ∀ a d, Do B (ts a x.cls d) e' E) ∧ (b = false → B.xr x e' ∧ Wout = B.W)) : Do B (tTryMany B.K [(c, ts)] Wout tb) e E := do_try_only (tbody := tb) xr hb hs
end
end Fw

namespace Fw
open PySem L2
/-! ### the law's script: a list that the code only reads (it may stand frozen, or in the written part) -/
structure Scr (α : Type) where
  l : List α
theorem same_l {K : PySem.W.Frag} {H H' : Hp} {a : Addr} {xs : List V} (e : Same H H') (h : SqL K H a xs) : SqL K H' a xs := by
  rcases h with (h | ⟨o, h⟩) | h
  · exact .inl (.inl (e _ _ h))
  · exact .inl (.inr ⟨o, e _ _ h⟩)
  · exact .inr h
instance {α : Type} [Enc α] : Enc (Scr α) where
  rep := fun K H v xs => ∃ a vs, v = .ref a ∧ SqL K H a vs ∧ Paired (Enc.rep K H) vs xs.l
  mono := fun e ⟨a, vs, h1, h2, h3⟩ => ⟨a, vs, h1, same_l e h2, paired_mono e h3⟩
section
variable {B : Bs} {e : Ev1} {α : Type} [Enc α] {tl : TE}
theorem ei_scr {xs : Scr α} (h : EvD B tl e xs) : EvI B (iList B.K tl) e xs.l := fun σ G H ok X R q =>
  h σ G H ok X _ fun v y G1 H1 p ok1 s1 r1 => by
    subst p
    obtain ⟨a, us, rfl, h1, h2⟩ := r1
    refine ⟨a, rfl, ⟨us, same_l ok1.gh h1⟩, q _ G1 H1 ok1 s1 fun H2 s2 i => ?_⟩
    have hs : SqL B.K H2 a us := same_l s2 h1
    have hl := h2.length
    refine ⟨fun hi => ⟨us, us[i]'(by omega), hs, List.getElem?_eq_getElem (by omega)⟩, fun hi => ⟨us, hs, by omega⟩, fun y v H' hy hv => ?_⟩
    obtain ⟨rfl, hv⟩ := hv
    exact .inl ⟨rfl, paired_ix h2 (hv us hs) hy⟩
end
theorem ints_paired {K : PySem.W.Frag} {H : Hp} : ∀ ns : List Int, Paired (Enc.rep K H) (ns.map V.int) ns
  | [] => .nil
  | _ :: ns => .cons rfl (ints_paired ns)
/-- a call with the script alone, ahead of any cell -/
theorem Call.scr {K : PySem.W.Frag} {H : Hp} {a : Addr} {ns : List Int} {post : Bool → Prop} (hp : ∀ b, post b → b = true) (h : SqL K H a (ns.map V.int)) :
    Call K [vs (Scr.mk ns)] [] (fun (r : Bool) c => c = [] ∧ post r) (fun x c => c = [] ∧ False) [.ref a] H (fun v _ => v = .bl true) fun _ _ _ => False := by
  refine ⟨H, Same.refl H, .cons ⟨a, ns.map V.int, rfl, h, ints_paired ns⟩ .nil, List.nodup_nil, fun _ hc => (nomatch hc), fun v r cl' G' H' ⟨_, hr⟩ _ rv => ?_, fun d x cl' G' H' hx _ _ => hx.2⟩
  have e := hp r hr
  subst e
  exact rv
end Fw

namespace Fw
open PySem L2

/-! ### objects of a class: made by __init__, never changed behind it -/
/-- the instance of C at v has the attributes names (in the order in which they were stored), told by ss -/
def obRep (C : Addr) (names : List Str) (ss : List Slot) (K : PySem.W.Frag) (H : Hp) (v : V) : Prop := ∃ a dx us, v = .ref a ∧ H a = some (.ins C dx (names.zip us)) ∧ us.length = names.length ∧ Reps K H us ss
theorem obRep_mono {C : Addr} {names : List Str} {ss : List Slot} {K : PySem.W.Frag} {H H' : Hp} {v : V} (e : Same H H') : obRep C names ss K H v → obRep C names ss K H' v := fun ⟨a, dx, us, h1, h2, h3, h4⟩ => ⟨a, dx, us, h1, e _ _ h2, h3, reps_mono e h4⟩
class EncOb (γ : Type) (C : outParam Addr) (names : outParam (List Str)) extends Enc γ where
  sls : γ → List Slot
  repO : ∀ {K : PySem.W.Frag} {H : Hp} {v : V} {x : γ}, rep K H v x ↔ obRep C names (sls x) K H v
/-- the object while it is made -/
def insC (lc : Bool) (C : Addr) (names : List Str) (ss : List Slot) : Cell := ⟨lc, fun K G o => ∃ dx us, o = .ins C dx (names.zip us) ∧ us.length = names.length ∧ Reps K G us ss, fun e ⟨dx, us, h1, h2, h3⟩ => ⟨dx, us, h1, h2, reps_mono e h3⟩⟩
theorem putF_new {f : Str} {v : V} : ∀ {fs : List (Str × V)}, f ∉ fs.map (·.1) → putF f v fs = fs ++ [(f, v)]
  | [], _ => rfl
  | (g, x) :: r, h => by
    have h1 : ¬ g = f := fun e => h (by rw [e]; exact List.mem_cons_self)
    show (if g = f then _ else (g, x) :: putF f v r) = _
    rw [if_neg h1, putF_new fun m => h (List.mem_cons_of_mem _ m)]
    rfl
theorem zip_snoc {names : List Str} {us : List V} {f : Str} {v : V} (h : us.length = names.length) : (names ++ [f]).zip (us ++ [v]) = names.zip us ++ [(f, v)] := by
  rw [List.zip_append h.symm]
  rfl
theorem reps_snoc {K : PySem.W.Frag} {G : Hp} {us : List V} {ss : List Slot} {u : V} {s : Slot} (h : Reps K G us ss) (r : s.rp K G u) : Reps K G (us ++ [u]) (ss ++ [s]) := by
  induction h with
  | nil => exact .cons r .nil
  | cons a _ ih => exact .cons a ih
section
variable {B : Bs} {e : Ev1} {α β γ ρ : Type} [Enc α] [Enc β] [Enc ρ] {te tl ta tv : TE} {t : TA} {E : En ρ}
/-- self.f = value, in __init__ -/
theorem do_fld {k : Nat} {p : Addr} {lc : Bool} {C : Addr} {names : List Str} {ss : List Slot} {f : Str} {P : α → Prop} (hc : e.cl[k]? = some (p, insC lc C names ss)) (c : Cls B.K C) (n : NoAttr B.K C f) (hf : f ∉ names) (hl : names.length < 1000)
    (hv : Ev B tv e P) (ha : EvD B ta e (Adr.mk p)) (q : ∀ y, P y → E.nx ⟨e.sl, e.cl.set k (p, insC lc C (names ++ [f]) (ss ++ [vs y]))⟩) : Do B (sFld B.K ta tv f) e E := fun σ G H ok X D m =>
  hv σ G H ok X _ fun y x G1 H1 py ok1 s1 r1 => ha σ G1 H1 ok1 (X.mono s1) _ fun v2 x2 G2 H2 p2 ok2 s2 r2 => by
    subst p2
    have r2 : v2 = V.ref p := r2
    subst r2
    obtain ⟨_, _, o, h3, dx, us, rfl, hu, hr⟩ := ok2.cell hc
    have hn : f ∉ (names.zip us).map (·.1) := by rw [zip_names hu]; exact hf
    refine ⟨p, C, dx, names.zip us, rfl, h3, c, n, by rw [List.length_zip, hu, Nat.min_self]; exact hl, ?_⟩
    rw [putF_new hn, ← zip_snoc hu]
    exact m.nx σ G2 _ _ (q x py) (ok2.write (c' := insC lc C (names ++ [f]) (ss ++ [vs x])) hc rfl ⟨dx, us ++ [y], rfl, by rw [List.length_append, List.length_append, hu]; rfl, reps_snoc hr (Enc.mono s2 r1)⟩) (s1.trans s2)
/-- an attribute -/
theorem ev_fld {C : Addr} {names : List Str} [EncOb γ C names] {x : γ} {f : Str} {y : α} (h : EvD B ta e x) (c : Cls B.K C) (n : NoAttr B.K C f) (hf : (names.zip (EncOb.sls x)).lookup f = some (vs y)) : EvD B (tFld B.K ta f) e y := fun σ G H ok X Q q =>
  h σ G H ok X _ fun v z G1 H1 p ok1 s1 r1 => by
    subst p
    obtain ⟨a, dx, us, rfl, h2, h3, h4⟩ := EncOb.repO.mp r1
    obtain ⟨w, hw, rw'⟩ := zip_lookup h4 hf
    exact ⟨a, C, dx, names.zip us, w, rfl, ok1.gh _ _ h2, c, n, hw, q w y G1 H1 rfl ok1 s1 rw'⟩
/-- isinstance(x, C) -/
theorem ev_isI {C : Addr} {names : List Str} [EncOb γ C names] {x : γ} {te : TE} (h : EvD B te e x) : EvD B (tCB (fun xs H Q => ∃ a dx fs, xs = [.ref a, .ref C] ∧ H a = some (.ins C dx fs) ∧ Q (.bl true) H) (tCons te (tCons (tC (.ref C)) tNil))) e true := fun σ G H ok X Q q =>
  h σ G H ok X _ fun v z G1 H1 p ok1 s1 r1 => by
    subst p
    obtain ⟨a, dx, us, rfl, h2, _, _⟩ := EncOb.repO.mp r1
    exact ⟨a, dx, _, rfl, ok1.gh _ _ h2, q _ true G1 H1 rfl ok1 s1 rfl⟩
end

/-! ### C(..) -/
def tMakeS (C : Addr) (sp : Sp) (E : St → XK) (t : TA) : TE := fun σ H Q => t σ H fun vs H1 => ∀ x dx, H1 x = none → H1 dx = none → dx ≠ x → sp (.ref x :: vs) (upd (upd H1 dx (.own x)) x (.ins C dx [])) (fun v H2 => v = .non ∧ Q (.ref x) H2) (E σ)
structure Mkr (P : Program) (w : World) (K : PySem.W.Frag) (mg : Str → Option Value) (base : Heap) (k : Nat) (C : Addr) (x : Str) (ps : List Str) (sp : Sp) : Prop where
  ex : ∃ f fd, Mk K C f ∧ FnOk P w K mg base (L2N.CX P w) k f fd ps sp ∧ Binds K fd ps []
  g : mg x = some (.ref C)
section
variable {X : Cx} {k : Nat} {f C : Addr} {fd : FuncData} {ps : List Str} {sp : Sp} {E : St → XK} {x m : Str} {p pos apos : Pos} {e o : Expr} {es : List Expr} {ta : TE} {t : TA}
theorem run_makeS {pins : List (Addr × Obj)} {σ : St} {H : Hp} {s : Shared} {Q : VK} {us : List Value} {vs : List V} (M : Mk X.K C f) (F : FnOk X.prog X.w X.K X.mg X.base (L2N.CX X.prog X.w) k f fd ps sp) (hr : Room (k + 1) X.A) (hb : Binds X.K fd ps [])
    (hx : PassesAt (L2N.CX X.prog X.w) X σ (E σ)) (I : Inv X pins σ H s) (r : Vals vs us)
    (h : ∀ x dx, H x = none → H dx = none → dx ≠ x → sp (.ref x :: vs) (upd (upd H dx (.own x)) x (.ins C dx [])) (fun v H2 => v = .non ∧ Q (.ref x) H2) (E σ)) :
    wpAny (model X.prog X.w) X.A (call (.ref C) us) (EP X pins σ Q) X.xe s := by
  have hq := h (s.heap.objs.size + 1) s.heap.objs.size (I.hok.fresh (Nat.le_succ _)) (I.hok.fresh (Nat.le_refl _)) (Nat.ne_of_lt (Nat.lt_succ_self _))
  have I2 := Inv.made (C := C) I
  have r2 : Vals (V.ref (s.heap.objs.size + 1) :: vs) (Value.ref (s.heap.objs.size + 1) :: us) := .cons rfl r
  have hl : (Value.ref (s.heap.objs.size + 1) :: us).length = ps.length := by
    have e := r2.length
    rw [F.len _ _ _ _ hq] at e
    exact e.symm
  have b := hb _ (Value.ref (s.heap.objs.size + 1) :: us) I2.kIn (by rw [List.append_nil]; exact hl)
  rw [List.append_nil] at b
  refine wpAny_call (make_map (f := f) I.kIn M.makes M.init (beq_iff_eq.mp M.fn) (codeAny_mono (F.run _ X.stack _ _ ⟨Value.ref (s.heap.objs.size + 1) :: us, []⟩ (Value.ref (s.heap.objs.size + 1) :: us) _ _ (E σ) (hr.make C us [])
    (I2.env0.make C us []) b r2 hq) fun r s' hq' => ?_))
  cases r with
  | error e => exact hx pins _ _ e s' I2 hq'
  | ok fl =>
    cases fl with
    | ret u =>
      obtain ⟨v, H', I3, rv, ev, q3⟩ := I2.after hq'
      subst ev
      exact ⟨rv, ⟨V.ref (s.heap.objs.size + 1), H', I3, rfl, q3⟩⟩
    | next => exact False.elim hq'
    | brk => exact False.elim hq'
    | cont => exact False.elim hq'
theorem pe_mkr {W : WX} (c : Mkr X.prog X.w X.K X.mg X.base k C x ps sp) (hr : Room (k + 1) X.A) (tk : L2N.Takes X W) (ha : PA X (e :: es) t) (hg : Gl X x := by rfl)
    (hdb : (x == ("__debug__" : Str)) = false := by decide) (he : starEach (e :: es) X.env = (false, eval e X.env) :: starEach es X.env := by rfl) (hpl : (backTo pos (starEach es X.env)).any (·.1) = false := by rfl) :
    PE X (.Call (.Name x p) (e :: es) [] pos) (tMakeS C sp (WE W) t) := by
  obtain ⟨f, fd, M, F, hb⟩ := c.ex
  refine ⟨fun pins s σ H Q I h => ?_⟩
  refine wpAny_Call_Name_kw (ld_glob I hg c.g ?_ hdb)
  refine PySem.W.callWith_K (h₀ := X.base) I.ok.mod.kin M.kp (thn (ha.run pos pins s σ H _ I h) fun us s1 ⟨vs, H1, I1, r, q⟩ => ⟨I1.kIn, ?_⟩) he hpl
  exact run_makeS M F hr hb (L2N.passAt tk σ) I1 r q
end
section
variable {B : Bs} {e : Ev1} {γ : Type} {t : TA}
theorem upd_none {H : Hp} {a b : Addr} {o : HO} (h : upd H a o b = none) : H b = none := by
  by_cases e : b = a
  · subst e
    rw [upd_same] at h
    cases h
  · rwa [upd_ne e] at h
theorem ev_new {C : Addr} {names : List Str} [EncOb γ C names] {sp : Sp} {W : WX} {P : List Slot → Prop} {P' : γ → Prop} (xp : XD → Prop) (ha : EvA B t e P)
    (hs : ∀ ss, P ss → ∀ p us H Q E, Call B.K (vs (Adr.mk p) :: ss) [(p, insC false C [] [])] (fun (_ : Unit) c => ∃ m : γ, c = [(p, insC false C names (EncOb.sls m))] ∧ P' m) (fun x c => c = [] ∧ xp x) us H Q E → sp us H Q E)
    (hx : ∀ x, xp x → W = B.W ∧ B.xr x e) : Ev B (tMakeS C sp (WE W) t) e P' := fun σ G H ok X Q q =>
  ha σ G H ok X _ fun us ss G1 H1 pss ok1 s1 r1 => fun x dx hx1 hd1 ne => by
    have gx := ok1.gh.free hx1
    have gd := ok1.gh.free hd1
    have nx : ∀ b, H1 b ≠ none → upd (upd H1 dx (.own x)) x (.ins C dx []) b = H1 b := fun b hb => by
      rw [upd_ne fun z => hb (by rw [z]; exact hx1), upd_ne fun z => hb (by rw [z]; exact hd1)]
    have s12 : Same G1 (upd (upd H1 dx (.own x)) x (.ins C dx [])) := fun b o h => by
      have := ok1.gh b o h
      rw [nx b (by rw [this]; exact fun z => nomatch z)]
      exact this
    have keep : ∀ {G' H' : Hp} {cl' : List (Addr × Cell)}, After B.K G1 (upd (upd H1 dx (.own x)) x (.ins C dx [])) [(x, insC false C [] [])] G' H' cl' → Ok B G' H' σ e := fun {G' H' cl'} a => by
      have al : ∀ b, H' b = none → H1 b = none := fun b h => upd_none (upd_none (a.al b h))
      have fr : ∀ b o, H1 b = some o → H' b = some o := fun b o h => a.fr b o (by rw [nx b (by rw [h]; exact fun z => nomatch z)]; exact h) (by
        show ¬ b ∈ [x]
        intro z
        rw [List.mem_singleton.mp z, hx1] at h
        cases h)
      have nw : ∀ b, G' b ≠ none → G1 b ≠ none ∨ H1 b = none := fun b h => (a.nw b h).imp id fun z => upd_none (upd_none z)
      refine ⟨ok1.g0.trans a.gg, a.gh, fun b o h hb => fr b o (ok1.fr b o h hb), fun b h => ok1.al b (al b h), fun b h => ?_, ok1.sr.mono a.gg, ok1.cr.nd, fun c hc => ?_⟩
      · rcases nw b h with z | z
        · exact ok1.nw b z
        · exact .inr (ok1.al b z)
      · obtain ⟨k1, k2, o, k3, k4⟩ := ok1.cr.at_ c hc
        refine ⟨?_, k2, o, fr _ _ k3, c.2.mono a.gg k4⟩
        cases z : G' c.1 with
        | none => rfl
        | some u =>
          rcases nw c.1 (by rw [z]; exact fun y => nomatch y) with y | y
          · exact absurd k1 y
          · rw [k3] at y
            cases y
    refine hs ss pss x (.ref x :: us) _ _ _ ⟨G1, s12, .cons rfl r1, List.nodup_cons.mpr ⟨by simp, List.nodup_nil⟩, fun c hc => ?_, fun v r cl' G' H' hp a rv => ?_, fun d xd cl' G' H' hp a rx => ?_⟩
    · rw [List.mem_singleton.mp hc]
      exact ⟨rfl, gx, _, upd_same, dx, [], rfl, rfl, .nil⟩
    · obtain ⟨m, rfl, pm⟩ := hp
      have ok2 := keep a
      obtain ⟨h1, _, o, h3, h4⟩ := a.at_ _ (List.mem_singleton.mpr rfl)
      have h3 : H' x = some o := h3
      have h1 : G' x = none := h1
      have b0 : B.H0 x = none := ok1.al x hx1
      refine ⟨rv, q (.ref x) m (upd G' x o) H' pm (ok2.know h1 h3 b0 fun c hc => ?_) ((s1.trans a.gg).trans (same_upd h1)) ?_⟩
      · obtain ⟨_, _, o', k3, _⟩ := ok1.cr.at_ c hc
        exact ne_of_none k3 hx1
      · obtain ⟨dx', us', rfl, hu, hr⟩ := h4
        exact EncOb.repO.mpr ⟨x, dx', us', rfl, upd_same, hu, reps_mono (same_upd h1) hr⟩
    · obtain ⟨hw, px⟩ := hx xd hp.2
      subst hw
      exact X d σ G' H' e xd px (keep a) (s1.trans a.gg) rx
end
end Fw

namespace Fw
open PySem L2

/-! ### None or a value -/
section
variable {B : Bs} {e : Ev1} {α β γ ρ : Type} [Enc α] [Enc β] [Enc γ] [Enc ρ] {te tl ta tb : TE} {t1 : TA} {E : En ρ}
/-- the same value, told otherwise -/
theorem ev_co {x : α} {y : β} (c : ∀ (K : PySem.W.Frag) (H : Hp) (v : V), Enc.rep K H v x → Enc.rep K H v y) (h : EvD B te e x) : EvD B te e y := fun σ G H ok X Q q =>
  h σ G H ok X _ fun v z G' H' p ok' s r => by
    subst p
    exact q v y G' H' rfl ok' s (c _ _ _ r)
theorem ev_coP {P : α → Prop} {P' : β → Prop} (f : α → β) (c : ∀ x, P x → P' (f x) ∧ ∀ (K : PySem.W.Frag) (H : Hp) (v : V), Enc.rep K H v x → Enc.rep K H v (f x)) (h : Ev B te e P) : Ev B te e P' := fun σ G H ok X Q q =>
  h σ G H ok X _ fun v z G' H' p ok' s r => q v (f z) G' H' (c z p).1 ok' s ((c z p).2 _ _ _ r)
theorem ev_some {x : α} (h : EvD B te e x) : EvD B te e (some x) := ev_co (x := x) (y := some x) (fun _ _ _ r => r) h
theorem ev_nonO : EvD B (tC .non) e (none : Option α) := ev_c fun _ _ => rfl
theorem ev_get {x : Option α} {d : α} (h : x.isSome = true) (k : EvD B te e x) : EvD B te e (x.getD d) := ev_co (fun _ _ _ r => by
  cases x with
  | none => cases h
  | some y => exact r) k
theorem paired_someL {K : PySem.W.Frag} {H : Hp} : ∀ {us : List V} {xs : List α}, Paired (Enc.rep K H) us xs → Paired (Enc.rep K H) us (xs.map some)
  | _, _, .nil => .nil
  | _, _, .cons a r => .cons a (paired_someL r)
theorem rep_mapL {f : α → β} (c : ∀ (K : PySem.W.Frag) (H : Hp) (v : V) (x : α), Enc.rep K H v x → Enc.rep K H v (f x)) {K : PySem.W.Frag} {H : Hp} : ∀ {us : List V} {xs : List α}, Paired (Enc.rep K H) us xs → Paired (Enc.rep K H) us (xs.map f)
  | _, _, .nil => .nil
  | _, _, .cons a r => .cons (c _ _ _ _ a) (rep_mapL c r)
theorem rep_list {f : α → β} (c : ∀ (K : PySem.W.Frag) (H : Hp) (v : V) (x : α), Enc.rep K H v x → Enc.rep K H v (f x)) (K : PySem.W.Frag) (H : Hp) (v : V) (xs : List α) : Enc.rep K H v xs → Enc.rep K H v (xs.map f) := fun ⟨a, us, h1, h2, h3⟩ => ⟨a, us, h1, h2, rep_mapL c h3⟩
theorem rep_tup {f : α → β} (c : ∀ (K : PySem.W.Frag) (H : Hp) (v : V) (x : α), Enc.rep K H v x → Enc.rep K H v (f x)) (K : PySem.W.Frag) (H : Hp) (v : V) (xs : Tup α) : Enc.rep K H v xs → Enc.rep K H v (Tup.mk (xs.l.map f)) := fun ⟨a, us, h1, h2, h3⟩ => ⟨a, us, h1, h2, rep_mapL c h3⟩
theorem rep_some (K : PySem.W.Frag) (H : Hp) (v : V) (x : α) : Enc.rep K H v x → Enc.rep K H v (some x) := fun h => h
/-- x is None -/
def rIsN : R2 := fun x y H Q => y = .non ∧ Q (.bl (decide (x = .non))) H
theorem op_isNO {X : Cx} : OpR X (compareOp .Is) rIsN := op_isN
def rNotN : R2 := fun x y H Q => y = .non ∧ Q (.bl (!decide (x = .non))) H
theorem op_notNO {X : Cx} : OpR X (compareOp .IsNot) rNotN := op_notN
/-- what is never None -/
class NotNon (α : Type) [Enc α] : Prop where
  nn : ∀ {K : PySem.W.Frag} {H : Hp} {v : V} {x : α}, Enc.rep K H v x → v ≠ .non
instance : NotNon Int := ⟨fun h z => by rw [show _ = V.int _ from h] at z; cases z⟩
instance : NotNon Str := ⟨fun h z => by rw [show _ = V.str _ from h] at z; cases z⟩
instance : NotNon Bool := ⟨fun h z => by rw [show _ = V.bl _ from h] at z; cases z⟩
instance {α : Type} [Enc α] : NotNon (List α) := ⟨fun ⟨a, _, h, _⟩ z => by rw [h] at z; cases z⟩
instance {α : Type} [Enc α] : NotNon (Tup α) := ⟨fun ⟨a, _, h, _⟩ z => by rw [h] at z; cases z⟩
instance {α β : Type} [Enc α] [Enc β] : NotNon (α × β) := ⟨fun ⟨a, _, _, h, _⟩ z => by rw [h] at z; cases z⟩
theorem non_dec [NotNon α] {K : PySem.W.Frag} {H : Hp} {v : V} {x : Option α} (h : Enc.rep K H v x) : decide (v = .non) = x.isNone := by
  cases x with
  | none =>
    have h : v = V.non := h
    subst h
    rfl
  | some y => exact decide_eq_false (NotNon.nn (α := α) h)
theorem r2_isNO [NotNon α] {x : Option α} : R2V B e rIsN x () (· = x.isNone) := fun σ G H ok v w rv rw' Q q =>
  ⟨rw', q _ _ G H rfl ok (Same.refl G) (by show V.bl _ = V.bl _; rw [non_dec rv])⟩
theorem r2_notNO [NotNon α] {x : Option α} : R2V B e rNotN x () (· = !x.isNone) := fun σ G H ok v w rv rw' Q q =>
  ⟨rw', q _ _ G H rfl ok (Same.refl G) (by show V.bl _ = V.bl _; rw [non_dec rv])⟩
end

/-! ### tuples of things of different kinds -/
structure TupS where
  ss : List Slot
instance : Enc TupS where
  rep := fun K H v x => ∃ a us, v = .ref a ∧ SqT K H a us ∧ Reps K H us x.ss
  mono := fun e ⟨a, us, h1, h2, h3⟩ => ⟨a, us, h1, same_t e h2, reps_mono e h3⟩
instance : NotNon TupS := ⟨fun ⟨a, _, h, _⟩ z => by rw [h] at z; cases z⟩
section
variable {B : Bs} {e : Ev1} {α β γ ρ : Type} [Enc α] [Enc β] [Enc γ] [Enc ρ] {te tl ta tb : TE} {t1 : TA} {E : En ρ}
theorem ev_tupS {ss : List Slot} (hl : ss.length ≤ 100) (h : EvA B t1 e (· = ss)) : EvD B (tTup t1) e (TupS.mk ss) := fun σ G H ok X Q q =>
  h σ G H ok X _ fun us ss' G1 H1 p ok1 s1 r1 => by
    subst p
    refine ⟨Nat.le_trans (by rw [r1.length]; exact hl) (by decide), fun p hp => ?_⟩
    have gp := ok1.gh.free hp
    exact q (.ref p) _ _ _ rfl (ok1.new hp) (s1.trans (same_upd gp)) ⟨p, us, rfl, .inl (.inl upd_same), reps_mono (same_upd gp) r1⟩
theorem r2_ixTS {x : List Slot} {y : α} {i : Int} {k : Nat} (hy : x[k]? = some (vs y)) (hi : i = (k : Int)) : R2V B e (rIxT B.K) (TupS.mk x) i (· = y) := fun σ G H ok v w rv rw Q q => by
  obtain ⟨p, us, rfl, h1, h2⟩ := rv
  obtain rfl := (show w = V.int i from rw)
  subst hi
  have hl : us.length = x.length := h2.length
  have hk : k < x.length := (List.getElem?_eq_some_iff.mp hy).1
  obtain ⟨u, h3, h4⟩ := reps_get h2 hy
  refine ⟨p, us, (k : Int), u, rfl, rfl, same_t ok.gh h1, ?_, q u y G H rfl ok (Same.refl G) h4⟩
  unfold atI
  rw [ixN_nn (by omega) (by omega)]
  simpa using h3
end

/-! ### x in a list or a tuple of flat things -/
class Flat (α : Type) [Enc α] where
  fv : α → V
  fvr : ∀ {K : PySem.W.Frag} {H : Hp} {v : V} {x : α}, Enc.rep K H v x → v = fv x
  fl : ∀ x, flatV (fv x) = true
  eq : ∀ x y, eqV (fv x) (fv y) = true ↔ x = y
instance : Flat Int := ⟨V.int, fun h => h, fun _ => rfl, fun x y => by show (x == y) = true ↔ _; exact beq_iff_eq⟩
instance : Flat Str := ⟨V.str, fun h => h, fun _ => rfl, fun x y => by show (x == y) = true ↔ _; exact beq_iff_eq⟩
instance : Flat (Option Int) where
  fv := fun x => match x with
    | none => .non
    | some i => .int i
  fvr := fun {K H v x} h => by
    cases x with
    | none => exact h
    | some y => exact h
  fl := fun x => by cases x <;> rfl
  eq := fun x y => by
    cases x with
    | none => cases y <;> simp [eqV]
    | some i =>
      cases y with
      | none => simp [eqV]
      | some j => simp [eqV]
section
variable {B : Bs} {e : Ev1} {α : Type} [Enc α]
theorem paired_flat [Flat α] {K : PySem.W.Frag} {H : Hp} : ∀ {us : List V} {xs : List α}, Paired (Enc.rep K H) us xs → us = xs.map Flat.fv
  | _, _, .nil => rfl
  | _, _, .cons a r => by rw [Flat.fvr a, paired_flat r]; rfl
theorem flat_all [Flat α] : ∀ xs : List α, (xs.map Flat.fv).all flatV = true
  | [] => rfl
  | x :: xs => by rw [List.map_cons, List.all_cons, Flat.fl, flat_all xs]; rfl
theorem inV_flat [Flat α] [DecidableEq α] {x : α} : ∀ {xs : List α}, inV (Flat.fv x) (xs.map Flat.fv) = decide (x ∈ xs)
  | [] => by simp [inV]
  | y :: xs => by
    have ih := inV_flat (x := x) (xs := xs)
    unfold inV at ih ⊢
    rw [List.map_cons, List.any_cons, ih, Bool.eq_iff_iff, Bool.or_eq_true, Flat.eq, decide_eq_true_eq, decide_eq_true_eq, List.mem_cons]
    exact ⟨fun h => h.imp Eq.symm id, fun h => h.imp Eq.symm id⟩
theorem r2_inF [Flat α] [DecidableEq α] {x : α} {xs : List α} : R2V B e (rIn B.K false) x xs (· = decide (x ∈ xs)) := fun σ G H ok v w rv rw' Q q => by
  obtain ⟨p, ws, rfl, h1, h2⟩ := rw'
  obtain rfl := Flat.fvr rv
  obtain rfl := paired_flat h2
  exact ⟨p, _, rfl, .inl (.inl (.inl (ok.gh _ _ h1))), Flat.fl x, flat_all xs, q _ _ G H rfl ok (Same.refl G) (by show V.bl _ = V.bl _; rw [inV_flat]; rfl)⟩
theorem r2_niF [Flat α] [DecidableEq α] {x : α} {xs : List α} : R2V B e (rIn B.K true) x xs (· = !decide (x ∈ xs)) := fun σ G H ok v w rv rw' Q q => by
  obtain ⟨p, ws, rfl, h1, h2⟩ := rw'
  obtain rfl := Flat.fvr rv
  obtain rfl := paired_flat h2
  exact ⟨p, _, rfl, .inl (.inl (.inl (ok.gh _ _ h1))), Flat.fl x, flat_all xs, q _ _ G H rfl ok (Same.refl G) (by show V.bl _ = V.bl _; rw [inV_flat]; rfl)⟩
theorem r2_inFT [Flat α] [DecidableEq α] {x : α} {xs : Tup α} : R2V B e (rIn B.K false) x xs (· = decide (x ∈ xs.l)) := fun σ G H ok v w rv rw' Q q => by
  obtain ⟨p, ws, rfl, h1, h2⟩ := rw'
  obtain rfl := Flat.fvr rv
  obtain rfl := paired_flat h2
  exact ⟨p, _, rfl, .inr (same_t ok.gh h1), Flat.fl x, flat_all xs.l, q _ _ G H rfl ok (Same.refl G) (by show V.bl _ = V.bl _; rw [inV_flat]; rfl)⟩
theorem r2_niFT [Flat α] [DecidableEq α] {x : α} {xs : Tup α} : R2V B e (rIn B.K true) x xs (· = !decide (x ∈ xs.l)) := fun σ G H ok v w rv rw' Q q => by
  obtain ⟨p, ws, rfl, h1, h2⟩ := rw'
  obtain rfl := Flat.fvr rv
  obtain rfl := paired_flat h2
  exact ⟨p, _, rfl, .inr (same_t ok.gh h1), Flat.fl x, flat_all xs.l, q _ _ G H rfl ok (Same.refl G) (by show V.bl _ = V.bl _; rw [inV_flat]; rfl)⟩
theorem r2_inFO [Flat α] [DecidableEq α] {k : Nat} {a : Addr} {x : α} {xs : List α} (hc : e.cl[k]? = some (a, ownL xs)) : R2V B e (rIn B.K false) x (Adr.mk a) (· = decide (x ∈ xs)) := fun σ G H ok v w rv rw' Q q => by
  obtain rfl := (show w = V.ref a from rw')
  obtain rfl := Flat.fvr rv
  obtain ⟨_, _, o, h1, ws, rfl, h2⟩ := ok.cell hc
  obtain rfl := paired_flat h2
  exact ⟨a, _, rfl, .inl (.inl (.inl h1)), Flat.fl x, flat_all xs, q _ _ G H rfl ok (Same.refl G) (by show V.bl _ = V.bl _; rw [inV_flat]; rfl)⟩
theorem r2_niFO [Flat α] [DecidableEq α] {k : Nat} {a : Addr} {x : α} {xs : List α} (hc : e.cl[k]? = some (a, ownL xs)) : R2V B e (rIn B.K true) x (Adr.mk a) (· = !decide (x ∈ xs)) := fun σ G H ok v w rv rw' Q q => by
  obtain rfl := (show w = V.ref a from rw')
  obtain rfl := Flat.fvr rv
  obtain ⟨_, _, o, h1, ws, rfl, h2⟩ := ok.cell hc
  obtain rfl := paired_flat h2
  exact ⟨a, _, rfl, .inl (.inl (.inl h1)), Flat.fl x, flat_all xs, q _ _ G H rfl ok (Same.refl G) (by show V.bl _ = V.bl _; rw [inV_flat]; rfl)⟩
end
instance {α : Type} [DecidableEq α] : DecidableEq (Tup α) := fun x y => match x, y with
  | ⟨a⟩, ⟨b⟩ => if h : a = b then isTrue (by rw [h]) else isFalse fun z => h (Tup.mk.inj z)
instance : PD (Option Int) where
  toD := fun x => match x with
    | none => .none
    | some i => .int i
  ok := fun _ => true
  dep := 0
  dp := fun {K H v x} h => by
    cases x with
    | none =>
      obtain rfl := (show v = V.non from h)
      exact .non
    | some i =>
      obtain rfl := (show v = V.int i from h)
      exact .int i
  lay := fun x _ => by cases x <;> simp [PyData.canLay0]
  dle := fun x => by cases x <;> simp [PyData.depth]
  eqv := fun x y => by cases x <;> cases y <;> simp [PyData.eqv]

/-! ### a comprehension whose test is drawn -/
section
variable {B : Bs} {e : Ev1} {α β : Type} [Enc α] [Enc β] {te : TE} {tt : TT} {wi : TI} {g : TG} {js : List Nat} {f : α → List (Option Slot) → List (Option Slot)}
theorem evl_lcF {ws : List Nat} {xs : List α} {h : α → β} (hi : EvI B wi e xs) (hg : EvG B g js f) (hj : ∀ j ∈ js, j ∈ ws) (hl : xs.length ≤ 1000000)
    (ht : ∀ pre x post, xs = pre ++ x :: post → ∀ dc, EvT B tt ⟨f x (wipeE e.sl ws), e.cl ++ [dc]⟩ (fun _ => True))
    (he : ∀ pre x post, xs = pre ++ x :: post → ∀ dc, EvD B te ⟨f x (wipeE e.sl ws), e.cl ++ [dc]⟩ (h x)) : EvL B (tLc wi g tt te ws) e (fun zs => ∃ ys : List α, ys.Sublist xs ∧ zs = ys.map h) :=
  (evl_lcX (ei_c hi) hg hj (fun _ h => by rw [h]; exact hl) (fun pre zs => ∃ ys : List α, ys.Sublist pre ∧ zs = ys.map h) ⟨[], .slnil, rfl⟩ (fun _ _ => True) (fun x y => y = h x) (fun zs pre x post h s => by subst h; exact ht pre x post s)
    (fun zs pre x post h s _ => by subst h; exact he pre x post s)
    (fun pre x zs y ⟨ys, h1, h2⟩ _ py => ⟨ys ++ [x], h1.append (List.Sublist.refl _), by rw [h2, py, List.map_append]; rfl⟩)
    fun pre x zs ⟨ys, h1, h2⟩ _ => ⟨ys, h1.trans (List.sublist_append_left _ _), h2⟩).mono fun zs ⟨ys, h1, h2⟩ => by rw [← h1]; exact h2
end
/-! ### in a comprehension the written part is named -/
theorem cr_tupOfK {X : Cx} {K : PySem.W.Frag} (h : X.K = K) : CallR X (.type "tuple") (rTupOf K) := h ▸ cr_tupOf
theorem cr_listOfK {X : Cx} {K : PySem.W.Frag} (h : X.K = K) : CallR X (.type "list") (rListOf K) := h ▸ cr_listOf
theorem cr_lenQK {X : Cx} {K : PySem.W.Frag} (h : X.K = K) : CallR X (.builtin "len") (rLenQ K) := h ▸ cr_lenQ
theorem call_isiK {X : Cx} {K : PySem.W.Frag} (h : X.K = K) : CallR X (.builtin "isinstance") (rIsi K) := h ▸ call_isi

/-! ### for over a drawn range -/
theorem eiN_rng1 {B : Bs} {e : Ev1} {te : TE} {P : Int → Prop} (h : Ev B te e P) (hn : ∀ n, P n → n < 2 ^ 62 ∧ -(2 ^ 62) ≤ n) : EvIN B (iRng1 (tCons te tNil)) e (fun xs => ∃ n, P n ∧ xs = rngI 0 n.toNat) := fun σ G H ok X R q =>
  h σ G H ok X _ fun v n G1 H1 p ok1 s1 r1 => by
    obtain rfl := (show v = V.int n from r1)
    exact ⟨n, rfl, (hn n p).2, (hn n p).1, q _ _ G1 H1 ⟨n, p, rfl⟩ ok1 s1 gives_rng⟩

/-! ### split, join, int(text) -/
section
variable {B : Bs} {e : Ev1} {ta : TE} {t1 : TA}
def rSplitS : V → List V → Hp → VK → Prop := fun x xs H Q => ∃ a b : Str, x = .str a ∧ xs = [.str b] ∧ (b.length == 0) = false ∧ a.length + 2 ≤ sizeLine ∧ rNewStrs (Txt.split a b) H Q
theorem mt_splitS {X : Cx} : MtR X "str.split" rSplitS := mt_split
theorem strs_paired {K : PySem.W.Frag} {H : Hp} : ∀ xs : List Str, Paired (Enc.rep K H) (xs.map V.str) xs
  | [] => .nil
  | _ :: xs => .cons rfl (strs_paired xs)
theorem evl_split {K : PySem.W.Frag} {a b : Str} (ho : EvD B ta e a) (h : EvA B t1 e (· = [vs b])) (hb : 1 ≤ b.length) (ha : a.length ≤ 10000000) : EvL B (tBM K "str" rSplitS ta t1) e (· = Txt.split a b) := fun σ G H ok X Q q =>
  ho σ G H ok X _ fun v x G1 H1 p ok1 s1 r1 => by
    subst p
    obtain rfl := (show v = V.str x from r1)
    refine ⟨rfl, h σ G1 H1 ok1 (X.mono s1) _ fun us ss G2 H2 p2 ok2 s2 r2 => ?_⟩
    subst p2
    cases r2 with
    | cons c d =>
      cases d
      obtain rfl := (show _ = V.str b from c)
      refine ⟨x, b, rfl, rfl, by rw [beq_eq_false_iff_ne]; omega, Nat.le_trans (Nat.add_le_add_right ha 2) (by decide), ?_⟩
      exact newL ok2 rfl (strs_paired _) fun p us xs G' H' px ok' s' => q p us xs G' H' px.symm ok' ((s1.trans s2).trans s')
def rJoinS (K : PySem.W.Frag) : V → List V → Hp → VK → Prop := fun x xs H Q => ∃ a p, ∃ ys : List Str, x = .str a ∧ xs = [.ref p] ∧ (SqL K H p (ys.map V.str) ∨ SqT K H p (ys.map V.str)) ∧ (ys.map (·.length)).sum + ys.length * a.length ≤ 16777216 ∧ Q (.str (Txt.join a ys)) H
theorem mt_joinS {X : Cx} : MtR X "str.join" (rJoinS X.K) := mt_join
theorem ev_join {a : Str} {ys : List Str} (ho : EvD B ta e a) (h : EvA B t1 e (· = [vs ys])) (hs : (ys.map (·.length)).sum + ys.length * a.length ≤ 16777216) : EvD B (tBM B.K "str" (rJoinS B.K) ta t1) e (Txt.join a ys) := fun σ G H ok X Q q =>
  ho σ G H ok X _ fun v x G1 H1 p ok1 s1 r1 => by
    subst p
    obtain rfl := (show v = V.str x from r1)
    refine ⟨rfl, h σ G1 H1 ok1 (X.mono s1) _ fun us ss G2 H2 p2 ok2 s2 r2 => ?_⟩
    subst p2
    cases r2 with
    | cons c d =>
      cases d
      obtain ⟨p, ws, rfl, h1, h2⟩ := c
      obtain rfl := paired_strs h2
      exact ⟨x, p, ys, rfl, rfl, .inl (.inl (.inl (ok2.gh _ _ h1))), hs, q _ _ G2 H2 rfl ok2 (s1.trans s2) rfl⟩
def rIntS : List V → Hp → VK → Prop := fun xs H Q => ∃ a n, xs = [.str a] ∧ PySem.intText? a = some n ∧ a.length ≤ 640 ∧ Q (.int n) H
theorem cr_intS {X : Cx} : CallR X (.type "int") rIntS := call_int_str
theorem rc_intS {a : Str} {n : Int} (h : PySem.intText? a = some n) (hl : a.length ≤ 640) : RCV B e rIntS [vs a] (· = n) := rc_F1 fun H Q q => ⟨a, n, rfl, h, hl, q⟩
end
end Fw

namespace Fw
open PySem L2
/-! ### <= of pairs (int, text) -/
def rLeP (K : PySem.W.Frag) : R2 := fun x y H Q => ∃ (a b : Addr) (p q : Int × Str), x = .ref a ∧ y = .ref b ∧ SqT K H a [.int p.1, .str p.2] ∧ SqT K H b [.int q.1, .str q.2] ∧ Q (.bl (pLe p q)) H
theorem rc_le_str {A : Around} {s : Shared} (a b : Str) (t u : Tok) : Ob.RcOp .LtE A s (.str a t) (.str b u) (!decide (b.cps.toList < a.cps.toList)) := fun _ _ _ _ h => PySem.P.le_str h
theorem lex2 (e r : Nat → Bool) (z : Bool) : Ob.lexAt e r z 0 2 = if e 0 = true then (if e 1 = true then z else r 1) else r 0 := rfl
theorem pLe_lex (p q : Int × Str) : (if decide (p.1 = q.1) = true then (if decide (p.2 = q.2) = true then true else !decide (q.2.cps.toList < p.2.cps.toList)) else decide (p.1 ≤ q.1)) = pLe p q := by
  unfold pLe
  by_cases h1 : p.1 = q.1
  · rw [if_pos (decide_eq_true h1)]
    by_cases h2 : p.2 = q.2
    · rw [if_pos (decide_eq_true h2)]
      refine (decide_eq_true (.inr ⟨h1, ?_⟩)).symm
      rw [h2]
      exact List.le_refl _
    · rw [if_neg (by simpa using h2), Bool.eq_iff_iff, Bool.not_eq_true', decide_eq_false_iff_not, decide_eq_true_eq]
      constructor
      · intro h
        exact .inr ⟨h1, h⟩
      · rintro (h | h)
        · omega
        · exact h.2
  · rw [if_neg (by simpa using h1), Bool.eq_iff_iff, decide_eq_true_eq, decide_eq_true_eq]
    constructor
    · intro h; exact .inl (by omega)
    · rintro (h | h)
      · omega
      · exact absurd h.1 h1
theorem op_leP {X : Cx} (hu : X.A.units < cLine) : OpR X (compareOp .LtE) (rLeP X.K) := by
  intro pins s σ H x y v u Q I rx ry h
  obtain ⟨a, b, p, q, rfl, rfl, ha, hb, k⟩ := h
  cases rx
  cases ry
  obtain ⟨its, r1, p1, _⟩ := I.tuple ha
  obtain ⟨its2, r2, p2, _⟩ := I.tuple hb
  obtain ⟨u1, u2, rfl, ra1, ra2⟩ := vals2 r1
  obtain ⟨w1, w2, rfl, rb1, rb2⟩ := vals2 r2
  obtain ⟨t1, rfl⟩ := (show ∃ t, u1 = Value.int p.1 t from ra1)
  obtain ⟨t2, rfl⟩ := (show ∃ t, u2 = Value.str p.2 t from ra2)
  obtain ⟨t3, rfl⟩ := (show ∃ t, w1 = Value.int q.1 t from rb1)
  obtain ⟨t4, rfl⟩ := (show ∃ t, w2 = Value.str q.2 t from rb2)
  have R := Ob.RcOp.tuples_le (A := X.A) (s := s) (e := fun j => if j = 0 then decide (p.1 = q.1) else decide (p.2 = q.2)) (r := fun j => if j = 0 then decide (p.1 ≤ q.1) else !decide (q.2.cps.toList < p.2.cps.toList)) p1 p2 hu (fun j h1 h2 => by
    match j, h1, h2 with
    | 0, _, _ =>
      have z : (p.1 == q.1) = decide (p.1 = q.1) := by
        by_cases q' : p.1 = q.1
        · rw [decide_eq_true q']; exact beq_iff_eq.mpr q'
        · rw [decide_eq_false q']; exact beq_eq_false_iff_ne.mpr q'
      rw [if_pos rfl, ← z]
      exact SeqAt.EqAt.int_int _ _ _ _
    | 1, _, _ =>
      have z : (p.2 == q.2) = decide (p.2 = q.2) := by
        by_cases q' : p.2 = q.2
        · rw [decide_eq_true q']; exact beq_iff_eq.mpr q'
        · rw [decide_eq_false q']; exact beq_eq_false_iff_ne.mpr q'
      rw [if_neg (by decide), ← z]
      exact SeqAt.EqAt.str_str _ _ _ _
    | j + 2, h1, _ => exact absurd h1 (by simp)) (fun j h1 h2 _ => by
    match j, h1, h2 with
    | 0, _, _ =>
      rw [if_pos rfl]
      exact Ob.RcOp.le_int _ _ _ _
    | 1, _, _ =>
      rw [if_neg (by decide)]
      exact rc_le_str _ _ _ _
    | j + 2, h1, _ => exact absurd h1 (by simp))
  have z : wpAny (model X.prog X.w) X.A (compareOp .LtE (.ref a) (.ref b)) (EP X pins σ Q) X.xe s := R X.prog X.w X.xe (EP X pins σ Q) ⟨.bl _, H, I, rfl, by
    have e2 : Ob.lexAt (fun j => if j = 0 then decide (p.1 = q.1) else decide (p.2 = q.2)) (fun j => if j = 0 then decide (p.1 ≤ q.1) else !decide (q.2.cps.toList < p.2.cps.toList)) (decide (([Value.int p.1 t1, Value.str p.2 t2] : List Value).toArray.size ≤ ([Value.int q.1 t3, Value.str q.2 t4] : List Value).toArray.size)) 0 (min ([Value.int p.1 t1, Value.str p.2 t2] : List Value).toArray.size ([Value.int q.1 t3, Value.str q.2 t4] : List Value).toArray.size) = pLe p q := by
      rw [← pLe_lex]
      rfl
    rw [e2]
    exact k⟩
  exact z
section
variable {B : Bs} {e : Ev1} {α β γ δ ρ : Type} [Enc α] [Enc β] [Enc γ] [Enc ρ] {te td ty tl ta tb ti : TE} {t1 : TA} {tt tu : TT} {E : En ρ}
theorem r2_leP {x y : Int × Str} : R2V B e (rLeP B.K) x y (· = pLe x y) := fun σ G H ok v w hv hw Q q => by
  obtain ⟨a, u1, u2, rfl, h1, h2, h3⟩ := hv
  obtain ⟨b, w1, w2, rfl, h4, h5, h6⟩ := hw
  obtain rfl := (show u1 = V.int x.1 from h2)
  obtain rfl := (show u2 = V.str x.2 from h3)
  obtain rfl := (show w1 = V.int y.1 from h5)
  obtain rfl := (show w2 = V.str y.2 from h6)
  exact ⟨a, b, x, y, rfl, rfl, same_t ok.gh h1, same_t ok.gh h4, q _ _ G H rfl ok (Same.refl G) rfl⟩
/-! ### pop, insert -/
theorem paired_erase {K : PySem.W.Frag} {G : Hp} : ∀ {us : List V} {ys : List α} (j : Nat), Paired (Enc.rep K G) us ys → Paired (Enc.rep K G) (us.eraseIdx j) (ys.eraseIdx j)
  | _, _, _, .nil => .nil
  | _, _, 0, .cons _ t => t
  | _, _, j + 1, .cons a t => .cons a (paired_erase j t)
theorem seqIndex_nn {i : Int} {n : Nat} (h0 : 0 ≤ i) (h1 : i < n) : seqIndex? i n = some i.toNat := by
  unfold seqIndex?
  simp [Int.not_lt.mpr h0, h0, h1]
/-- xs.pop(i), its value forgotten -/
theorem do_popAt {k : Nat} {a : Addr} {ys : List α} {i : Int} (hc : e.cl[k]? = some (a, ownL ys)) (ho : EvD B ta e (Adr.mk a)) (hi : EvD B ti e i) (hz : 0 ≤ i ∧ i < ys.length ∧ ys.length ≤ 1000000) (q : E.nx ⟨e.sl, e.cl.set k (a, ownL (ys.eraseIdx i.toNat))⟩) :
    Do B (tDrop (tBM B.K "list" rPopAt ta (tCons ti tNil))) e E := fun σ G H ok X D m =>
  ho σ G H ok X _ fun v x G1 H1 p ok1 s1 r1 => by
    subst p
    obtain rfl := (show v = V.ref a from r1)
    obtain ⟨_, _, o, h1, us, rfl, _⟩ := ok1.cell hc
    refine ⟨ty_list h1, hi σ G1 H1 ok1 (X.mono s1) _ fun w y G2 H2 py ok2 s2 r2 => ?_⟩
    subst py
    obtain rfl := (show w = V.int y from r2)
    obtain ⟨_, _, o, h1', us', rfl, hu⟩ := ok2.cell hc
    have hl := hu.length
    obtain ⟨u, h3, h4⟩ := paired_get hu (getD_some (l := ys) (k := y.toNat) (d := ys[y.toNat]'(by omega)) (by omega))
    have hb : (1000000 : Int) < 2 ^ 63 := by decide
    have hb2 : -(2 ^ 63 : Int) < 0 := by decide
    refine ⟨a, us', y, y.toNat, u, rfl, rfl, h1', by omega, by omega, seqIndex_nn hz.1 (by rw [hl]; exact hz.2.1), h3, ?_⟩
    · exact m.nx σ G2 _ _ q (ok2.write (c' := ownL (ys.eraseIdx y.toNat)) hc rfl ⟨_, rfl, paired_erase _ hu⟩) (s1.trans s2)
/-- x = xs.pop() -/
theorem do_popLast {k i : Nat} {a : Addr} {ys : List α} {d : α} (hc : e.cl[k]? = some (a, ownL ys)) (ho : EvD B ta e (Adr.mk a)) (hz : 1 ≤ ys.length) (q : ∀ y, y = ys.getD (ys.length - 1) d → E.nx ⟨e.sl.set i (va y), e.cl.set k (a, ownL ys.dropLast)⟩) :
    Do B (tAsg (tBM B.K "list" rPop ta tNil) (gName i)) e E := fun σ G H ok X D m =>
  ho σ G H ok X _ fun v x G1 H1 p ok1 s1 r1 => by
    subst p
    obtain rfl := (show v = V.ref a from r1)
    obtain ⟨_, _, o, h1, us, rfl, hu⟩ := ok1.cell hc
    have hl := hu.length
    obtain ⟨u, h3, h4⟩ := paired_get hu (getD_some (l := ys) (k := ys.length - 1) (d := d) (by omega))
    refine ⟨ty_list h1, a, us, u, rfl, rfl, h1, by rw [hl]; exact h3, ?_⟩
    have e2 : us.dropLast = us.eraseIdx (us.length - 1) := (PyProof.Rows.Copied.eraseIdx_last us).symm
    have e3 : ys.dropLast = ys.eraseIdx (ys.length - 1) := (PyProof.Rows.Copied.eraseIdx_last ys).symm
    have hp : Paired (Enc.rep B.K G1) us.dropLast ys.dropLast := by rw [e2, e3, hl]; exact paired_erase _ hu
    exact m.nx _ G1 _ _ (q _ rfl) ((ok1.write (c' := ownL ys.dropLast) hc rfl ⟨_, rfl, hp⟩).set i (s := vs _) h4) s1
/-- xs.insert(i, y) -/
theorem do_insert {k : Nat} {a : Addr} {ys : List α} {P : List Slot → Prop} (hc : e.cl[k]? = some (a, ownL ys)) (ho : EvD B ta e (Adr.mk a)) (h : EvA B t1 e P) (q : ∀ ss, P ss → ∃ (i : Int) (y : α), ss = [vs i, vs y] ∧ (0 ≤ i ∧ i ≤ 1000000 ∧ ys.length ≤ 1000000) ∧ E.nx ⟨e.sl, e.cl.set k (a, ownL (ys.take i.toNat ++ [y] ++ ys.drop i.toNat))⟩) :
    Do B (tDrop (tBM B.K "list" (fun x vs H Q => ∃ (l : Addr) (xs : List V) (i : Int) (y : V), x = .ref l ∧ vs = [.int i, y] ∧ H l = some (.lst xs) ∧ xs.length < sizeLine ∧ 0 ≤ i ∧ i < 2 ^ 63 ∧ Q .non (upd H l (.lst (xs.take i.toNat ++ [y] ++ xs.drop i.toNat)))) ta t1)) e E := fun σ G H ok X D m =>
  ho σ G H ok X _ fun v x G1 H1 p ok1 s1 r1 => by
    subst p
    obtain rfl := (show v = V.ref a from r1)
    obtain ⟨_, _, o, h1, us, rfl, _⟩ := ok1.cell hc
    refine ⟨ty_list h1, h σ G1 H1 ok1 (X.mono s1) _ fun ws ss G2 H2 ps ok2 s2 r2 => ?_⟩
    obtain ⟨i, y, rfl, hz, hq⟩ := q ss ps
    cases r2 with
    | cons ri r2 =>
      cases r2 with
      | cons ry r2 =>
        cases r2
        obtain rfl := (show _ = V.int i from ri)
        obtain ⟨_, _, o, h1', us', rfl, hu⟩ := ok2.cell hc
        have hb : (1000000 : Int) < 2 ^ 63 := by decide
        exact ⟨a, us', i, _, rfl, rfl, h1', by rw [hu.length, sizeLine_eq]; omega, hz.1, by omega, m.nx σ G2 _ _ hq (ok2.write (c' := ownL (ys.take i.toNat ++ [y] ++ ys.drop i.toNat)) hc rfl ⟨_, rfl, paired_append (paired_append (paired_take _ hu) (.cons ry .nil)) (paired_drop _ hu)⟩) (s1.trans s2)⟩
theorem evl_catX {P : List α → Prop} {P1 P2 : List α → Prop} (ha : Ev B ta e P1) (hb : ∀ x, P1 x → Ev B tb e P2) (hl : ∀ x y, P1 x → P2 y → x.length + y.length ≤ 10000000 ∧ P (x ++ y)) : EvL B (tOp rCat ta tb) e P := fun σ G H ok X Q q =>
  ha σ G H ok X _ fun v x G1 H1 p1 ok1 s1 r1 => hb x p1 σ G1 H1 ok1 (X.mono s1) _ fun w y G2 H2 p2 ok2 s2 r2 => by
    obtain ⟨p, us, rfl, h1, h2⟩ := (show Enc.rep B.K G2 v x from Enc.mono s2 r1)
    obtain ⟨p', ws, rfl, h1', h2'⟩ := r2
    obtain ⟨hl1, hP⟩ := hl x y p1 p2
    exact ⟨p, p', us, ws, rfl, rfl, ok2.gh _ _ h1, ok2.gh _ _ h1', szl (by rw [h2.length, h2'.length]; exact hl1), newL ok2 hP (paired_append h2 h2') fun p us xs G' H' px ok' s' => q p us xs G' H' px ok' ((s1.trans s2).trans s')⟩
/-! ### dicts: d[x], x in d -/
section
variable {κ : Type} [EncF κ] [DKy κ] [DecidableEq κ]
theorem drel_get {K : PySem.W.Frag} {H : Hp} {x : κ} {y : β} : ∀ {kvs : List (Key × V)} {d : List (κ × β)}, DRel K H kvs d → d.lookup x = some y → ∃ v, valV kvs (DKy.kk x) = some v ∧ Enc.rep K H v y
  | _, _, .nil, h => by simp at h
  | _, _, .cons (a := p) (b := q) h t, hy => by
    obtain ⟨q1, q2⟩ := q
    by_cases e1 : x = q1
    · subst e1
      rw [List.lookup_cons_self] at hy
      obtain rfl := Option.some.inj hy
      exact ⟨p.2, valV_pos h.1, h.2⟩
    · rw [List.lookup_cons, show (x == q1) = false from beq_eq_false_iff_ne.mpr e1] at hy
      obtain ⟨v, h1, h2⟩ := drel_get t hy
      exact ⟨v, by rw [valV_neg (fun z => e1 (DKy.inj _ _ (z.symm.trans h.1)))]; exact h1, h2⟩
theorem drel_in {K : PySem.W.Frag} {H : Hp} {x : κ} : ∀ {kvs : List (Key × V)} {d : List (κ × β)}, DRel K H kvs d → (valV kvs (DKy.kk x)).isSome = decide (x ∈ keysD d)
  | _, _, .nil => by simp [valV, keysD]
  | _, _, .cons (a := p) (b := q) h t => by
    obtain ⟨q1, q2⟩ := q
    have ih := drel_in (x := x) t
    by_cases e1 : x = q1
    · subst e1
      rw [valV_pos h.1]
      simp [keysD]
    · rw [valV_neg (fun z => e1 (DKy.inj _ _ (z.symm.trans h.1))), ih, Bool.eq_iff_iff, decide_eq_true_eq, decide_eq_true_eq]
      show _ ↔ x ∈ q1 :: keysD _
      rw [List.mem_cons]
      exact ⟨.inr, fun z => z.resolve_left e1⟩
theorem ev_dgetP {k : Nat} {a : Addr} {d : List (κ × β)} {x : κ} {y : β} (hc : e.cl[k]? = some (a, ownD d)) (ho : EvD B td e (Adr.mk a)) (hi : EvD B ty e x) (hy : d.lookup x = some y) : EvD B (tDGet td ty) e y := fun σ G H ok X Q q =>
  ho σ G H ok X _ fun v z G1 H1 p ok1 s1 r1 => hi σ G1 H1 ok1 (X.mono s1) _ fun w u G2 H2 p2 ok2 s2 r2 => by
    subst p
    subst p2
    obtain rfl := (show v = V.ref a from r1)
    obtain rfl := EncF.repV.mp r2
    obtain ⟨_, _, o, h1, kvs, rfl, hu⟩ := ok2.cell hc
    obtain ⟨v, h3, h4⟩ := drel_get hu hy
    rw [← DKy.kkV u]
    exact ⟨a, v, rfl, by rw [← h3]; exact DGet.k h1, q v y G2 H2 rfl ok2 (s1.trans s2) h4⟩
theorem ev_din {k : Nat} {a : Addr} {d : List (κ × β)} {x : κ} (hc : e.cl[k]? = some (a, ownD d)) (hi : EvD B ty e x) (ho : EvD B td e (Adr.mk a)) : EvD B (tDIn ty td) e (decide (x ∈ keysD d)) := fun σ G H ok X Q q =>
  hi σ G H ok X _ fun w u G1 H1 p2 ok1 s1 r1 => ho σ G1 H1 ok1 (X.mono s1) _ fun v z G2 H2 p ok2 s2 r2 => by
    subst p
    subst p2
    obtain rfl := (show v = V.ref a from r2)
    obtain rfl := EncF.repV.mp r1
    obtain ⟨_, _, o, h1, kvs, rfl, hu⟩ := ok2.cell hc
    rw [← DKy.kkV u]
    exact ⟨a, _, rfl, DGet.k h1, by rw [drel_in hu]; exact q _ _ G2 H2 rfl ok2 (s1.trans s2) rfl⟩
theorem ev_dni {k : Nat} {a : Addr} {d : List (κ × β)} {x : κ} (hc : e.cl[k]? = some (a, ownD d)) (hi : EvD B ty e x) (ho : EvD B td e (Adr.mk a)) : EvD B (tDNotIn ty td) e (!decide (x ∈ keysD d)) := fun σ G H ok X Q q =>
  hi σ G H ok X _ fun w u G1 H1 p2 ok1 s1 r1 => ho σ G1 H1 ok1 (X.mono s1) _ fun v z G2 H2 p ok2 s2 r2 => by
    subst p
    subst p2
    obtain rfl := (show v = V.ref a from r2)
    obtain rfl := EncF.repV.mp r1
    obtain ⟨_, _, o, h1, kvs, rfl, hu⟩ := ok2.cell hc
    rw [← DKy.kkV u]
    exact ⟨a, _, rfl, DGet.k h1, by rw [drel_in hu]; exact q _ _ G2 H2 rfl ok2 (s1.trans s2) rfl⟩
/-- a dict of two, read by a key that is one of the two -/
theorem ev_dget2 {k : Nat} {a : Addr} {k1 k2 x : κ} {y1 y2 : β} (hc : e.cl[k]? = some (a, ownD [(k1, y1), (k2, y2)])) (ho : EvD B td e (Adr.mk a)) (hi : EvD B ty e x) (hx : x = k1 ∨ x = k2) : Ev B (tDGet td ty) e (fun z => (x = k1 ∧ z = y1) ∨ (x ≠ k1 ∧ x = k2 ∧ z = y2)) := by
  by_cases e1 : x = k1
  · subst e1
    exact Ev.mono (ev_dgetP hc ho hi List.lookup_cons_self) fun z hz => .inl ⟨rfl, hz⟩
  · obtain rfl := hx.resolve_left e1
    refine Ev.mono (ev_dgetP hc ho hi (y := y2) ?_) fun z hz => .inr ⟨e1, rfl, hz⟩
    rw [List.lookup_cons, show (x == k1) = false from beq_eq_false_iff_ne.mpr e1]
    exact List.lookup_cons_self
end
/-- {k1: [], k2: []} -/
theorem do_dnew2L {i : Nat} (α : Type) [Enc α] {k1 k2 : Str} (hne : k1 ≠ k2) (k : ∀ a b c, E.nx ⟨e.sl.set i (va (Adr.mk a)), (a, ownD [(k1, Adr.mk b), (k2, Adr.mk c)]) :: (c, ownL ([] : List α)) :: (b, ownL ([] : List α)) :: e.cl⟩) :
    Do B (tAsg (tDisp [(tC (.str k1), tLst tNil), (tC (.str k2), tLst tNil)]) (gName i)) e E := fun σ G H ok X D m => fun p hp => by
  refine ⟨Nat.zero_le _, fun b hb => ⟨Nat.zero_le _, fun c hc => ?_⟩⟩
  have nb : b ≠ p := fun z => by rw [z, upd_same] at hb; cases hb
  have hb0 : H b = none := by rwa [upd_ne nb] at hb
  have nc : c ≠ p := fun z => by
    rw [z, upd_ne (Ne.symm nb), upd_same] at hc
    cases hc
  have ncb : c ≠ b := fun z => by rw [z, upd_same] at hc; cases hc
  have hc0 : H c = none := by rwa [upd_ne ncb, upd_ne nc] at hc
  refine ⟨by rw [upd_ne (Ne.symm nc), upd_ne (Ne.symm nb), upd_same], [(Sum.inr k1, .ref b), (Sum.inr k2, .ref c)], rfl, by simp, ?_⟩
  have em : mergeK [] [(Sum.inr k1, V.ref b), (Sum.inr k2, V.ref c)] = [((Sum.inr k1 : Key), V.ref b), (Sum.inr k2, V.ref c)] := by
    have h : ¬ ((Sum.inr k1 : Key) = Sum.inr k2) := fun z => hne (Sum.inr.inj z)
    show putK (putK [] (Sum.inr k1) (V.ref b)) (Sum.inr k2) (V.ref c) = _
    unfold putK
    simp [h]
  rw [em]
  have ok1 := ok.newCell (c := ownL ([] : List α)) hb0 rfl ⟨[], rfl, .nil⟩
  have ok2 := ok1.newCell (c := ownL ([] : List α)) (p := c) (by rw [upd_ne ncb]; exact hc0) rfl ⟨[], rfl, .nil⟩
  have ok3 := ok2.newCell (c := ownD [(k1, Adr.mk b), (k2, Adr.mk c)]) (p := p) (o := .dK [((Sum.inr k1 : Key), V.ref b), (Sum.inr k2, V.ref c)]) (by rw [upd_ne (Ne.symm nc), upd_ne (Ne.symm nb)]; exact hp) rfl ⟨_, rfl, .cons ⟨rfl, rfl⟩ (.cons ⟨rfl, rfl⟩ .nil)⟩
  have eh : upd (upd (upd (upd H p (.dK [])) b (.lst [])) c (.lst [])) p (.dK [((Sum.inr k1 : Key), V.ref b), (Sum.inr k2, V.ref c)]) = upd (upd (upd H b (.lst [])) c (.lst [])) p (.dK [((Sum.inr k1 : Key), V.ref b), (Sum.inr k2, V.ref c)]) := by
    funext z
    by_cases h1 : z = p
    · subst h1; rw [upd_same, upd_same]
    · rw [upd_ne h1, upd_ne h1]
      by_cases h2 : z = c
      · subst h2; rw [upd_same, upd_same]
      · rw [upd_ne h2, upd_ne h2]
        by_cases h3 : z = b
        · subst h3; rw [upd_same, upd_same]
        · rw [upd_ne h3, upd_ne h3, upd_ne h1]
  show D.nx _ (upd (upd (upd (upd H p (.dK [])) b (.lst [])) c (.lst [])) p (.dK [((Sum.inr k1 : Key), V.ref b), (Sum.inr k2, V.ref c)]))
  rw [eh]
  exact m.nx _ G _ _ (k p b c) (ok3.set i (v := .ref p) (s := vs (Adr.mk p)) rfl) (Same.refl G)
/-- the two lists of such a dict change no more -/
theorem do_freezeD2 {t : TS} {sl : List (Option Slot)} {a b c : Addr} {k1 k2 : Str} {ys ns : List α} {rest : List (Addr × Cell)} (h : Do B t ⟨sl, (a, ownD [(k1, ys), (k2, ns)]) :: rest⟩ E) :
    Do B t ⟨sl, (a, ownD [(k1, Adr.mk b), (k2, Adr.mk c)]) :: (c, ownL ns) :: (b, ownL ys) :: rest⟩ E := fun σ G H ok X D m => by
  obtain ⟨ga, ha, oa, ea, kvs, rfl, hk⟩ := ok.cell (i := 0) rfl
  obtain ⟨gc, hc, oc, ec, us, rfl, hus⟩ := ok.cell (i := 1) rfl
  obtain ⟨gb, hb, ob, eb, ws, rfl, hws⟩ := ok.cell (i := 2) rfl
  have nd := ok.cr.nd
  simp only [List.map_cons, List.nodup_cons, List.mem_cons, not_or] at nd
  obtain ⟨⟨nac, nab, nar⟩, ⟨ncb, ncr⟩, nbr, _⟩ := nd
  have nr : ∀ {x : Addr}, x ∉ rest.map (·.1) → ∀ q ∈ rest, q.1 ≠ x := fun h q hq z => h (List.mem_map.mpr ⟨q, hq, z⟩)
  have ok0 : Ok B G H σ ⟨sl, rest⟩ := ok.wk ⟨WkL.refl sl, .cons _ (.cons _ (.cons _ (List.Sublist.refl _)))⟩
  have ok1 := ok0.know gb eb hb (nr nbr)
  have s1 : Same G (upd G b (.lst ws)) := same_upd gb
  have ok2 := ok1.know (p := c) (by rw [upd_ne ncb]; exact gc) ec hc (nr ncr)
  have s2 : Same (upd G b (.lst ws)) (upd (upd G b (.lst ws)) c (.lst us)) := same_upd (by rw [upd_ne ncb]; exact gc)
  have s3 := s1.trans s2
  have rb : Enc.rep B.K (upd (upd G b (.lst ws)) c (.lst us)) (V.ref b) ys := ⟨b, ws, rfl, by rw [upd_ne (Ne.symm ncb), upd_same], paired_mono s3 hws⟩
  have rc : Enc.rep B.K (upd (upd G b (.lst ws)) c (.lst us)) (V.ref c) ns := ⟨c, us, rfl, by rw [upd_same], paired_mono s3 hus⟩
  have ok3 := ok2.addCell (p := a) (c := ownD [(k1, ys), (k2, ns)]) (by rw [upd_ne nac, upd_ne nab]; exact ga) ea ha (nr nar) rfl (by
    refine ⟨kvs, rfl, ?_⟩
    match kvs, hk with
    | [p, q], .cons h1 (.cons h2 .nil) =>
      refine .cons ⟨h1.1, ?_⟩ (.cons ⟨h2.1, ?_⟩ .nil)
      · have := (show p.2 = V.ref b from h1.2)
        show Enc.rep _ _ p.2 ys
        rw [this]; exact rb
      · have := (show q.2 = V.ref c from h2.2)
        show Enc.rep _ _ q.2 ns
        rw [this]; exact rc)
  exact h σ _ H ok3 (X.mono s3) D (m.mono s3)
/-! ### isinstance(e, (C1, ..)) of a caught exception; rules with the written part named -/
end
def rIsCT (K : PySem.W.Frag) (a : Addr) (cls : Value) (d : Option Addr) : List V → Hp → VK → Prop := fun xs H Q => ∃ (D tp : Addr) (cs : List V) (us : List Value) (b : Bool), cls = .ref D ∧ XkC K D ∧ xs = [.ref a, .ref tp] ∧ H tp = some (.tup cs) ∧ Paired ClsV cs us ∧ DictOk H d ∧ PySem.W.kitAny K (.ref D) us = some b ∧ Q (.bl b) H
theorem call_isCT {X : Cx} {a : Addr} {cls : Value} {d : Option Addr} {oe : Obj} {pn : List (Addr × Obj)} (hz : Zc cls d oe) (hf : ∃ vs, oe.data = .fields vs) : CallR (X.suite a ((a, oe) :: pn)) (.builtin "isinstance") (rIsCT X.K a cls d) := by
  intro pins s σ H xs us Q I r h
  obtain ⟨D, tp, cs, ws, b, rfl, C, rfl, hT, k, hdk, e, q⟩ := h
  obtain ⟨u1, u2, rfl, r1, r2⟩ := vals2 r
  cases (show u1 = Value.ref a from r1)
  cases (show u2 = Value.ref tp from r2)
  obtain ⟨hget, _⟩ := I.pin (a, oe) (List.mem_append.mpr (.inl List.mem_cons_self))
  obtain ⟨vs, hv⟩ := hf
  have J : ∃ od, PySem.W.InstAt s.heap a oe D od := by
    cases d with
    | none =>
      refine ⟨none, ?_⟩
      obtain ⟨oc, od, oda, osl⟩ := oe
      obtain ⟨h1, h2⟩ := hz
      dsimp only at h1 h2 hv
      subst h1 h2 hv
      exact ⟨hget, rfl, rfl, trivial⟩
    | some dd =>
      obtain ⟨fs, ea⟩ := hdk
      have hx : ObjOk X.prog X.w H s.heap dd (.xd fs) := I.hok dd _ ea
      obtain ⟨mA, hns, hr⟩ := hx
      obtain ⟨od, ho, hl⟩ := lookIn_ns hns
      exact ⟨some od, hget, hz.1, by unfold PySem.W.notCls; rw [hv] <;> rfl, by rw [hz.2]; exact ho⟩
  obtain ⟨od, J⟩ := J
  obtain ⟨_, its, rv, o, h1, h2, n, h3⟩ := (show ObjOk X.prog X.w H s.heap tp (.tup cs) from I.hok tp _ hT)
  have e3 := ClsV.all k rv
  subst e3
  obtain ⟨oc, od2, dt, sl⟩ := o
  simp only at h2 h3
  subst h2 h3
  exact PySem.W.kia_tup (PySem.W.kitx_exc C.cl C.ga C.gg C.sb C.ca C.cn C.ct C.cm) I.kIn J h1 e (fun z => nomatch z) fun tk => ⟨.bl b, H, I.kept (t' := tk) fun _ _ z => z, rfl, q⟩
section
variable {B : Bs} {e : Ev1} {te : TE}
def tRefs (cs : List Addr) : TA := cs.foldr (fun c t => tCons (tC (.ref c)) t) tNil
theorem tRefs_run {cs : List Addr} {σ : L2.St} {H : Hp} {Q : List V → Hp → Prop} : tRefs cs σ H Q ↔ Q (cs.map V.ref) H := by
  induction cs generalizing Q with
  | nil => exact Iff.rfl
  | cons c cs ih => exact ih
theorem cls_refs : ∀ cs : List Addr, Paired ClsV (cs.map V.ref) (cs.map Value.ref)
  | [] => .nil
  | c :: cs => .cons (.own c) (cls_refs cs)
theorem ev_isCT {D a : Addr} {cs : List Addr} {d : Option Addr} {x : XD} {b : Bool} (xk : XkC B.K D) (h : EvD B te e (Exn.mk a d x)) (hl : cs.length ≤ 100) (hk : PySem.W.kitAny B.K (.ref D) (cs.map Value.ref) = some b) (hd : x = xdP D ∨ ∃ fs, x = xdF D fs) : EvD B (tCB (rIsCT B.K a x.cls d) (tCons te (tCons (tTup (tRefs cs)) tNil))) e b := fun σ G H ok X Q q => by
  have e1 : x.cls = .ref D := by
    rcases hd with rfl | ⟨fs, rfl⟩ <;> rfl
  rw [e1]
  refine h σ G H ok X _ fun v z G1 H1 p ok1 s1 r1 => ?_
  subst p
  obtain ⟨e2, H0, s0, r0⟩ := r1
  have e2 : v = V.ref a := e2
  subst e2
  refine tRefs_run.mpr ⟨szl (by rw [List.length_map]; omega), fun tp ht => ?_⟩
  have ok2 := ok1.newH (p := tp) (o := .tup (cs.map V.ref)) ht
  refine ⟨D, tp, cs.map V.ref, cs.map Value.ref, b, rfl, xk, rfl, upd_same, cls_refs cs, ?_, hk, q _ b G1 _ rfl ok2 s1 rfl⟩
  rcases hd with rfl | ⟨fs, rfl⟩
  · have r0 : d = none := r0
    subst r0
    trivial
  · exact rp_dict (s0.trans ok2.gh) r0
end
section
variable {X : Cx} {K : PySem.W.Frag}
theorem ix_listK (h : X.K = K) : IxR X (rIxL K) := h ▸ ix_list
theorem ix_tupK (h : X.K = K) : IxR X (rIxT K) := h ▸ ix_tup
theorem sl_listK (h : X.K = K) : SlR X (rSlL K) := h ▸ sl_list
theorem op_in_seqK (h : X.K = K) : OpR X (compareOp .In) (rIn K false) := h ▸ op_in_seq
theorem op_notIn_seqK (h : X.K = K) : OpR X (compareOp .NotIn) (rIn K true) := h ▸ op_notIn_seq
theorem op_eqDK (h : X.K = K) (hu : X.A.units + 64 < cLine) : OpR X (compareOp .Eq) (rEqD K) := h ▸ op_eqD hu
theorem op_neDK (h : X.K = K) (hu : X.A.units + 64 < cLine) : OpR X (compareOp .NotEq) (rNeD K) := h ▸ op_neD hu
theorem op_lePK (h : X.K = K) (hu : X.A.units < cLine) : OpR X (compareOp .LtE) (rLeP K) := h ▸ op_leP hu
theorem mt_joinSK (h : X.K = K) : MtR X "str.join" (rJoinS K) := h ▸ mt_joinS
theorem cr_anyK (h : X.K = K) (hc : X.calm = true) : CallR X (.builtin "any") (rAny K) := h ▸ cr_any hc
theorem cr_allK (h : X.K = K) (hc : X.calm = true) : CallR X (.builtin "all") (rAll K) := h ▸ cr_all hc
theorem cr_sumK (h : X.K = K) (hc : X.calm = true) : CallR X (.builtin "sum") (rSum K) := h ▸ cr_sum hc
theorem pe_fldK {e : Expr} {f : Str} {pos : Pos} {ta : TE} (h : X.K = K) (he : PE X e ta) (hb : attributeBase e f X.env (eval e X.env) = eval e X.env) : PE X (.Attribute e f pos) (tFld K ta f) := h ▸ pe_fld he hb
theorem pi_listK {tg l : Expr} {tl : TE} (h : X.K = K) (hl : PE X l tl) : PI X tg l (iList K tl) := h ▸ pi_list hl
theorem pi_tupK {tg l : Expr} {tl : TE} (h : X.K = K) (hl : PE X l tl) : PI X tg l (iTup K tl) := h ▸ pi_tup hl
end
end Fw

namespace Lm
open PySem L2 Fw
/-! mathematics that several laws share -/
abbrev con_SMALL : Str := "abcdefghijklmnopqrstuvwxyz"
theorem stC_mono {K : PySem.W.Frag} {H H' : Hp} {o : HO} (e : Same H H') (h : ∃ (cells : List Int) (i cur k : Int), cells ≠ [] ∧ cells.length ≤ 1000 ∧ ∃ us, o = .lst us ∧ Reps K H us [vs cells, vs i, vs cur, vs k]) : ∃ (cells : List Int) (i cur k : Int), cells ≠ [] ∧ cells.length ≤ 1000 ∧ ∃ us, o = .lst us ∧ Reps K H' us [vs cells, vs i, vs cur, vs k] := by
  obtain ⟨a, b, c, d, h1, h2, us, h3, h4⟩ := h
  exact ⟨a, b, c, d, h1, h2, us, h3, reps_mono e h4⟩
def stC (lc : Bool) : Cell := ⟨lc, fun K H o => ∃ (cells : List Int) (i cur k : Int), cells ≠ [] ∧ cells.length ≤ 1000 ∧ ∃ us, o = .lst us ∧ Reps K H us [vs cells, vs i, vs cur, vs k], stC_mono⟩
theorem stC_of {lc : Bool} {cells : List Int} {i cur k : Int} {K : PySem.W.Frag} {G : Hp} {o : HO} (h1 : cells ≠ []) (h2 : cells.length ≤ 1000) (h : (ownS lc [vs cells, vs i, vs cur, vs k]).hp K G o) : (stC lc).hp K G o := ⟨cells, i, cur, k, h1, h2, h⟩
theorem stC_open {K : PySem.W.Frag} {G : Hp} {o : HO} (h : (stC false).hp K G o) : ∃ i : List Int × Int × Int × Int, (i.1 ≠ [] ∧ i.1.length ≤ 1000) ∧ (ownS false [vs i.1, vs i.2.1, vs i.2.2.1, vs i.2.2.2]).hp K G o := by
  obtain ⟨a, b, c, d, h1, h2, h3⟩ := h
  exact ⟨(a, b, c, d), ⟨h1, h2⟩, h3⟩
def goodL (s : Str) : Prop := 1 ≤ s.length ∧ s.length ≤ 4 ∧ (tl s).Pairwise (· < ·) ∧ ∀ c ∈ tl s, 97 ≤ c ∧ c ≤ 122
def LetI (pre : List Str) (b : Str) : Prop := (pre.map sgn).Pairwise (· < ·) ∧ (∀ x ∈ pre, 97 ≤ sgn x ∧ sgn x ≤ 122) ∧ ((pre = [] ∧ b = "") ∨ (b = ⟨#[sgn b]⟩ ∧ ∃ q, pre = q ++ [b]))
def inL (letters word : Str) : Prop := ∀ c ∈ tl word, c ∈ tl letters
def badAt (letters word : Str) (k : Nat) : Prop := k < word.length ∧ (tl word).getD k 0 ∉ tl letters ∧ ∀ j, j < k → (tl word).getD j 0 ∈ tl letters
def idx (a b : Str) : Nat := (Txt.index0 a b).getD 0
theorem mem_signs {s x : Str} (h : x ∈ signs s) : ∃ c, c ∈ tl s ∧ x = ⟨#[c]⟩ := by
  unfold signs at h
  obtain ⟨c, h1, h2⟩ := List.mem_map.mp h
  exact ⟨c, h1, h2.symm⟩
theorem sgn_one (c : Nat) : sgn (⟨#[c]⟩ : Str) = c := rfl
theorem sgn_mem {s x : Str} (h : x ∈ signs s) : x = ⟨#[sgn x]⟩ ∧ sgn x ∈ tl s := by
  obtain ⟨c, h1, rfl⟩ := mem_signs h
  exact ⟨rfl, h1⟩
theorem sgn_split {s x : Str} {pre post : List Str} (h : signs s = pre ++ x :: post) : x = ⟨#[sgn x]⟩ := (sgn_mem (s := s) (by rw [h]; simp)).1
theorem sgn_in {s x : Str} {pre post : List Str} (h : signs s = pre ++ x :: post) : sgn x ∈ tl s := (sgn_mem (s := s) (by rw [h]; simp)).2
theorem mem_enum {s : Str} {z : Int × Str} (h : z ∈ enumI (signs s)) : z.2 = ⟨#[sgn z.2]⟩ := by
  obtain ⟨i, hi⟩ := List.mem_iff_getElem?.mp h
  exact (sgn_mem (s := s) (List.mem_of_getElem? (enumI_get hi).2)).1
theorem sgn_split2 {s : Str} {x : Int × Str} {pre post : List (Int × Str)} (h : enumI (signs s) = pre ++ x :: post) : x.2 = ⟨#[sgn x.2]⟩ := mem_enum (s := s) (by rw [h]; simp)
theorem signs_len {s : Str} : (signs s).length = s.length := by
  unfold signs
  rw [List.length_map, Array.length_toList]
  rfl
theorem signs_sgn {s : Str} : (signs s).map sgn = tl s := by
  unfold signs
  rw [List.map_map]
  exact (List.map_congr_left fun _ _ => rfl).trans (List.map_id _)
theorem keysD_len {β : Type} [Enc β] {d : List (Str × β)} : (keysD d).length = d.length := List.length_map ..
theorem rng_split {lo : Int} {n : Nat} {pre post : List Int} {x : Int} (h : rngI lo n = pre ++ x :: post) : x = lo + (pre.length : Int) ∧ pre.length < n := by
  have h1 : (rngI lo n)[pre.length]? = some x := by rw [h, List.getElem?_append_right (Nat.le_refl _), Nat.sub_self]; rfl
  obtain ⟨h2, h3⟩ := rngI_get h1
  exact ⟨h3, h2⟩
theorem emod_both {a b : Int} (h : 0 < b) : 0 ≤ a % b ∧ a % b < b := ⟨Int.emod_nonneg _ (by omega), Int.emod_lt_of_pos _ h⟩
theorem small_lo : ∀ c ∈ tl con_SMALL, 97 ≤ c ∧ c ≤ 122 := by decide +kernel
theorem small_hi : ∀ c, c < 123 → 97 ≤ c → c ∈ tl con_SMALL := by decide +kernel
theorem tl_one {x : Str} (h : x = ⟨#[sgn x]⟩) : tl x = [sgn x] := by
  show x.cps.toList = _
  rw [h]
  rfl
theorem letI_nil {b : Str} (h : b = "") : LetI [] b := ⟨List.Pairwise.nil, by simp, .inl ⟨rfl, h⟩⟩
theorem lt_one {a b : Nat} : ([a] : List Nat) < [b] ↔ a < b := by
  rw [List.cons_lt_cons_iff]
  simp
theorem letI_lt {pre : List Str} {b x : Str} (hx : x = ⟨#[sgn x]⟩) (hI : LetI pre b) : tl b < tl x ↔ ∀ y ∈ pre, sgn y < sgn x := by
  obtain ⟨h1, h2, h3⟩ := hI
  rw [tl_one hx]
  rcases h3 with ⟨rfl, rfl⟩ | ⟨hb, q, rfl⟩
  · constructor
    · intro _ y hy
      simp at hy
    · intro _
      exact List.nil_lt_cons _ _
  · rw [tl_one hb, lt_one]
    constructor
    · intro h y hy
      rcases List.mem_append.mp hy with hy | hy
      · rw [List.map_append, List.pairwise_append] at h1
        have := h1.2.2 (sgn y) (List.mem_map_of_mem hy) (sgn b) (by simp)
        omega
      · simp at hy
        subst hy
        exact h
    · intro h
      exact h b (by simp)
theorem letI_step {pre : List Str} {b x : Str} (hx : x = ⟨#[sgn x]⟩) (hI : LetI pre b) (h : (!decide (sgn x ∈ tl con_SMALL) || !decide (tl b < tl x)) = false) : LetI (pre ++ [x]) x := by
  simp only [Bool.or_eq_false_iff, Bool.not_eq_false', decide_eq_true_eq] at h
  have h2 := (letI_lt hx hI).mp h.2
  refine ⟨?_, ?_, .inr ⟨hx, pre, rfl⟩⟩
  · rw [List.map_append, List.pairwise_append]
    refine ⟨hI.1, by simp, fun a ha c hc => ?_⟩
    obtain ⟨y, hy, rfl⟩ := List.mem_map.mp ha
    simp at hc
    subst hc
    exact h2 y hy
  · intro y hy
    rcases List.mem_append.mp hy with hy | hy
    · exact hI.2.1 y hy
    · simp at hy
      subst hy
      exact small_lo _ h.1
theorem letI_bad {letters : Str} {pre post : List Str} {b x : Str} (hs : signs letters = pre ++ x :: post) (hI : LetI pre b) (h : (!decide (sgn x ∈ tl con_SMALL) || !decide (tl b < tl x)) = true) : ¬ goodL letters := by
  intro g
  obtain ⟨_, _, g1, g2⟩ := g
  rw [← signs_sgn, hs, List.map_append, List.map_cons, List.pairwise_append] at g1
  simp only [Bool.or_eq_true, Bool.not_eq_true', decide_eq_false_iff_not] at h
  have hx := sgn_split hs
  rcases h with h | h
  · have := g2 _ (sgn_in hs)
    exact h (small_hi _ (by omega) this.1)
  · exact h ((letI_lt hx hI).mpr fun y hy => g1.2.2 _ (List.mem_map_of_mem hy) _ (by simp))
theorem letI_end {letters b : Str} (h : (decide ((letters.length : Int) < 1) || decide (4 < (letters.length : Int))) = false) (hI : LetI (signs letters) b) : goodL letters := by
  simp only [Bool.or_eq_false_iff, decide_eq_false_iff_not] at h
  refine ⟨by omega, by omega, ?_, ?_⟩
  · rw [← signs_sgn]
    exact hI.1
  · intro c hc
    rw [← signs_sgn] at hc
    obtain ⟨y, hy, rfl⟩ := List.mem_map.mp hc
    exact hI.2.1 y hy
theorem enum_mem {s : Str} {c : Nat} (h : c ∈ tl s) : ∃ z ∈ enumI (signs s), sgn z.2 = c := by
  obtain ⟨i, hi⟩ := List.mem_iff_getElem?.mp h
  have h2 : (signs s)[i]? = some ⟨#[c]⟩ := by
    unfold signs
    rw [List.getElem?_map, show s.cps.toList[i]? = some c from hi]
    rfl
  refine ⟨((i : Nat), ⟨#[c]⟩), ?_, rfl⟩
  unfold enumI
  rw [List.mem_map]
  exact ⟨(⟨#[c]⟩, i), by rw [List.mem_zipIdx_iff_getElem?]; exact h2, rfl⟩
theorem tl_getD {s : Str} {k : Nat} {x : Str} (h : (signs s)[k]? = some x) : (tl s).getD k 0 = sgn x := by
  unfold signs at h
  rw [List.getElem?_map] at h
  cases e : s.cps.toList[k]? with
  | none => rw [e] at h; cases h
  | some c =>
    rw [e] at h
    have h : (⟨#[c]⟩ : Str) = x := Option.some.inj h
    subst h
    show s.cps.toList.getD k 0 = c
    rw [List.getD_eq_getElem?_getD, e]
    rfl
theorem enum_split {s : Str} {pre post : List (Int × Str)} {it : Int × Str} (hs : enumI (signs s) = pre ++ it :: post) : it.1 = (pre.length : Int) ∧ (signs s)[pre.length]? = some it.2 := by
  have h1 : (enumI (signs s))[pre.length]? = some it := by rw [hs, List.getElem?_append_right (Nat.le_refl _), Nat.sub_self]; rfl
  exact enumI_get h1
theorem bad_of {letters word : Str} {pre post : List (Int × Str)} {it : Int × Str} (hs : enumI (signs word) = pre ++ it :: post) (hI : ∀ z ∈ pre, sgn z.2 ∈ tl letters) (h : (!decide (sgn it.2 ∈ tl letters)) = true) : badAt letters word pre.length := by
  simp only [Bool.not_eq_true', decide_eq_false_iff_not] at h
  obtain ⟨_, h2⟩ := enum_split hs
  have hl := congrArg List.length hs
  rw [enumI_len, signs_len, List.length_append, List.length_cons] at hl
  refine ⟨by omega, by rw [tl_getD h2]; exact h, fun j hj => ?_⟩
  have hj2 : (enumI (signs word))[j]? = some pre[j] := by
    rw [hs, List.getElem?_append_left hj, List.getElem?_eq_getElem hj]
  rw [tl_getD (enumI_get hj2).2]
  exact hI _ (List.getElem_mem hj)
theorem putD_keys {β : Type} [Enc β] {d : List (Str × β)} {k : Str} {v : β} : keysD (putD d k v) = if k ∈ keysD d then keysD d else keysD d ++ [k] := by
  unfold putD
  have e : (d.any fun q => decide (q.1 = k)) = decide (k ∈ keysD d) := by
    rw [Bool.eq_iff_iff, List.any_eq_true, decide_eq_true_eq]
    unfold keysD
    rw [List.mem_map]
    constructor
    · rintro ⟨q, h1, h2⟩
      exact ⟨q, h1, of_decide_eq_true h2⟩
    · rintro ⟨q, h1, h2⟩
      exact ⟨q, h1, decide_eq_true h2⟩
  rw [e]
  by_cases h : k ∈ keysD d
  · rw [decide_eq_true h, if_pos rfl, if_pos h]
    unfold keysD
    rw [List.map_map]
    refine List.map_congr_left fun q _ => ?_
    show (if q.1 = k then (q.1, v) else q).1 = q.1
    split <;> rfl
  · rw [decide_eq_false h, if_neg Bool.false_ne_true, if_neg h]
    unfold keysD
    rw [List.map_append]
    rfl
theorem putD_mem {β : Type} [Enc β] {d : List (Str × β)} {k x : Str} {v : β} : x ∈ keysD (putD d k v) ↔ x ∈ keysD d ∨ x = k := by
  rw [putD_keys]
  by_cases h : k ∈ keysD d
  · rw [if_pos h]
    exact ⟨.inl, fun q => q.elim id fun e => e ▸ h⟩
  · rw [if_neg h, List.mem_append, List.mem_singleton]
theorem putD_nodup {β : Type} [Enc β] {d : List (Str × β)} {k : Str} {v : β} (h : (keysD d).Nodup) : (keysD (putD d k v)).Nodup := by
  rw [putD_keys]
  by_cases e : k ∈ keysD d
  · rw [if_pos e]
    exact h
  · rw [if_neg e, List.nodup_append]
    refine ⟨h, by simp, fun a ha b hb z => ?_⟩
    simp at hb
    subst hb
    subst z
    exact e ha
theorem putD_len {β : Type} [Enc β] {d : List (Str × β)} {k : Str} {v : β} : (putD d k v).length ≤ d.length + 1 := by
  rw [← keysD_len, ← keysD_len, putD_keys]
  split
  · omega
  · simp
theorem nodup_sub : ∀ {l m : List Str}, l.Nodup → (∀ x ∈ l, x ∈ m) → l.length ≤ m.length
  | [], _, _, _ => Nat.zero_le _
  | x :: l, m, h, s => by
    rw [List.nodup_cons] at h
    have hx : x ∈ m := s x (by simp)
    have h2 : l.length ≤ (m.erase x).length := nodup_sub h.2 fun y hy => by
      have ne : y ≠ x := fun e => h.1 (e ▸ hy)
      exact (List.mem_erase_of_ne ne).mpr (s y (List.mem_cons_of_mem _ hy))
    have h3 := List.length_erase_of_mem hx
    have h4 : 0 < m.length := List.length_pos_of_mem hx
    rw [List.length_cons]
    omega
theorem tl_app (x y : Str) : tl (x ++ y) = tl x ++ tl y := by
  show (x.cps ++ y.cps).toList = _
  simp
theorem len_tl (x : Str) : (tl x).length = x.length := Array.length_toList
theorem len_app (x y : Str) : (x ++ y).length = x.length + y.length := by rw [← len_tl, tl_app, List.length_append, len_tl, len_tl]
theorem len_one {x : Str} (h : x = ⟨#[sgn x]⟩) : x.length = 1 := by rw [← len_tl, tl_one h]; rfl
theorem flatMap_congr' {β γ : Type} {f g : β → List γ} : ∀ {l : List β}, (∀ x ∈ l, f x = g x) → l.flatMap f = l.flatMap g
  | [], _ => rfl
  | x :: l, h => by
    rw [List.flatMap_cons, List.flatMap_cons, h x (by simp), flatMap_congr' fun y hy => h y (List.mem_cons_of_mem _ hy)]
theorem flat_len {β γ : Type} (f : β → List γ) (m : Nat) : ∀ l : List β, (∀ x ∈ l, (f x).length ≤ m) → (l.flatMap f).length ≤ l.length * m
  | [], _ => by simp
  | x :: l, h => by
    rw [List.flatMap_cons, List.length_append, List.length_cons, Nat.succ_mul]
    have h1 := h x (by simp)
    have h2 := flat_len f m l fun y hy => h y (List.mem_cons_of_mem _ hy)
    omega
theorem tl_inj : ∀ {a b : List Str}, a.map tl = b.map tl → a = b
  | [], [], _ => rfl
  | [], _ :: _, h => by simp at h
  | _ :: _, [], h => by simp at h
  | x :: a, y :: b, h => by
    rw [List.map_cons, List.map_cons, List.cons.injEq] at h
    rw [tl_inj h.2, str_eq_iff.mp h.1]
theorem sgnAt_tl (z : Str) (k : Nat) : tl (sgnAt z k) = [(tl z).getD k 0] := by
  show [z.cps.getD k 0] = _
  congr 1
  show _ = z.cps.toList.getD k 0
  rw [List.getD_eq_getElem?_getD, Array.getElem?_toList]
  by_cases h : k < z.cps.size
  · rw [Array.getElem?_eq_getElem h]
    simp [Array.getD, h]
  · rw [Array.getElem?_eq_none (by omega)]
    simp [Array.getD, h]
theorem sgnAt_len (z : Str) (k : Nat) : (sgnAt z k).length = 1 := rfl
theorem cut_pre {z : Str} {k : Nat} : tl (cutS z none (some (k : Int))) = (tl z).take k := by
  show ((z.cps.toList.drop (HT.sIx z.length 0 none)).take (HT.sIx z.length z.length (some (k : Int)) - HT.sIx z.length 0 none)).toArray.toList = _
  rw [HT.sIx_none, HT.sIx_nat, Nat.sub_zero, List.drop_zero]
  show (tl z).take (min k z.length) = _
  rw [← len_tl, List.take_eq_take_iff]
  omega
theorem cut_post {z : Str} {k : Nat} : tl (cutS z (some (k : Int)) none) = (tl z).drop k := by
  show ((z.cps.toList.drop (HT.sIx z.length 0 (some (k : Int)))).take (HT.sIx z.length z.length none - HT.sIx z.length 0 (some (k : Int)))).toArray.toList = _
  rw [HT.sIx_none, HT.sIx_nat]
  show ((tl z).drop (min k z.length)).take (z.length - min k z.length) = _
  rw [List.take_of_length_le (by rw [List.length_drop, len_tl]; exact Nat.le_refl _), ← len_tl]
  by_cases h : k ≤ (tl z).length
  · rw [Nat.min_eq_left h]
  · rw [Nat.min_eq_right (by omega), List.drop_of_length_le (Nat.le_refl _), List.drop_of_length_le (by omega)]
theorem inL_app {letters w x : Str} (h : inL letters w) (hx : inL letters x) : inL letters (w ++ x) := by
  intro c hc
  rw [tl_app] at hc
  rcases List.mem_append.mp hc with hc | hc
  · exact h c hc
  · exact hx c hc
theorem inL_sgn {letters : Str} {k : Nat} (h : k < letters.length) : inL letters (sgnAt letters k) := by
  intro c hc
  rw [sgnAt_tl] at hc
  simp only [List.mem_singleton] at hc
  subst hc
  rw [← len_tl] at h
  rw [List.getD_eq_getElem?_getD, List.getElem?_eq_getElem h]
  exact List.getElem_mem h
theorem inL_snoc {letters w : Str} {r : Int} (h : inL letters w) (h0 : 0 ≤ r) (h1 : r < letters.length) : inL letters (w ++ sgnAt letters r.toNat) := inL_app h (inL_sgn (by omega))
theorem rng_map {β : Type} (f : Nat → β) (n : Nat) : (rngI 0 n).map (fun i => f i.toNat) = (List.range n).map f := by
  unfold rngI
  rw [List.map_map]
  refine List.map_congr_left fun i _ => ?_
  show f ((0 : Int) + (i : Int)).toNat = f i
  congr 1
  omega
theorem badAt_uniq {l s : Str} {a b : Nat} (h1 : badAt l s a) (h2 : badAt l s b) : a = b := by
  rcases Nat.lt_trichotomy a b with h | h | h
  · exact absurd (h2.2.2 a h) h1.2.1
  · exact h
  · exact absurd (h1.2.2 b h) h2.2.1
theorem bad_not_in {l s : Str} {a : Nat} (h1 : badAt l s a) : ¬ inL l s := fun h => h1.2.1 (h _ (by
  rw [List.getD_eq_getElem?_getD, List.getElem?_eq_getElem (by rw [len_tl]; exact h1.1)]
  exact List.getElem_mem _))
instance goodL_dec (s : Str) : Decidable (goodL s) := by unfold goodL; infer_instance
theorem good6' : ∀ n, n < 6 → goodL (([("ab" : Str), ("a" : Str), ("abc" : Str), ("bd" : Str), ("acz" : Str), ("abcd" : Str)] : List Str).getD n dS) := by decide +kernel
theorem good6 {r : Int} {l : Str} (h : 0 ≤ r ∧ r < 6) (e : l = ([("ab" : Str), ("a" : Str), ("abc" : Str), ("bd" : Str), ("acz" : Str), ("abcd" : Str)] : List Str).getD r.toNat dS) : goodL l := by
  rw [e]; exact good6' _ (by omega)
theorem bad8' : ∀ n, n < 8 → ¬ goodL (([("" : Str), ("ba" : Str), ("aa" : Str), ("abcde" : Str), ("aB" : Str), ("a1" : Str), ("a b" : Str), ("abca" : Str)] : List Str).getD n dS) ∧ (([("" : Str), ("ba" : Str), ("aa" : Str), ("abcde" : Str), ("aB" : Str), ("a1" : Str), ("a b" : Str), ("abca" : Str)] : List Str).getD n dS).length ≤ 1000 := by decide +kernel
theorem bad8 {r : Int} {l : Str} (h : 0 ≤ r ∧ r < 8) (e : l = ([("" : Str), ("ba" : Str), ("aa" : Str), ("abcde" : Str), ("aB" : Str), ("a1" : Str), ("a b" : Str), ("abca" : Str)] : List Str).getD r.toNat dS) : ¬ goodL l ∧ l.length ≤ 1000 := by
  rw [e]; exact bad8' _ (by omega)
theorem sgn4' : ∀ n, n < 4 → (tl (([("?" : Str), ("A" : Str), (" " : Str), ("0" : Str)] : List Str).getD n dS)).length = 1 ∧ ∀ c ∈ tl (([("?" : Str), ("A" : Str), (" " : Str), ("0" : Str)] : List Str).getD n dS), ¬ (97 ≤ c ∧ c ≤ 122) := by decide +kernel
theorem sgn4 {r : Int} {l : Str} (h : 0 ≤ r ∧ r < 4) (e : l = ([("?" : Str), ("A" : Str), (" " : Str), ("0" : Str)] : List Str).getD r.toNat dS) : (tl l).length = 1 ∧ ∀ c ∈ tl l, ¬ (97 ≤ c ∧ c ≤ 122) := by
  rw [e]; exact sgn4' _ (by omega)
theorem cut_lo {z : Str} {p : Int} (h : 0 ≤ p) : tl (cutS z none (some p)) = (tl z).take p.toNat := by
  have := cut_pre (z := z) (k := p.toNat)
  rw [Int.toNat_of_nonneg h] at this
  exact this
theorem cut_hi {z : Str} {p : Int} (h : 0 ≤ p) : tl (cutS z (some p) none) = (tl z).drop p.toNat := by
  have := cut_post (z := z) (k := p.toNat)
  rw [Int.toNat_of_nonneg h] at this
  exact this
theorem spo_len {z : Str} {p : Int} (h : 0 ≤ p) : (cutS z none (some p)).length ≤ z.length ∧ (cutS z (some p) none).length ≤ z.length := by
  rw [← len_tl, cut_lo h, ← len_tl (cutS _ _ _), cut_hi h, List.length_take, List.length_drop, len_tl]
  omega
theorem str_ext {a b : Str} (h : tl a = tl b) : a = b := by
  have := tl_inj (a := [a]) (b := [b]) (by simpa using h)
  simpa using this
theorem if_toNat (x : Int) : (if x > 0 then x else 0).toNat = x.toNat := by
  split <;> omega
theorem okI (l : List Int) : PD.ok l = true := List.all_eq_true.mpr fun _ _ => rfl
theorem okS {letters : Str} {l : List Str} (g : goodL letters) (h : ∀ w ∈ l, inL letters w) : PD.ok l = true := by
  refine List.all_eq_true.mpr fun w hw => ?_
  show (w.cps.all (· < 0x110000)) = true
  rw [← Array.all_toList]
  refine List.all_eq_true.mpr fun c hc => decide_eq_true ?_
  have := g.2.2.2 c (h w hw c hc)
  omega
theorem paired_all {α β : Type} {R : α → β → Prop} {P : β → Prop} (k : ∀ a b, R a b → P b) : ∀ {xs : List α} {ys : List β}, Paired R xs ys → ys.length = xs.length ∧ ∀ y ∈ ys, P y
  | _, _, .nil => ⟨rfl, by simp⟩
  | _, _, .cons a r => by
    obtain ⟨h1, h2⟩ := paired_all k r
    refine ⟨by simp [h1], fun y hy => ?_⟩
    rcases List.mem_cons.mp hy with rfl | hy
    · exact k _ _ a
    · exact h2 y hy
theorem sgnAt_eq (z : Str) (k : Nat) : sgnAt z k = ⟨#[(tl z).getD k 0]⟩ := str_ext (by rw [sgnAt_tl])
theorem mul_word {letters : Str} {k : Nat} {n : Int} (hk : k < letters.length) : (Txt.mul (sgnAt letters k) n).length = n.toNat ∧ inL letters (Txt.mul (sgnAt letters k) n) := by
  have h := PyProof.Rows.mul_one_list ((tl letters).getD k 0) n
  rw [← sgnAt_eq] at h
  have h : tl (Txt.mul (sgnAt letters k) n) = _ := h
  refine ⟨by rw [← len_tl, h, List.length_replicate], fun c hc => ?_⟩
  rw [h] at hc
  have hi := inL_sgn hk
  refine hi c ?_
  rw [sgnAt_tl]
  rw [(List.mem_replicate.mp hc).2]
  exact List.mem_singleton.mpr rfl
end Lm

namespace Lm
open PySem L2 Fw
/-! texts split and joined at one character -/
def jn (c : Nat) : List (List Nat) → List Nat
  | [] => []
  | [x] => x
  | x :: y :: r => x ++ c :: jn c (y :: r)
theorem jn_cons {c : Nat} {x : List Nat} {l : List (List Nat)} (h : l ≠ []) : jn c (x :: l) = x ++ c :: jn c l := by
  cases l with
  | nil => exact absurd rfl h
  | cons y r => rfl
theorem tl_join (c : Nat) : ∀ l : List Str, tl (Str.join ⟨#[c]⟩ l) = jn c (l.map tl)
  | [] => rfl
  | [x] => rfl
  | x :: y :: r => by
    show tl (x ++ ⟨#[c]⟩ ++ Str.join ⟨#[c]⟩ (y :: r)) = _
    rw [tl_app, tl_app, tl_join c (y :: r), List.append_assoc]
    rfl
theorem join_eq (sep : Str) (l : List Str) : Txt.join sep l = Str.join sep l := StrLaws.glued_eq_join sep l
/-- up to the first c -/
theorem first_c {c : Nat} : ∀ {x y r s : List Nat}, c ∉ x → c ∉ y → x ++ c :: r = y ++ c :: s → x = y ∧ r = s
  | [], [], _, _, _, _, h => ⟨rfl, (List.cons.inj h).2⟩
  | [], b :: y, _, _, _, hy, h => by
    have := (List.cons.inj h).1
    exact absurd (by rw [this]; exact List.mem_cons_self) hy
  | a :: x, [], _, _, hx, _, h => by
    have := (List.cons.inj h).1
    exact absurd (by rw [← this]; exact List.mem_cons_self) hx
  | a :: x, b :: y, r, s, hx, hy, h => by
    obtain ⟨h1, h2⟩ := List.cons.inj h
    obtain ⟨h3, h4⟩ := first_c (fun m => hx (List.mem_cons_of_mem _ m)) (fun m => hy (List.mem_cons_of_mem _ m)) h2
    exact ⟨by rw [h1, h3], h4⟩
theorem jn_inj {c : Nat} : ∀ {l m : List (List Nat)}, l ≠ [] → m ≠ [] → (∀ p ∈ l, c ∉ p) → (∀ p ∈ m, c ∉ p) → jn c l = jn c m → l = m
  | [], _, h, _, _, _, _ => absurd rfl h
  | _, [], _, h, _, _, _ => absurd rfl h
  | [x], [y], _, _, _, _, h => by rw [show x = y from h]
  | [x], y :: z :: m, _, _, hl, _, h => by
    have h : x = y ++ c :: jn c (z :: m) := h
    exact absurd (by rw [h]; simp) (hl x List.mem_cons_self)
  | x :: z :: l, [y], _, _, _, hm, h => by
    have h : x ++ c :: jn c (z :: l) = y := h
    exact absurd (by rw [← h]; simp) (hm y List.mem_cons_self)
  | x :: z :: l, y :: w :: m, _, _, hl, hm, h => by
    obtain ⟨h1, h2⟩ := first_c (hl x List.mem_cons_self) (hm y List.mem_cons_self) h
    rw [h1, jn_inj (List.cons_ne_nil _ _) (List.cons_ne_nil _ _) (fun p hp => hl p (List.mem_cons_of_mem _ hp)) (fun p hp => hm p (List.mem_cons_of_mem _ hp)) h2]
theorem split_ne (x y : Str) : Txt.split x y ≠ [] := fun h => by
  have := PyProof.Rows.split_pos x y
  rw [h] at this
  simp at this
theorem split_free (x : Str) (c : Nat) : ∀ p ∈ Txt.split x ⟨#[c]⟩, c ∉ tl p := StrLaws.split_free x c
theorem split_len_le (x y : Str) : (Txt.split x y).length ≤ x.length + 2 := PyProof.Rows.split_le x y
theorem split_part {x y a : Str} (h : a ∈ Txt.split x y) : a.length ≤ x.length := PyProof.Rows.part_short h
theorem tl_split (x : Str) (c : Nat) : jn c ((Txt.split x ⟨#[c]⟩).map tl) = tl x := by
  rw [← tl_join, StrLaws.join_split]
/-- what splits so is what is joined so -/
theorem split_is {x : Str} {c : Nat} {l : List Str} (h : l ≠ []) (hf : ∀ p ∈ l, c ∉ tl p) (e : tl x = jn c (l.map tl)) : Txt.split x ⟨#[c]⟩ = l := by
  refine tl_inj (jn_inj (by simpa using split_ne x ⟨#[c]⟩) (by simpa using h) (fun p hp => ?_) (fun p hp => ?_) ((tl_split x c).trans e))
  · obtain ⟨q, hq, rfl⟩ := List.mem_map.mp hp
    exact split_free x c q hq
  · obtain ⟨q, hq, rfl⟩ := List.mem_map.mp hp
    exact hf q hq
theorem split_join {c : Nat} {l : List Str} (h : l ≠ []) (hf : ∀ p ∈ l, c ∉ tl p) : Txt.split (Txt.join ⟨#[c]⟩ l) ⟨#[c]⟩ = l := split_is h hf (by rw [join_eq, tl_join])
theorem jn_len {c : Nat} : ∀ l : List (List Nat), (jn c l).length ≤ (l.map List.length).sum + l.length
  | [] => Nat.le_refl _
  | [x] => by simp [jn]
  | x :: y :: r => by
    have := jn_len (c := c) (y :: r)
    rw [jn_cons (List.cons_ne_nil _ _), List.length_append, List.length_cons, List.map_cons, List.sum_cons, List.length_cons (a := x)]
    omega
theorem sum_le {l : List Nat} {b : Nat} (h : ∀ x ∈ l, x ≤ b) : l.sum ≤ l.length * b := by
  induction l with
  | nil => simp
  | cons x l ih =>
    rw [List.sum_cons, List.length_cons, Nat.succ_mul]
    have h1 := h x List.mem_cons_self
    have h2 := ih fun y hy => h y (List.mem_cons_of_mem _ hy)
    omega
theorem join_len_le {c : Nat} {l : List Str} {b : Nat} (h : ∀ p ∈ l, p.length ≤ b) : (Txt.join ⟨#[c]⟩ l).length ≤ l.length * b + l.length := by
  rw [← len_tl, join_eq, tl_join]
  have h1 := jn_len (c := c) (l.map tl)
  have h2 := sum_le (l := (l.map tl).map List.length) (b := b) (fun x hx => by
    obtain ⟨q, hq, rfl⟩ := List.mem_map.mp hx
    obtain ⟨p, hp, rfl⟩ := List.mem_map.mp hq
    rw [len_tl]
    exact h p hp)
  simp only [List.length_map] at h1 h2
  omega
theorem sum_len_le {l : List Str} {b : Nat} (h : ∀ p ∈ l, p.length ≤ b) : (l.map (·.length)).sum ≤ l.length * b := by
  have h2 := sum_le (l := l.map (·.length)) (b := b) (fun x hx => by
    obtain ⟨p, hp, rfl⟩ := List.mem_map.mp hx
    exact h p hp)
  rwa [List.length_map] at h2
end Lm

namespace Lm
open PySem L2 Fw
/-! order of words, dicts as sets, the place of a sign -/
def wLt (a b : Str) : Prop := a.length < b.length ∨ (a.length = b.length ∧ tl a < tl b)
/-- r: the words of Q, each once, in order -/
def SUp (Q : Str → Prop) (r : List Str) : Prop := r.Pairwise wLt ∧ ∀ x, x ∈ r ↔ Q x
def DicI (pre : List Str) (d : List (Str × Bool)) : Prop := (keysD d).Nodup ∧ (∀ x, x ∈ keysD d ↔ x ∈ pre) ∧ d.length ≤ pre.length
theorem lex_irr : ∀ l : List Nat, ¬ l < l := fun l h => List.lt_irrefl l h
theorem wLt_trans {a b c : Str} (h1 : wLt a b) (h2 : wLt b c) : wLt a c := by
  rcases h1 with h1 | ⟨h1, k1⟩ <;> rcases h2 with h2 | ⟨h2, k2⟩
  · exact .inl (by omega)
  · exact .inl (by omega)
  · exact .inl (by omega)
  · exact .inr ⟨by omega, List.lt_trans k1 k2⟩
theorem wLt_irr {a : Str} (h : wLt a a) : False := by
  rcases h with h | ⟨_, h⟩
  · omega
  · exact lex_irr _ h
theorem sup_uniq : ∀ {a b : List Str}, a.Pairwise wLt → b.Pairwise wLt → (∀ x, x ∈ a ↔ x ∈ b) → a = b
  | [], [], _, _, _ => rfl
  | [], y :: b, _, _, h => absurd ((h y).mpr (by simp)) (by simp)
  | x :: a, [], _, _, h => absurd ((h x).mp (by simp)) (by simp)
  | x :: a, y :: b, ha, hb, h => by
    rw [List.pairwise_cons] at ha hb
    have e : x = y := by
      rcases List.mem_cons.mp ((h x).mp (by simp)) with e | e
      · exact e
      · rcases List.mem_cons.mp ((h y).mpr (by simp)) with e' | e'
        · exact e'.symm
        · exact (wLt_irr (wLt_trans (ha.1 y e') (hb.1 x e))).elim
    subst e
    have hx : x ∉ a := fun m => wLt_irr (ha.1 x m)
    have hy : x ∉ b := fun m => wLt_irr (hb.1 x m)
    rw [sup_uniq ha.2 hb.2 fun z => ?_]
    constructor
    · intro m
      rcases List.mem_cons.mp ((h z).mp (List.mem_cons_of_mem _ m)) with e | e
      · subst e
        exact (hx m).elim
      · exact e
    · intro m
      rcases List.mem_cons.mp ((h z).mpr (List.mem_cons_of_mem _ m)) with e | e
      · subst e
        exact (hy m).elim
      · exact e
theorem SUp.uniq {Q : Str → Prop} {a b : List Str} (ha : SUp Q a) (hb : SUp Q b) : a = b := sup_uniq ha.1 hb.1 fun x => (ha.2 x).trans (hb.2 x).symm
theorem wLe_total (a b : Str) : (wLe a b || wLe b a) = true := by
  unfold wLe
  rw [Bool.or_eq_true, decide_eq_true_eq, decide_eq_true_eq]
  rcases Nat.lt_trichotomy a.length b.length with h | h | h
  · exact .inl (.inl h)
  · rcases List.le_total a.cps.toList b.cps.toList with k | k
    · exact .inl (.inr ⟨h, k⟩)
    · exact .inr (.inr ⟨h.symm, k⟩)
  · exact .inr (.inl h)
theorem wLe_trans {a b c : Str} (h1 : wLe a b = true) (h2 : wLe b c = true) : wLe a c = true := by
  unfold wLe at *
  rw [decide_eq_true_eq] at *
  rcases h1 with h1 | ⟨h1, k1⟩ <;> rcases h2 with h2 | ⟨h2, k2⟩
  · exact .inl (by omega)
  · exact .inl (by omega)
  · exact .inl (by omega)
  · exact .inr ⟨by omega, List.le_trans k1 k2⟩
theorem wLt_of {a b : Str} (h : wLe a b = true) (ne : a ≠ b) : wLt a b := by
  unfold wLe at h
  rw [decide_eq_true_eq] at h
  rcases h with h | ⟨h, k⟩
  · exact .inl h
  · refine .inr ⟨h, ?_⟩
    rcases List.le_iff_lt_or_eq.mp k with k | k
    · exact k
    · exact absurd (str_eq_iff.mp k) ne
theorem sortW_sup {l : List Str} (hn : l.Nodup) : SUp (· ∈ l) (sortW l) := by
  unfold sortW
  have h1 := List.pairwise_mergeSort (fun a b c => wLe_trans (a := a) (b := b) (c := c)) wLe_total l
  have h2 : (l.mergeSort wLe).Nodup := (List.mergeSort_perm l wLe).nodup_iff.mpr hn
  refine ⟨?_, fun x => (List.mergeSort_perm l wLe).mem_iff⟩
  exact (h1.and h2).imp fun ⟨a, b⟩ => wLt_of a b
theorem SUp.congr {Q Q' : Str → Prop} {r : List Str} (h : SUp Q r) (k : ∀ x, Q x ↔ Q' x) : SUp Q' r := ⟨h.1, fun x => (h.2 x).trans (k x)⟩
theorem dicI_step {pre : List Str} {d : List (Str × Bool)} {x : Str} {y : Bool} (h : DicI pre d) : DicI (pre ++ [x]) (putD d x y) := by
  obtain ⟨h1, h2, h3⟩ := h
  refine ⟨putD_nodup h1, fun z => ?_, ?_⟩
  · rw [putD_mem, h2, List.mem_append, List.mem_singleton]
  · have := putD_len (d := d) (k := x) (v := y)
    rw [List.length_append, List.length_singleton]
    omega
open PySem.StrLaws PySem.Builtin PySem.Builtin.Str in
theorem occ_gen (x : Str) (c limit : Nat) : ∀ (n k : Nat) (found : Array Nat) (free : Nat), free ≤ k → found.size ≤ limit →
    (forIn (List.range' k n) (found, free) (occBody x ⟨#[c]⟩ x.length limit)).run.fst.toList = (found.toList ++ (List.range' k n).filter (fun i => decide (x.cps.toList[i]? = some c))).take limit
  | 0, k, found, free, _, h => by
    show found.toList = (found.toList ++ []).take limit
    rw [List.append_nil, List.take_of_length_le (by simpa using h)]
  | n + 1, k, found, free, hf, h => by
    rw [List.range'_succ, List.forIn_cons]
    unfold occBody
    by_cases hm : x.cps.toList[k]? = some c
    · have h1 := (subAt_one x c k).mpr hm
      by_cases hl : found.size < limit
      · rw [if_pos ⟨⟨⟨hl, hf⟩, h1.1⟩, h1.2⟩]
        have ih := occ_gen x c limit n (k + 1) (found.push k) (k + (⟨#[c]⟩ : Str).length) (Nat.le_refl _) (by rw [Array.size_push]; omega)
        unfold occBody at ih
        refine Eq.trans ih ?_
        rw [List.filter_cons, if_pos (decide_eq_true hm), Array.toList_push, List.append_assoc]
        rfl
      · rw [if_neg (fun z => hl z.1.1.1)]
        have ih := occ_gen x c limit n (k + 1) found free (by omega) h
        unfold occBody at ih
        refine Eq.trans ih ?_
        have e1 : limit ≤ found.toList.length := by rw [Array.length_toList]; omega
        rw [List.take_append_of_le_length e1, List.take_append_of_le_length e1]
    · rw [if_neg (fun z => hm ((subAt_one x c k).mp ⟨z.1.2, z.2⟩))]
      have ih := occ_gen x c limit n (k + 1) found free (by omega) h
      unfold occBody at ih
      refine Eq.trans ih ?_
      rw [List.filter_cons, if_neg (by rw [decide_eq_true_eq]; exact hm)]
theorem pos_shift {l : List Nat} {a k c : Nat} (n : Nat) : (List.range' (k + 1) n).filter (fun i => decide ((a :: l)[i - k]? = some c)) = (List.range' (k + 1) n).filter (fun i => decide (l[i - (k + 1)]? = some c)) := by
  refine List.filter_congr fun i hi => ?_
  rw [List.mem_range'] at hi
  obtain ⟨j, hj, rfl⟩ := hi
  have e : k + 1 + 1 * j - k = (k + 1 + 1 * j - (k + 1)) + 1 := by omega
  rw [e, List.getElem?_cons_succ]
theorem pos_count (c : Nat) : ∀ (l : List Nat) (k : Nat), ((List.range' k (l.length + 1)).filter (fun i => decide (l[i - k]? = some c))).length = l.count c
  | [], k => by simp
  | a :: l, k => by
    rw [List.length_cons, List.range'_succ, List.filter_cons, pos_shift]
    have ih := pos_count c l (k + 1)
    rw [Nat.sub_self, List.getElem?_cons_zero, List.count_cons]
    by_cases h : a = c
    · rw [if_pos (by rw [h]; simp), List.length_cons, ih, if_pos (by rw [h]; simp)]
    · rw [if_neg (by simpa using h), ih, if_neg (by simpa using h)]
      omega
theorem pos_head (c : Nat) : ∀ (l : List Nat) (k : Nat), c ∈ l → ((List.range' k (l.length + 1)).filter (fun i => decide (l[i - k]? = some c))).head? = some (k + l.idxOf c)
  | [], k, h => by simp at h
  | a :: l, k, h => by
    rw [List.length_cons, List.range'_succ, List.filter_cons, pos_shift, Nat.sub_self, List.getElem?_cons_zero, List.idxOf_cons]
    by_cases e : a = c
    · rw [if_pos (by rw [e]; simp), e]
      simp
    · rw [if_neg (by simpa using e)]
      have hc : c ∈ l := by
        rcases List.mem_cons.mp h with h | h
        · exact absurd h.symm e
        · exact h
      have ih := pos_head c l (k + 1) hc
      rw [ih]
      have : (a == c) = false := by simpa using e
      rw [this]
      show some (k + 1 + l.idxOf c) = some (k + (l.idxOf c + 1))
      congr 1
      omega
theorem count_one (x : Str) (c : Nat) : Txt.count x ⟨#[c]⟩ = ((tl x).count c : Nat) := by
  unfold Txt.count
  rw [PySem.StrLaws.occ_eq, occ_gen x c (x.length + 1) _ 0 #[] 0 (Nat.le_refl _) (by simp)]
  have h := pos_count c x.cps.toList 0
  rw [Array.length_toList] at h
  have e : x.length + 1 - 0 = x.cps.size + 1 := rfl
  rw [e, List.nil_append, List.take_of_length_le]
  · exact congrArg _ h
  · refine Nat.le_trans (List.length_filter_le _ _) ?_
    rw [List.length_range']
    exact Nat.le_refl _
theorem index_one {x : Str} {c : Nat} (h : c ∈ tl x) : Txt.index0 x ⟨#[c]⟩ = some ((tl x).idxOf c) := by
  unfold Txt.index0
  rw [PySem.StrLaws.occ_eq, occ_gen x c 1 _ 0 #[] 0 (Nat.le_refl _) (by simp)]
  have e := pos_head c x.cps.toList 0 h
  rw [Array.length_toList] at e
  have e2 : x.length + 1 - 0 = x.cps.size + 1 := rfl
  rw [e2, List.nil_append, List.head?_take, if_neg (by decide)]
  have e3 : (fun i => decide (x.cps.toList[i - 0]? = some c)) = fun i => decide (x.cps.toList[i]? = some c) := rfl
  rw [e3] at e
  rw [e, Nat.zero_add]
theorem index_sgn {letters x : Str} (hx : x = ⟨#[sgn x]⟩) (h : sgn x ∈ tl letters) : Txt.index0 letters x = some (idx letters x) ∧ idx letters x = (tl letters).idxOf (sgn x) := by
  have e : Txt.index0 letters x = some ((tl letters).idxOf (sgn x)) := by
    have := index_one h
    rw [← hx] at this
    exact this
  unfold idx
  rw [e]
  exact ⟨rfl, rfl⟩
theorem enum_in {α : Type} [Enc α] {xs : List α} {pre post : List (Int × α)} {it : Int × α} (h : enumI xs = pre ++ it :: post) : it.2 ∈ xs := by
  have h1 : (enumI xs)[pre.length]? = some it := by rw [h, List.getElem?_append_right (Nat.le_refl _), Nat.sub_self]; rfl
  exact List.mem_of_getElem? (enumI_get h1).2
theorem mem_mid {α : Type} {xs pre post : List α} {x : α} (h : xs = pre ++ x :: post) : x ∈ xs := by rw [h]; simp
theorem tl_nil {p : Str} : p = "" ↔ tl p = [] := ⟨fun h => by rw [h]; rfl, fun h => str_ext (h.trans rfl)⟩
theorem some_of {α : Type} {x : Option α} (h : x.isNone = false) : x.isSome = true := by
  cases x with
  | none => cases h
  | some y => rfl
theorem sp_eq : (" " : Str) = ⟨#[32]⟩ := by decide +kernel
theorem nl_eq : ("\n" : Str) = ⟨#[10]⟩ := by decide +kernel
theorem enumI_map {α β : Type} [Enc α] [Enc β] (f : α → β) (xs : List α) : enumI (xs.map f) = (enumI xs).map fun z => (z.1, f z.2) := by
  unfold enumI
  rw [List.zipIdx_map, List.map_map, List.map_map]
  rfl
theorem getD_in {α : Type} {xs : List α} {k : Nat} {d : α} (h : k < xs.length) : xs.getD k d ∈ xs := by
  rw [List.getD_eq_getElem?_getD, List.getElem?_eq_getElem h]
  exact List.getElem_mem _
theorem cut_sum {z : Str} {p q : Int} (h : 0 ≤ p) (h2 : p ≤ q) : (cutS z none (some p)).length + (cutS z (some q) none).length ≤ z.length := by
  rw [← len_tl, cut_lo h, ← len_tl (cutS _ _ _), cut_hi (by omega), List.length_take, List.length_drop, len_tl]
  omega
theorem take_snoc {l : List Nat} {k : Nat} (hk : k < l.length) : l.take (k + 1) = l.take k ++ [l.getD k 0] := by
  rw [List.take_succ, List.getD_eq_getElem?_getD, List.getElem?_eq_getElem hk]; rfl
theorem lt_at {z : Str} {a b : Nat} : tl (sgnAt z a) < tl (sgnAt z b) ↔ (tl z).getD a 0 < (tl z).getD b 0 := by rw [sgnAt_tl, sgnAt_tl, lt_one]
theorem sgn_at {z : Str} {a : Nat} : sgn (sgnAt z a) = (tl z).getD a 0 := by rw [sgnAt_eq]; rfl
theorem jn_mem {c x : Nat} : ∀ {l : List (List Nat)}, x ∈ jn c l → x = c ∨ ∃ q ∈ l, x ∈ q
  | [], h => by cases h
  | [y], h => .inr ⟨y, List.mem_cons_self, h⟩
  | y :: z :: l, h => by
    rw [jn_cons (List.cons_ne_nil _ _)] at h
    rcases List.mem_append.mp h with h | h
    · exact .inr ⟨y, List.mem_cons_self, h⟩
    · rcases List.mem_cons.mp h with h | h
      · exact .inl h
      · rcases jn_mem h with h | ⟨q, hq, h⟩
        · exact .inl h
        · exact .inr ⟨q, List.mem_cons_of_mem _ hq, h⟩
theorem sorted_ext : ∀ {l m : List Int}, l.Pairwise (· < ·) → m.Pairwise (· < ·) → (∀ x, x ∈ l ↔ x ∈ m) → l = m
  | [], [], _, _, _ => rfl
  | [], b :: m, _, _, h => absurd ((h b).mpr List.mem_cons_self) (by simp)
  | a :: l, [], _, _, h => absurd ((h a).mp List.mem_cons_self) (by simp)
  | a :: l, b :: m, hl, hm, h => by
    obtain ⟨l1, l2⟩ := List.pairwise_cons.mp hl
    obtain ⟨m1, m2⟩ := List.pairwise_cons.mp hm
    have e : a = b := by
      rcases List.mem_cons.mp ((h a).mp List.mem_cons_self) with e | e
      · exact e
      · rcases List.mem_cons.mp ((h b).mpr List.mem_cons_self) with e2 | e2
        · exact e2.symm
        · have := m1 a e; have := l1 b e2; omega
    subst e
    rw [sorted_ext l2 m2 fun x => ?_]
    constructor
    · intro hx
      rcases List.mem_cons.mp ((h x).mp (List.mem_cons_of_mem _ hx)) with e | e
      · have := l1 x hx; omega
      · exact e
    · intro hx
      rcases List.mem_cons.mp ((h x).mpr (List.mem_cons_of_mem _ hx)) with e | e
      · have := m1 x hx; omega
      · exact e
theorem enumI_zip {α : Type} [Enc α] (xs : List α) : enumI xs = (xs.zipIdx 0).map fun p => (((p.2 : Nat) : Int), p.1) := rfl
theorem cutL_end {α : Type} {xs : List α} {n : Nat} : cutL xs none (some (n : Int)) = xs.take n := by
  unfold cutL
  have h0 : HT.sIx xs.length 0 none = 0 := rfl
  rw [h0, List.drop_zero, Nat.sub_zero]
  have h1 : HT.sIx xs.length xs.length (some (n : Int)) = min n xs.length := by
    show (if (n : Int) < 0 then ((n : Int) + xs.length).toNat else min (n : Int).toNat xs.length) = _
    rw [if_neg (by omega), Int.toNat_natCast]
  rw [h1]
  by_cases h : n ≤ xs.length
  · rw [Nat.min_eq_left h]
  · rw [Nat.min_eq_right (by omega), List.take_of_length_le (Nat.le_refl _), List.take_of_length_le (by omega)]
theorem getLast_at {α : Type} {xs : List α} {n : Nat} {d x : α} (h : xs.length = n + 1) : xs.getLast? = some x ↔ xs.getD n d = x := by
  rw [List.getLast?_eq_getElem?, h, Nat.add_sub_cancel, List.getD_eq_getElem?_getD, List.getElem?_eq_getElem (by omega)]
  simp
theorem cutL_m1 {α : Type} {xs : List α} (h : 1 ≤ xs.length) : cutL xs none (some (-1)) = xs.dropLast := by
  unfold cutL
  have h0 : HT.sIx xs.length 0 none = 0 := rfl
  rw [h0, List.drop_zero, Nat.sub_zero, List.dropLast_eq_take]
  have h1 : HT.sIx xs.length xs.length (some (-1)) = xs.length - 1 := by
    show (if (-1 : Int) < 0 then ((-1 : Int) + xs.length).toNat else min (-1 : Int).toNat xs.length) = _
    rw [if_pos (by decide)]
    omega
  rw [h1]
theorem cutL_1 {α : Type} {xs : List α} : cutL xs (some 1) none = xs.drop 1 := by
  unfold cutL
  have h0 : HT.sIx xs.length xs.length none = xs.length := rfl
  rw [h0]
  have h1 : HT.sIx xs.length 0 (some 1) = min 1 xs.length := by
    show (if (1 : Int) < 0 then ((1 : Int) + xs.length).toNat else min (1 : Int).toNat xs.length) = _
    rw [if_neg (by decide)]
    rfl
  rw [h1]
  cases xs with
  | nil => rfl
  | cons x xs =>
    rw [Nat.min_eq_left (by simp)]
    exact List.take_of_length_le (by rw [List.length_drop]; exact Nat.le_refl _)
theorem rng_lt (lo : Int) (n : Nat) : (rngI lo n).Pairwise (· < ·) ∧ ∀ t ∈ rngI lo n, lo ≤ t ∧ t < lo + n := by
  constructor
  · rw [List.pairwise_iff_getElem]
    intro i j hi hj hij
    have h1 := rngI_get (List.getElem?_eq_getElem hi)
    have h2 := rngI_get (List.getElem?_eq_getElem hj)
    omega
  · intro t ht
    obtain ⟨a, b, h⟩ := List.append_of_mem ht
    have := rng_split h
    omega
theorem ends_ok {ys : List Int} {n : Nat} (h : ys.Sublist (rngI 0 n)) : ys.Pairwise (· < ·) ∧ ∀ t ∈ ys, 0 ≤ t ∧ t < n := by
  refine ⟨List.Pairwise.sublist h (rng_lt 0 n).1, fun t ht => ?_⟩
  have := (rng_lt 0 n).2 t (h.mem ht)
  omega
theorem map_l {rows : List (List Int)} : (rows.map Tup.mk).map (fun (q : Tup Int) => q.l) = rows := by
  rw [List.map_map]
  exact List.map_id' _
/-! pairs (length, word), sorted, each once -/
theorem pLe_trans {a b c : Int × Str} (h1 : pLe a b = true) (h2 : pLe b c = true) : pLe a c = true := by
  unfold pLe at *
  have h1 := of_decide_eq_true h1
  have h2 := of_decide_eq_true h2
  refine decide_eq_true ?_
  rcases h1 with h1 | h1
  · rcases h2 with h2 | h2
    · exact .inl (by omega)
    · exact .inl (by omega)
  · rcases h2 with h2 | h2
    · exact .inl (by omega)
    · exact .inr ⟨h1.1.trans h2.1, List.le_trans h1.2 h2.2⟩
theorem pLe_total (a b : Int × Str) : (pLe a b || pLe b a) = true := by
  unfold pLe
  rw [Bool.or_eq_true, decide_eq_true_eq, decide_eq_true_eq]
  by_cases h1 : a.1 < b.1
  · exact .inl (.inl h1)
  · by_cases h2 : b.1 < a.1
    · exact .inr (.inl h2)
    · have e : a.1 = b.1 := by omega
      rcases List.le_total a.2.cps.toList b.2.cps.toList with h | h
      · exact .inl (.inr ⟨e, h⟩)
      · exact .inr (.inr ⟨e.symm, h⟩)
theorem sortP_pw (l : List (Int × Str)) : (sortP l).Pairwise (fun a b => pLe a b = true) := List.pairwise_mergeSort (le := pLe) (fun a b c h1 h2 => pLe_trans h1 h2) (fun a b => pLe_total a b) l
theorem sortP_mem {l : List (Int × Str)} {x : Int × Str} : x ∈ sortP l ↔ x ∈ l := List.mem_mergeSort
theorem pLe_wLe {a b : Str} (h : pLe ((a.length : Int), a) ((b.length : Int), b) = true) : wLe a b = true := by
  unfold pLe at h
  have h := of_decide_eq_true h
  refine decide_eq_true ?_
  rcases h with h | h
  · exact .inl (by have : (a.length : Int) < (b.length : Int) := h; omega)
  · exact .inr ⟨by have : (a.length : Int) = (b.length : Int) := h.1; omega, h.2⟩
def OrdI (pre : List (Int × Str)) (to : List Str) : Prop := to.Pairwise wLt ∧ (∀ x, x ∈ to ↔ ∃ p ∈ pre, p.2 = x) ∧ (pre = [] ∨ ∃ p, pre.getLast? = some p ∧ to.getLast? = some p.2) ∧ to.length ≤ pre.length
theorem ordI_0 : OrdI [] [] := ⟨.nil, by simp, .inl rfl, Nat.le_refl _⟩
theorem getD_last {α : Type} {q : List α} {a d : α} : (q ++ [a]).getD (-1 + ((q ++ [a]).length : Int)).toNat d = a := by
  rw [List.length_append, List.length_singleton, show (-1 + ((q.length + 1 : Nat) : Int)).toNat = q.length by omega, List.getD_eq_getElem?_getD, List.getElem?_append_right (Nat.le_refl _), Nat.sub_self]
  rfl
theorem ordI_new {words : List Str} {pre post : List (Int × Str)} {x : Int × Str} {to : List Str} (hs : sortP (words.map fun (word : Str) => ((word.length : Int), word)) = pre ++ x :: post) (hI : OrdI pre to) (h : (decide ((to.length : Int) = 0) || !decide (to.getD (-1 + (to.length : Int)).toNat dS = x.2)) = true) : OrdI (pre ++ [x]) (to ++ [x.2]) := by
  obtain ⟨h1, h2, h3, h4⟩ := hI
  refine ⟨List.pairwise_append.mpr ⟨h1, by simp, fun a ha b hb => ?_⟩, fun y => ?_, .inr ⟨x, by simp, by simp⟩, by simp; omega⟩
  · rw [List.mem_singleton.mp hb]
    rcases h3 with rfl | ⟨p, hp, ht⟩
    · obtain ⟨p, hp, _⟩ := (h2 a).mp ha
      simp at hp
    · obtain ⟨r, rfl⟩ := List.getLast?_eq_some_iff.mp hp
      obtain ⟨q, rfl⟩ := List.getLast?_eq_some_iff.mp ht
      rw [getD_last] at h
      have hne : p.2 ≠ x.2 := by
        intro z
        rw [z] at h
        simp at h
        omega
      have hpw := sortP_pw (words.map fun (word : Str) => ((word.length : Int), word))
      rw [hs] at hpw
      have hle := (List.pairwise_append.mp hpw).2.2 p (by simp) x (by simp)
      have hm : ∀ z ∈ (r ++ [p]) ++ x :: post, z = ((z.2.length : Int), z.2) := fun z hz => by
        rw [← hs] at hz
        obtain ⟨v, _, rfl⟩ := List.mem_map.mp (sortP_mem.mp hz)
        rfl
      rw [hm p (by simp), hm x (by simp)] at hle
      have hlt := wLt_of (pLe_wLe hle) hne
      rcases List.mem_append.mp ha with ha | ha
      · exact wLt_trans ((List.pairwise_append.mp h1).2.2 a ha p.2 (by simp)) hlt
      · rw [List.mem_singleton.mp ha]; exact hlt
  · rw [List.mem_append, h2 y]
    constructor
    · rintro (⟨p, hp, e⟩ | e)
      · exact ⟨p, List.mem_append_left _ hp, e⟩
      · exact ⟨x, by simp, (List.mem_singleton.mp e).symm⟩
    · rintro ⟨p, hp, e⟩
      rcases List.mem_append.mp hp with hp | hp
      · exact .inl ⟨p, hp, e⟩
      · rw [List.mem_singleton.mp hp] at e
        exact .inr (by rw [← e]; simp)
theorem ordI_old {pre : List (Int × Str)} {x : Int × Str} {to : List Str} (hI : OrdI pre to) (h : (decide ((to.length : Int) = 0) || !decide (to.getD (-1 + (to.length : Int)).toNat dS = x.2)) = false) : OrdI (pre ++ [x]) to := by
  obtain ⟨h1, h2, h3, h4⟩ := hI
  simp only [Bool.or_eq_false_iff, decide_eq_false_iff_not, Bool.not_eq_false', decide_eq_true_eq] at h
  rcases h3 with rfl | ⟨p, hp, ht⟩
  · exact absurd (show (to.length : Int) = 0 by simp at h4; rw [h4]; rfl) h.1
  · obtain ⟨q, rfl⟩ := List.getLast?_eq_some_iff.mp ht
    rw [getD_last] at h
    refine ⟨h1, fun y => ?_, .inr ⟨x, by simp, by rw [← h.2]; simp⟩, by rw [List.length_append (as := pre)]; omega⟩
    rw [h2 y]
    constructor
    · rintro ⟨z, hz, e⟩
      exact ⟨z, List.mem_append_left _ hz, e⟩
    · rintro ⟨z, hz, e⟩
      rcases List.mem_append.mp hz with hz | hz
      · exact ⟨z, hz, e⟩
      · rw [List.mem_singleton.mp hz] at e
        exact ⟨p, List.mem_of_getLast? hp, by rw [h.2, e]⟩
theorem ordI_end {words to : List Str} (hI : OrdI (sortP (words.map fun (word : Str) => ((word.length : Int), word))) to) : SUp (· ∈ words) to := by
  refine ⟨hI.1, fun x => ?_⟩
  rw [hI.2.1 x]
  constructor
  · rintro ⟨p, hp, rfl⟩
    obtain ⟨v, hv, rfl⟩ := List.mem_map.mp (sortP_mem.mp hp)
    exact hv
  · intro hx
    exact ⟨((x.length : Int), x), sortP_mem.mpr (List.mem_map.mpr ⟨x, hx, rfl⟩), rfl⟩
theorem sup_len {l r : List Str} (h : SUp (· ∈ l) r) : r.length ≤ l.length := nodup_sub (List.Pairwise.imp (fun {a b} (q : wLt a b) (z : a = b) => wLt_irr (z ▸ q : wLt b b)) h.1) fun x hx => (h.2 x).mp hx
theorem sortP_len (l : List (Int × Str)) : (sortP l).length = l.length := List.length_mergeSort l
def wordsOk (letters : Str) (ws : List Str) : Prop := ws.length ≤ 64 ∧ ∀ w ∈ ws, w.length ≤ 24 ∧ inL letters w
instance (l w : Str) : Decidable (inL l w) := by unfold inL; infer_instance
end Lm

namespace LL
open PySem L2 Fw Lm
def topS (i : Nat) : Stmt := PySem.Challenge.pw_treesfromyes_k91_texts_of_samples.main.body.getD i (.Pass ⟨0, 0, 0, 0⟩)
structure Ad where
  wall : Addr
  check_letters : Addr
  check_word : Addr
  order_key : Addr
  in_order : Addr
  check_words : Addr
  written : Addr
  word_of : Addr
  are_letters : Addr
  sample_text : Addr
  read_sample : Addr
  law_start : Addr
  law_next : Addr
  law_integer : Addr
  law_alphabet : Addr
  law_word : Addr
  law_ordered : Addr
  law_text : Addr
  law_good_letters : Addr
  law_read : Addr
  law_words_are : Addr
  law_reads : Addr
  law_word_at : Addr
  law_climbing : Addr
  law_spoilt : Addr
  law_large : Addr
  law : Addr
  LanguageError : Addr
  BadLetters : Addr
  BadWord : Addr
  TooMany : Addr
  BadText : Addr
  Sample : Addr
  BadWord___init : Addr
  TooMany___init : Addr
  BadText___init : Addr
  Sample___init : Addr
  Sample_with_yes : Addr
  Sample_with_no : Addr
  Sample_without : Addr
abbrev con_SMALL : Str := "abcdefghijklmnopqrstuvwxyz"
structure Mc_Sample (C : Addr) where
  letters : Str
  yes : (Tup Str)
  no : (Tup Str)
abbrev nm_Sample : List Str := ["letters", "yes", "no"]
instance {C : Addr} : EncOb (Mc_Sample C) C nm_Sample where
  rep := fun K H v x => obRep C nm_Sample [vs x.letters, vs x.yes, vs x.no] K H v
  mono := obRep_mono
  sls := fun x => [vs x.letters, vs x.yes, vs x.no]
  repO := Iff.rfl
instance {C : Addr} : NotNon (Mc_Sample C) := ⟨fun ⟨a, _, _, h, _⟩ z => by rw [h] at z; cases z⟩

def wordsBad (A : Ad) (letters : Str) (words : List Str) (x : XD) : Prop := (64 < words.length ∧ x = xdF A.TooMany [("limit", vs (64 : Int))]) ∨ (words.length ≤ 64 ∧ ∃ pre w post, words = pre ++ w :: post ∧ (∀ v ∈ pre, v.length ≤ 24 ∧ inL letters v) ∧ ((24 < w.length ∧ x = xdF A.TooMany [("limit", vs (24 : Int))]) ∨ (w.length ≤ 24 ∧ ∃ k : Nat, badAt letters w k ∧ x = xdF A.BadWord [("word", vs w), ("place", vs (k : Int))])))

def wr (w : Str) : Str := if w = "" then "-" else w
def sLines (letters : Str) (yes no : List Str) : List Str := ("sample " ++ letters) :: (yes.map (fun w => "yes " ++ wr w) ++ no.map (fun w => "no " ++ wr w))
def sText (letters : Str) (yes no : List Str) : Str := Txt.join "\n" (sLines letters yes no)
def wordO (letters part : Str) : Option Str := if part = "-" then some "" else if part = "" ∨ ¬ inL letters part then none else some part
def okNext (ws : List Str) (w : Str) : Prop := ws.length ≤ 63 ∧ w.length ≤ 24 ∧ (ws.length = 0 ∨ pLe ((w.length : Int), w) (((ws.getD (ws.length - 1) dS).length : Int), ws.getD (ws.length - 1) dS) = false)
instance (ws : List Str) (w : Str) : Decidable (okNext ws w) := by unfold okNext; infer_instance
def stepS (letters : Str) (q : List Str × List Str) (l : Str) : Option (List Str × List Str) :=
  if (Txt.split l " ").length = 2 then (match wordO letters ((Txt.split l " ").getD 1 dS) with
    | none => none
    | some w => if (Txt.split l " ").getD 0 dS = "yes" then (if q.2.length = 0 ∧ okNext q.1 w then some (q.1 ++ [w], q.2) else none) else if (Txt.split l " ").getD 0 dS = "no" then (if okNext q.2 w then some (q.1, q.2 ++ [w]) else none) else none) else none
def rdSL (letters : Str) : Nat → List Str × List Str → List Str → Except Int (List Str × List Str)
  | _, q, [] => .ok q
  | i, q, l :: r => match stepS letters q l with
    | none => .error ((i : Int) + 2)
    | some q' => rdSL letters (i + 1) q' r
def linesOf (text : Str) : List Str := Txt.split text "\n"
def headP (text : Str) : List Str := Txt.split ((linesOf text).getD 0 dS) " "
def headOk (text : Str) : Prop := (headP text).length = 2 ∧ (headP text).getD 0 dS = "sample" ∧ goodL ((headP text).getD 1 dS)
instance (text : Str) : Decidable (headOk text) := by unfold headOk; infer_instance
def headL (text : Str) : Str := (headP text).getD 1 dS
def rdS (text : Str) : Except Int (Str × List Str × List Str) := if headOk text then (match rdSL (headL text) 0 ([], []) ((linesOf text).drop 1) with
  | .error n => .error n
  | .ok q => .ok (headL text, q.1, q.2)) else .error 1
def RdS (text : Str) (p : Nat) (ys ns : List Str) : Prop := rdSL (headL text) 0 ([], []) (((linesOf text).drop 1).take p) = .ok (ys, ns)
def rdS4 (text : Str) (r : TupS) : Prop := ∃ (n : Int) (l : Str) (ys ns : List Str), r = TupS.mk [vs n, vs l, vs ys, vs ns] ∧ ((n = 0 ∧ rdS text = .ok (l, ys, ns)) ∨ (0 < n ∧ rdS text = .error n))
def AlphI (many : Int) (k : Nat) (at_ : Int) (to : Str) : Prop := to.length = k + 1 ∧ (tl to).Pairwise (· < ·) ∧ (∀ c ∈ tl to, 97 ≤ c ∧ (c : Int) ≤ 97 + at_) ∧ 0 ≤ at_ ∧ at_ < 26 - 6 * (many - 1) + 6 * (k : Int)
def sumL (rs : List Str) : Nat := (rs.map (·.length)).sum + rs.length
def wsI (letters : Str) (ws : List Str) : Prop := ws.length ≤ 6 ∧ ∀ w ∈ ws, w.length ≤ 6 ∧ inL letters w

/-! ### check_letters -/
def pre_check_letters (letters : Str) : Prop := letters.length ≤ 1000000
def post_check_letters (letters : Str) (r : Unit) : Prop := goodL letters
def xp_check_letters (A : Ad) (letters : Str) (x : XD) : Prop := x = xdP A.BadLetters ∧ ¬ goodL letters
def sp_check_letters (K : PySem.W.Frag) (A : Ad) : Sp := fun us H Q E => ∃ (letters : Str), pre_check_letters letters ∧ Call K [vs letters] [] (fun (r : Unit) c => c = [] ∧ post_check_letters letters r) (fun x c => c = [] ∧ xp_check_letters A letters x) us H Q E
/-! ### check_word -/
def pre_check_word (letters : Str) (word : Str) : Prop := word.length ≤ 1000
def post_check_word (letters : Str) (word : Str) (r : Unit) : Prop := inL letters word
def xp_check_word (A : Ad) (letters : Str) (word : Str) (x : XD) : Prop := ∃ k : Nat, badAt letters word k ∧ x = xdF A.BadWord [("word", vs word), ("place", vs (k : Int))]
def sp_check_word (K : PySem.W.Frag) (A : Ad) : Sp := fun us H Q E => ∃ (letters : Str) (word : Str), pre_check_word letters word ∧ Call K [vs letters, vs word] [] (fun (r : Unit) c => c = [] ∧ post_check_word letters word r) (fun x c => c = [] ∧ xp_check_word A letters word x) us H Q E
/-! ### order_key -/
def pre_order_key (word : Str) : Prop := word.length ≤ 10000000
def post_order_key (word : Str) (r : (Int × Str)) : Prop := r = ((word.length : Int), word)
def sp_order_key (K : PySem.W.Frag) : Sp := fun us H Q E => ∃ (word : Str), pre_order_key word ∧ Call K [vs word] [] (fun (r : (Int × Str)) c => c = [] ∧ post_order_key word r) (fun x c => c = [] ∧ False) us H Q E
/-! ### in_order -/
def pre_in_order (words : (List Str)) : Prop := words.length ≤ 10000 ∧ ∀ w ∈ words, w.length ≤ 1000
def post_in_order (words : (List Str)) (r : (List Str)) : Prop := SUp (· ∈ words) r
def sp_in_order (K : PySem.W.Frag) : Sp := fun us H Q E => ∃ (words : (List Str)), pre_in_order words ∧ Call K [vs words] [] (fun (r : (List Str)) c => c = [] ∧ post_in_order words r) (fun x c => c = [] ∧ False) us H Q E
/-! ### check_words -/
def pre_check_words (letters : Str) (words : (List Str)) : Prop := words.length ≤ 10000 ∧ ∀ w ∈ words, w.length ≤ 1000
def post_check_words (letters : Str) (words : (List Str)) (r : Unit) : Prop := wordsOk letters words
def xp_check_words (A : Ad) (letters : Str) (words : (List Str)) (x : XD) : Prop := wordsBad A letters words x
def sp_check_words (K : PySem.W.Frag) (A : Ad) : Sp := fun us H Q E => ∃ (letters : Str) (words : (List Str)), pre_check_words letters words ∧ Call K [vs letters, vs words] [] (fun (r : Unit) c => c = [] ∧ post_check_words letters words r) (fun x c => c = [] ∧ xp_check_words A letters words x) us H Q E
/-! ### Sample.__init__ -/
def pre_Sample___init (letters : Str) (yes : (List Str)) (no : (List Str)) : Prop := letters.length ≤ 1000 ∧ yes.length ≤ 1000 ∧ no.length ≤ 1000 ∧ (∀ w ∈ yes, w.length ≤ 1000) ∧ ∀ w ∈ no, w.length ≤ 1000
def post_Sample___init {A : Ad} (letters : Str) (yes : (List Str)) (no : (List Str)) (m : Mc_Sample A.Sample) : Prop := goodL letters ∧ wordsOk letters yes ∧ wordsOk letters no ∧ m.letters = letters ∧ SUp (· ∈ yes) m.yes.l ∧ SUp (· ∈ no) m.no.l
def xp_Sample___init (A : Ad) (letters : Str) (yes : (List Str)) (no : (List Str)) (x : XD) : Prop := (x = xdP A.BadLetters ∧ ¬ goodL letters) ∨ (goodL letters ∧ (wordsBad A letters yes x ∨ (wordsOk letters yes ∧ wordsBad A letters no x)))
def sp_Sample___init (K : PySem.W.Frag) (A : Ad) : Sp := fun us H Q E => ∃ (self_ : Addr) (letters : Str) (yes : (List Str)) (no : (List Str)), pre_Sample___init letters yes no ∧ Call K [vs (Adr.mk self_), vs letters, vs yes, vs no] [(self_, insC false A.Sample [] [])] (fun (_ : Unit) c => ∃ m : Mc_Sample A.Sample, c = [(self_, insC false A.Sample nm_Sample (EncOb.sls m))] ∧ post_Sample___init letters yes no m) (fun x c => c = [] ∧ xp_Sample___init A letters yes no x) us H Q E
/-! ### written -/
def pre_written (word : Str) : Prop := True
def post_written (word : Str) (r : Str) : Prop := r = wr word
def sp_written (K : PySem.W.Frag) : Sp := fun us H Q E => ∃ (word : Str), pre_written word ∧ Call K [vs word] [] (fun (r : Str) c => c = [] ∧ post_written word r) (fun x c => c = [] ∧ False) us H Q E
/-! ### word_of -/
def pre_word_of (letters : Str) (part : Str) : Prop := part.length ≤ 1000000
def post_word_of (letters : Str) (part : Str) (r : (Option Str)) : Prop := r = wordO letters part
def sp_word_of (K : PySem.W.Frag) : Sp := fun us H Q E => ∃ (letters : Str) (part : Str), pre_word_of letters part ∧ Call K [vs letters, vs part] [] (fun (r : (Option Str)) c => c = [] ∧ post_word_of letters part r) (fun x c => c = [] ∧ False) us H Q E
/-! ### are_letters -/
def pre_are_letters (text : Str) : Prop := text.length ≤ 1000000
def post_are_letters (text : Str) (r : Bool) : Prop := r = decide (goodL text)
def sp_are_letters (K : PySem.W.Frag) : Sp := fun us H Q E => ∃ (text : Str), pre_are_letters text ∧ Call K [vs text] [] (fun (r : Bool) c => c = [] ∧ post_are_letters text r) (fun x c => c = [] ∧ False) us H Q E
/-! ### sample_text -/
def pre_sample_text {A : Ad} (sample : (Mc_Sample A.Sample)) : Prop := sample.letters.length ≤ 4 ∧ sample.yes.l.length ≤ 64 ∧ sample.no.l.length ≤ 64 ∧ (∀ w ∈ sample.yes.l, w.length ≤ 24) ∧ ∀ w ∈ sample.no.l, w.length ≤ 24
def post_sample_text {A : Ad} (sample : (Mc_Sample A.Sample)) (r : Str) : Prop := r = sText sample.letters sample.yes.l sample.no.l
def sp_sample_text (K : PySem.W.Frag) (A : Ad) : Sp := fun us H Q E => ∃ (sample : (Mc_Sample A.Sample)), pre_sample_text sample ∧ Call K [vs sample] [] (fun (r : Str) c => c = [] ∧ post_sample_text sample r) (fun x c => c = [] ∧ False) us H Q E
/-! ### read_sample -/
def pre_read_sample (text : Str) : Prop := text.length ≤ 200000
def post_read_sample {A : Ad} (text : Str) (r : (Mc_Sample A.Sample)) : Prop := rdS text = .ok (r.letters, r.yes.l, r.no.l)
def xp_read_sample (A : Ad) (text : Str) (x : XD) : Prop := ∃ n : Int, x = xdF A.BadText [("line", vs n)] ∧ rdS text = .error n
def sp_read_sample (K : PySem.W.Frag) (A : Ad) : Sp := fun us H Q E => ∃ (text : Str), pre_read_sample text ∧ Call K [vs text] [] (fun (r : (Mc_Sample A.Sample)) c => c = [] ∧ post_read_sample text r) (fun x c => c = [] ∧ xp_read_sample A text x) us H Q E
/-! ### _law_start -/
def pre_law_start (script : (Scr Int)) : Prop := script.l.length ≤ 63
def sp_law_start (K : PySem.W.Frag) : Sp := fun us H Q E => ∃ (script : (Scr Int)), pre_law_start script ∧ Call K [vs script] [] (fun (r : Adr) c => c = [(r.a, stC true)]) (fun _ _ => False) us H Q E
/-! ### _law_next -/
def pre_law_next (state : Addr) (many : Int) : Prop := 1 ≤ many ∧ many ≤ 1000000
def post_law_next (state : Addr) (many : Int) (r : Int) : Prop := 0 ≤ r ∧ r < many
def sp_law_next (K : PySem.W.Frag) : Sp := fun us H Q E => ∃ (state : Addr) (many : Int), pre_law_next state many ∧ Call K [vs (Adr.mk state), vs many] [(state, stC false)] (fun (r : Int) c => c = [(state, stC false)] ∧ post_law_next state many r) (fun x c => c = [(state, stC false)] ∧ False) us H Q E
/-! ### _law_integer -/
def pre_law_integer (actual : Int) : Prop := True
def post_law_integer (actual : Int) (r : Bool) : Prop := r = true
def sp_law_integer (K : PySem.W.Frag) : Sp := fun us H Q E => ∃ (actual : Int), pre_law_integer actual ∧ Call K [vs actual] [] (fun (r : Bool) c => c = [] ∧ post_law_integer actual r) (fun x c => c = [] ∧ False) us H Q E
/-! ### _law_alphabet -/
def pre_law_alphabet (state : Addr) (many : Int) : Prop := 1 ≤ many ∧ many ≤ 4
def post_law_alphabet (state : Addr) (many : Int) (r : Str) : Prop := goodL r
def sp_law_alphabet (K : PySem.W.Frag) : Sp := fun us H Q E => ∃ (state : Addr) (many : Int), pre_law_alphabet state many ∧ Call K [vs (Adr.mk state), vs many] [(state, stC false)] (fun (r : Str) c => c = [(state, stC false)] ∧ post_law_alphabet state many r) (fun x c => c = [(state, stC false)] ∧ False) us H Q E
/-! ### _law_word -/
def pre_law_word (state : Addr) (letters : Str) (size : Int) : Prop := 1 ≤ letters.length ∧ letters.length ≤ 4 ∧ 0 ≤ size ∧ size ≤ 30
def post_law_word (state : Addr) (letters : Str) (size : Int) (r : Str) : Prop := r.length = size.toNat ∧ inL letters r
def sp_law_word (K : PySem.W.Frag) : Sp := fun us H Q E => ∃ (state : Addr) (letters : Str) (size : Int), pre_law_word state letters size ∧ Call K [vs (Adr.mk state), vs letters, vs size] [(state, stC false)] (fun (r : Str) c => c = [(state, stC false)] ∧ post_law_word state letters size r) (fun x c => c = [(state, stC false)] ∧ False) us H Q E
/-! ### _law_ordered -/
def pre_law_ordered (words : (List Str)) : Prop := words.length ≤ 1000 ∧ ∀ w ∈ words, w.length ≤ 1000
def post_law_ordered (words : (List Str)) (r : (List Str)) : Prop := SUp (· ∈ words) r
def sp_law_ordered (K : PySem.W.Frag) : Sp := fun us H Q E => ∃ (words : (List Str)), pre_law_ordered words ∧ Call K [vs words] [] (fun (r : (List Str)) c => c = [] ∧ post_law_ordered words r) (fun x c => c = [] ∧ False) us H Q E
/-! ### _law_text -/
def pre_law_text (letters : Str) (yes : (List Str)) (no : (List Str)) : Prop := letters.length ≤ 10 ∧ yes.length ≤ 70 ∧ no.length ≤ 70 ∧ (∀ w ∈ yes, w.length ≤ 60) ∧ ∀ w ∈ no, w.length ≤ 60
def post_law_text (letters : Str) (yes : (List Str)) (no : (List Str)) (r : Str) : Prop := r = sText letters yes no
def sp_law_text (K : PySem.W.Frag) : Sp := fun us H Q E => ∃ (letters : Str) (yes : (List Str)) (no : (List Str)), pre_law_text letters yes no ∧ Call K [vs letters, vs yes, vs no] [] (fun (r : Str) c => c = [] ∧ post_law_text letters yes no r) (fun x c => c = [] ∧ False) us H Q E
/-! ### _law_good_letters -/
def pre_law_good_letters (text : Str) : Prop := text.length ≤ 1000000
def post_law_good_letters (text : Str) (r : Bool) : Prop := r = decide (goodL text)
def sp_law_good_letters (K : PySem.W.Frag) : Sp := fun us H Q E => ∃ (text : Str), pre_law_good_letters text ∧ Call K [vs text] [] (fun (r : Bool) c => c = [] ∧ post_law_good_letters text r) (fun x c => c = [] ∧ False) us H Q E
/-! ### _law_read -/
def pre_law_read (text : Str) : Prop := text.length ≤ 200000
def post_law_read (text : Str) (r : TupS) : Prop := rdS4 text r
def sp_law_read (K : PySem.W.Frag) : Sp := fun us H Q E => ∃ (text : Str), pre_law_read text ∧ Call K [vs text] [] (fun (r : TupS) c => c = [] ∧ post_law_read text r) (fun x c => c = [] ∧ False) us H Q E
/-! ### _law_words_are -/
def pre_law_words_are (actual : (Tup Str)) (due : (List Str)) : Prop := actual.l = due ∧ due.length ≤ 1000
def post_law_words_are (actual : (Tup Str)) (due : (List Str)) (r : Bool) : Prop := r = true
def sp_law_words_are (K : PySem.W.Frag) : Sp := fun us H Q E => ∃ (actual : (Tup Str)) (due : (List Str)), pre_law_words_are actual due ∧ Call K [vs actual, vs due] [] (fun (r : Bool) c => c = [] ∧ post_law_words_are actual due r) (fun x c => c = [] ∧ False) us H Q E
/-! ### _law_reads -/
def pre_law_reads (text : Str) : Prop := text.length ≤ 200000
def post_law_reads (text : Str) (r : Bool) : Prop := r = true
def sp_law_reads (K : PySem.W.Frag) : Sp := fun us H Q E => ∃ (text : Str), pre_law_reads text ∧ Call K [vs text] [] (fun (r : Bool) c => c = [] ∧ post_law_reads text r) (fun x c => c = [] ∧ False) us H Q E
/-! ### _law_word_at -/
def pre_law_word_at (letters : Str) (number : Int) : Prop := 1 ≤ letters.length ∧ letters.length ≤ 1000
def post_law_word_at (letters : Str) (number : Int) (r : Str) : Prop := r.length ≤ 40
def sp_law_word_at (K : PySem.W.Frag) : Sp := fun us H Q E => ∃ (letters : Str) (number : Int), pre_law_word_at letters number ∧ Call K [vs letters, vs number] [] (fun (r : Str) c => c = [] ∧ post_law_word_at letters number r) (fun x c => c = [] ∧ False) us H Q E
/-! ### _law_climbing -/
def pre_law_climbing (state : Addr) (letters : Str) (many : Int) (last : Int) : Prop := 1 ≤ letters.length ∧ letters.length ≤ 4 ∧ 0 ≤ many ∧ many ≤ 66 ∧ 0 ≤ last ∧ last ≤ 30
def post_law_climbing (state : Addr) (letters : Str) (many : Int) (last : Int) (r : (List Str)) : Prop := r.length ≤ 67 ∧ ∀ w ∈ r, w.length ≤ 40
def sp_law_climbing (K : PySem.W.Frag) : Sp := fun us H Q E => ∃ (state : Addr) (letters : Str) (many : Int) (last : Int), pre_law_climbing state letters many last ∧ Call K [vs (Adr.mk state), vs letters, vs many, vs last] [(state, stC false)] (fun (r : (List Str)) c => c = [(state, stC false)] ∧ post_law_climbing state letters many last r) (fun x c => c = [(state, stC false)] ∧ False) us H Q E
/-! ### _law_spoilt -/
def pre_law_spoilt (state : Addr) (text : Str) : Prop := text.length ≤ 40000
def post_law_spoilt (state : Addr) (text : Str) (r : Str) : Prop := r.length ≤ 3 * text.length + 20
def sp_law_spoilt (K : PySem.W.Frag) : Sp := fun us H Q E => ∃ (state : Addr) (text : Str), pre_law_spoilt state text ∧ Call K [vs (Adr.mk state), vs text] [(state, stC false)] (fun (r : Str) c => c = [(state, stC false)] ∧ post_law_spoilt state text r) (fun x c => c = [(state, stC false)] ∧ False) us H Q E
/-! ### _law_large -/
def pre_law_large (state : Addr) (letters : Str) : Prop := 1 ≤ letters.length ∧ letters.length ≤ 4
def post_law_large (state : Addr) (letters : Str) (r : Str) : Prop := r.length ≤ 10100
def sp_law_large (K : PySem.W.Frag) : Sp := fun us H Q E => ∃ (state : Addr) (letters : Str), pre_law_large state letters ∧ Call K [vs (Adr.mk state), vs letters] [(state, stC false)] (fun (r : Str) c => c = [(state, stC false)] ∧ post_law_large state letters r) (fun x c => c = [(state, stC false)] ∧ False) us H Q E
/-! ### law -/
def pre_law (script : (Scr Int)) : Prop := script.l.length ≤ 63
def post_law (script : (Scr Int)) (r : Bool) : Prop := r = true
def sp_law (K : PySem.W.Frag) : Sp := fun us H Q E => ∃ (script : (Scr Int)), pre_law script ∧ Call K [vs script] [] (fun (r : Bool) c => c = [] ∧ post_law script r) (fun x c => c = [] ∧ False) us H Q E
structure Tx (K : PySem.W.Frag) (mg : Str → Option Value) (A : Ad) : Prop where
  c_MOST_KINDS_OF_LETTERS : ∃ t, mg "MOST_KINDS_OF_LETTERS" = some (.int 4 t)
  c_MOST_LETTERS : ∃ t, mg "MOST_LETTERS" = some (.int 24 t)
  c_MOST_WORDS : ∃ t, mg "MOST_WORDS" = some (.int 64 t)
  c_SMALL : ∃ t, mg "SMALL" = some (.str con_SMALL t)
  ex_BadLetters__BadLetters : PySem.W.exmOne K (.ref A.BadLetters) (.ref A.BadLetters) = some true
  ex_BadText__LanguageError : PySem.W.exmOne K (.ref A.BadText) (.ref A.LanguageError) = some true
  ic_Sample : C8.InsC K A.Sample
  g_Sample : mg "Sample" = some (.ref A.Sample)
  k_BadLetters : mg "BadLetters" = some (.ref A.BadLetters)
  k_BadText : mg "BadText" = some (.ref A.BadText)
  k_BadWord : mg "BadWord" = some (.ref A.BadWord)
  k_LanguageError : mg "LanguageError" = some (.ref A.LanguageError)
  k_TooMany : mg "TooMany" = some (.ref A.TooMany)
  kk_BadText__BadLetters : PySem.W.kitOne K (.ref A.BadText) (.ref A.BadLetters) = some false
  kk_BadText__BadText : PySem.W.kitOne K (.ref A.BadText) (.ref A.BadText) = some true
  kk_BadText__BadWord : PySem.W.kitOne K (.ref A.BadText) (.ref A.BadWord) = some false
  kk_BadText__TooMany : PySem.W.kitOne K (.ref A.BadText) (.ref A.TooMany) = some false
  m_abs : mg "abs" = none
  m_all : mg "all" = none
  m_any : mg "any" = none
  m_bool : mg "bool" = none
  m_enumerate : mg "enumerate" = none
  m_int : mg "int" = none
  m_isinstance : mg "isinstance" = none
  m_len : mg "len" = none
  m_list : mg "list" = none
  m_range : mg "range" = none
  m_sorted : mg "sorted" = none
  m_str : mg "str" = none
  m_tuple : mg "tuple" = none
  na_Sample__letters : NoAttr K A.Sample "letters"
  na_Sample__no : NoAttr K A.Sample "no"
  na_Sample__yes : NoAttr K A.Sample "yes"
  o_Sample : Cls K A.Sample
  x_BadLetters : XcO K mg "BadLetters" A.BadLetters
  xf_BadText : XfC K A.BadText
  xk_BadText : XkC K A.BadText
  xna_BadText__line : PySem.W.findIn K (.ref A.BadText) "line" = some none
theorem bb_abs : bootBuiltins "abs" = some (.builtin "abs") := by decide +kernel
theorem bb_all : bootBuiltins "all" = some (.builtin "all") := by decide +kernel
theorem bb_any : bootBuiltins "any" = some (.builtin "any") := by decide +kernel
theorem bb_bool : bootBuiltins "bool" = some (.type "bool") := by decide +kernel
theorem bb_enumerate : bootBuiltins "enumerate" = some (.type "enumerate") := by decide +kernel
theorem bb_int : bootBuiltins "int" = some (.type "int") := by decide +kernel
theorem bb_isinstance : bootBuiltins "isinstance" = some (.builtin "isinstance") := by decide +kernel
theorem bb_len : bootBuiltins "len" = some (.builtin "len") := by decide +kernel
theorem bb_list : bootBuiltins "list" = some (.type "list") := by decide +kernel
theorem bb_range : bootBuiltins "range" = some (.type "range") := by decide +kernel
theorem bb_sorted : bootBuiltins "sorted" = some (.builtin "sorted") := by decide +kernel
theorem bb_str : bootBuiltins "str" = some (.type "str") := by decide +kernel
theorem bb_tuple : bootBuiltins "tuple" = some (.type "tuple") := by decide +kernel
end LL

namespace LL
open PySem L2 Fw Lm
/-! ### written, word_of -/
theorem wr_1 {w : Str} (h : decide (w = "") = true) : wr w = "-" := if_pos (of_decide_eq_true h)
theorem wr_2 {w : Str} (h : decide (w = "") = false) : wr w = w := if_neg (of_decide_eq_false h)
theorem wr_len (w : Str) : (wr w).length ≤ w.length + 1 := by
  unfold wr
  split
  · have : ("-" : Str).length = 1 := by decide
    omega
  · omega
theorem any_inL (letters part : Str) : ((signs part).map fun (sign : Str) => !decide (sgn sign ∈ tl letters)).any id = !decide (inL letters part) := by
  rw [Bool.eq_iff_iff, List.any_eq_true]
  simp only [List.mem_map, id, Bool.not_eq_true', decide_eq_false_iff_not]
  constructor
  · rintro ⟨b, ⟨x, hx, rfl⟩, hb⟩ h
    have := sgn_mem hx
    simp [h _ this.2] at hb
  · intro h
    unfold inL at h
    simp only [Classical.not_forall] at h
    obtain ⟨c, hc, hn⟩ := h
    rw [← signs_sgn] at hc
    obtain ⟨x, hx, rfl⟩ := List.mem_map.mp hc
    exact ⟨true, ⟨x, hx, by simp [hn]⟩, rfl⟩
theorem wordO_1 {l p : Str} (h : decide (p = "-") = true) : wordO l p = some "" := if_pos (of_decide_eq_true h)
theorem wordO_2 {l p : Str} (h : decide (p = "-") = false) (h1 : (decide (p = "") || ((signs p).map fun (sign : Str) => !decide (sgn sign ∈ tl l)).any id) = true) : wordO l p = none := by
  unfold wordO
  rw [any_inL] at h1
  rw [if_neg (of_decide_eq_false h), if_pos]
  simpa using h1
theorem wordO_3 {l p : Str} (h : decide (p = "-") = false) (h1 : (decide (p = "") || ((signs p).map fun (sign : Str) => !decide (sgn sign ∈ tl l)).any id) = false) : wordO l p = some p := by
  unfold wordO
  rw [any_inL] at h1
  rw [if_neg (of_decide_eq_false h), if_neg]
  simpa using h1
/-! ### texts -/
theorem len_s : ("sample " : Str).length = 7 := by decide
theorem len_y : ("yes " : Str).length = 4 := by decide
theorem len_n : ("no " : Str).length = 3 := by decide
theorem len_nl : ("\n" : Str).length = 1 := by decide
theorem sLines_p {letters : Str} {yes no : List Str} {b : Nat} (hl : letters.length ≤ 10) (hy : ∀ w ∈ yes, w.length ≤ b) (hn : ∀ w ∈ no, w.length ≤ b) : ∀ p ∈ sLines letters yes no, p.length ≤ b + 20 := by
  intro p hp
  rcases List.mem_cons.mp hp with rfl | hp
  · rw [len_app, len_s]; omega
  · rcases List.mem_append.mp hp with hp | hp
    · obtain ⟨w, hw, rfl⟩ := List.mem_map.mp hp
      have := hy w hw
      have := wr_len w
      rw [len_app, len_y]; omega
    · obtain ⟨w, hw, rfl⟩ := List.mem_map.mp hp
      have := hn w hw
      have := wr_len w
      rw [len_app, len_n]; omega
theorem sLines_len (letters : Str) (yes no : List Str) : (sLines letters yes no).length = yes.length + no.length + 1 := by simp [sLines]
theorem sLines_fit {letters : Str} {yes no : List Str} (hl : letters.length ≤ 10) (h1 : yes.length ≤ 70) (h2 : no.length ≤ 70) (hy : ∀ w ∈ yes, w.length ≤ 60) (hn : ∀ w ∈ no, w.length ≤ 60) :
    ((sLines letters yes no).map (·.length)).sum + (sLines letters yes no).length * ("\n" : Str).length ≤ 16777216 := by
  have h3 := sum_len_le (sLines_p hl hy hn)
  rw [len_nl]
  rw [sLines_len] at *
  omega
theorem sText_len {letters : Str} {yes no : List Str} (hl : letters.length ≤ 10) (h1 : yes.length ≤ 70) (h2 : no.length ≤ 70) (hy : ∀ w ∈ yes, w.length ≤ 50) (hn : ∀ w ∈ no, w.length ≤ 50) : (sText letters yes no).length ≤ 10100 := by
  unfold sText
  rw [nl_eq]
  have h3 := join_len_le (c := 10) (sLines_p hl hy hn)
  rw [sLines_len] at h3
  omega
theorem sLines_snocY {letters : Str} {pre : List Str} {x : Str} : sLines letters (pre ++ [x]) [] = sLines letters pre [] ++ ["yes " ++ wr x] := by simp [sLines]
theorem sLines_snocN {letters : Str} {yes pre : List Str} {x : Str} : sLines letters yes (pre ++ [x]) = sLines letters yes pre ++ ["no " ++ wr x] := by simp [sLines]
/-! ### reading -/
theorem lines_facts {text : Str} {lines : List Str} (h : lines = Txt.split text "\n") (hp : text.length ≤ 200000) : 1 ≤ lines.length ∧ lines.length ≤ 200002 ∧ ∀ k, (lines.getD k dS).length ≤ 200000 := by
  subst h
  refine ⟨List.length_pos_iff.mpr (split_ne _ _), by have := split_len_le text "\n"; omega, fun k => ?_⟩
  by_cases hk : k < (Txt.split text "\n").length
  · exact Nat.le_trans (split_part (getD_in hk)) hp
  · rw [List.getD_eq_getElem?_getD, List.getElem?_eq_none (by omega)]; show (0 : Nat) ≤ _; omega
theorem parts_facts {l : Str} {parts : List Str} (h : parts = Txt.split l " ") (hp : l.length ≤ 200000) : 1 ≤ parts.length ∧ parts.length ≤ 200002 ∧ ∀ k, (parts.getD k dS).length ≤ 200000 := by
  subst h
  refine ⟨List.length_pos_iff.mpr (split_ne _ _), by have := split_len_le l " "; omega, fun k => ?_⟩
  by_cases hk : k < (Txt.split l " ").length
  · exact Nat.le_trans (split_part (getD_in hk)) hp
  · rw [List.getD_eq_getElem?_getD, List.getElem?_eq_none (by omega)]; show (0 : Nat) ≤ _; omega
theorem head_is {text : Str} {head : List Str} (hh : head = Txt.split ((linesOf text).getD 0 dS) " ") : (!decide ((head.length : Int) = 2) || (!decide (head.getD (0 : Int).toNat dS = ("sample" : Str)) || !decide (goodL (head.getD (1 : Int).toNat dS)))) = !decide (headOk text) := by
  subst hh
  unfold headOk headP
  rw [Bool.eq_iff_iff]
  simp only [Bool.or_eq_true, Bool.not_eq_true']
  constructor
  · intro h
    simp only [decide_eq_false_iff_not] at h
    refine decide_eq_false ?_
    rcases h with h | h | h <;> rintro ⟨z1, z2, z3⟩
    · omega
    · exact h z2
    · exact h z3
  · intro h
    replace h := of_decide_eq_false h
    simp only [decide_eq_false_iff_not]
    by_cases h1 : (((Txt.split ((linesOf text).getD 0 dS) " ").length : Int)) = 2
    · by_cases h2 : (Txt.split ((linesOf text).getD 0 dS) " ").getD (0 : Int).toNat dS = ("sample" : Str)
      · exact .inr (.inr fun z => h ⟨by omega, h2, z⟩)
      · exact .inr (.inl h2)
    · exact .inl h1
theorem rdSL_app (letters : Str) : ∀ (a b : List Str) (i : Nat) (q : List Str × List Str), rdSL letters i q (a ++ b) = match rdSL letters i q a with
    | .error e => .error e
    | .ok q' => rdSL letters (i + a.length) q' b
  | [], b, i, q => rfl
  | l :: a, b, i, q => by
    rw [List.cons_append, rdSL, rdSL]
    cases stepS letters q l with
    | none => rfl
    | some q' =>
      dsimp only
      rw [rdSL_app letters a b (i + 1) q', List.length_cons, show i + (a.length + 1) = i + 1 + a.length by omega]
theorem rdS_0 {text : Str} : RdS text 0 [] [] := rfl
theorem drop_at {text : Str} {p : Nat} (hp : p + 1 < (linesOf text).length) : ((linesOf text).drop 1).take (p + 1) = ((linesOf text).drop 1).take p ++ [(linesOf text).getD (p + 1) dS] := by
  rw [List.take_succ, List.getElem?_drop, Nat.add_comm 1 p, List.getD_eq_getElem?_getD, List.getElem?_eq_getElem hp]
  rfl
theorem rdS_step {text : Str} {p : Nat} {ys ns ys' ns' : List Str} (hp : p + 1 < (linesOf text).length) (hI : RdS text p ys ns) (h : stepS (headL text) (ys, ns) ((linesOf text).getD (p + 1) dS) = some (ys', ns')) : RdS text (p + 1) ys' ns' := by
  unfold RdS at *
  rw [drop_at hp, rdSL_app, hI]
  dsimp only
  rw [rdSL, h]
  rfl
theorem rdS_no {text : Str} (h : ¬ headOk text) : rdS text = .error 1 := if_neg h
theorem rdS_bad {text : Str} {p : Nat} {ys ns : List Str} (hk : headOk text) (hp : p + 1 < (linesOf text).length) (hI : RdS text p ys ns) (h : stepS (headL text) (ys, ns) ((linesOf text).getD (p + 1) dS) = none) : rdS text = .error ((p : Int) + 2) := by
  unfold rdS
  rw [if_pos hk]
  have h1 : rdSL (headL text) 0 ([], []) (((linesOf text).drop 1).take (p + 1)) = .error ((p : Int) + 2) := by
    unfold RdS at hI
    rw [drop_at hp, rdSL_app, hI]
    dsimp only
    rw [rdSL, h, List.length_take, List.length_drop, Nat.zero_add, Nat.min_eq_left (by omega)]
  have h2 : (linesOf text).drop 1 = ((linesOf text).drop 1).take (p + 1) ++ ((linesOf text).drop 1).drop (p + 1) := (List.take_append_drop _ _).symm
  rw [h2, rdSL_app, h1]
theorem rdS_end {text : Str} {ys ns : List Str} (hk : headOk text) (hI : RdS text ((linesOf text).length - 1) ys ns) : rdS text = .ok (headL text, ys, ns) := by
  unfold rdS
  rw [if_pos hk]
  unfold RdS at hI
  rw [List.take_of_length_le (by rw [List.length_drop]; exact Nat.le_refl _)] at hI
  rw [hI]
theorem mline {text : Str} {pre post : List (Int × Str)} {it : Int × Str} {rows : List Str} (hr : rows = Txt.split text "\n") (hs : enumI (cutL rows (some 1) none) = pre ++ it :: post) : it.1 = (pre.length : Int) ∧ it.2 = (linesOf text).getD (pre.length + 1) dS ∧ pre.length + 1 < (linesOf text).length := by
  have h1 : (enumI (cutL rows (some 1) none))[pre.length]? = some it := by rw [hs, List.getElem?_append_right (Nat.le_refl _), Nat.sub_self]; rfl
  obtain ⟨h2, h3⟩ := enumI_get h1
  rw [cutL_1, hr, List.getElem?_drop, Nat.add_comm] at h3
  have h4 := (List.getElem?_eq_some_iff.mp h3).1
  refine ⟨h2, ?_, h4⟩
  unfold linesOf
  rw [List.getD_eq_getElem?_getD, h3]
  rfl
/-! ### a line -/
theorem st_len {letters : Str} {q : List Str × List Str} {l : Str} {parts : List Str} (hp : parts = Txt.split l " ") (h : parts.length ≠ 2) : stepS letters q l = none := by
  subst hp; exact if_neg h
theorem st_key {letters : Str} {q : List Str × List Str} {l : Str} {parts : List Str} (hp : parts = Txt.split l " ") (h1 : parts.getD 0 dS ≠ "yes") (h2 : parts.getD 0 dS ≠ "no") : stepS letters q l = none := by
  subst hp
  unfold stepS
  split
  · cases wordO letters ((Txt.split l " ").getD 1 dS) with
    | none => rfl
    | some w =>
      simp [h1, h2]
  · rfl
theorem st_word {letters : Str} {q : List Str × List Str} {l : Str} {parts : List Str} (hp : parts = Txt.split l " ") (h : wordO letters (parts.getD 1 dS) = none) : stepS letters q l = none := by
  subst hp
  unfold stepS
  rw [h]
  split <;> rfl
theorem st_yes {letters : Str} {q : List Str × List Str} {l w : Str} {parts : List Str} (hp : parts = Txt.split l " ") (h : parts.length = 2) (hw : wordO letters (parts.getD 1 dS) = some w) (h1 : parts.getD 0 dS = "yes") : stepS letters q l = if q.2.length = 0 ∧ okNext q.1 w then some (q.1 ++ [w], q.2) else none := by
  subst hp
  unfold stepS
  rw [if_pos h, hw]
  dsimp only
  rw [if_pos h1]
theorem st_no {letters : Str} {q : List Str × List Str} {l w : Str} {parts : List Str} (hp : parts = Txt.split l " ") (h : parts.length = 2) (hw : wordO letters (parts.getD 1 dS) = some w) (h1 : parts.getD 0 dS = "no") : stepS letters q l = if okNext q.2 w then some (q.1, q.2 ++ [w]) else none := by
  subst hp
  unfold stepS
  rw [if_pos h, hw]
  dsimp only
  rw [if_neg (by rw [h1]; decide +kernel), if_pos h1]
/-! ### what is read is good -/
def GoodW (letters : Str) (ws : List Str) : Prop := ws.length ≤ 64 ∧ ws.Pairwise wLt ∧ ∀ w ∈ ws, w.length ≤ 24 ∧ inL letters w
theorem pLe_lt {w v : Str} (h : pLe ((w.length : Int), w) ((v.length : Int), v) = false) : wLt v w := by
  unfold pLe at h
  have h := of_decide_eq_false h
  simp only [not_or, not_and] at h
  by_cases h1 : v.length < w.length
  · exact .inl h1
  · have h2 : w.length = v.length := by omega
    exact .inr ⟨h2.symm, by
      have h3 := h.2 (by omega)
      exact Classical.not_not.mp h3⟩
theorem good_next {letters : Str} {ws : List Str} {w : Str} (g : GoodW letters ws) (h : okNext ws w) (hw : inL letters w) : GoodW letters (ws ++ [w]) := by
  obtain ⟨g1, g2, g3⟩ := g
  obtain ⟨h1, h2, h3⟩ := h
  refine ⟨by rw [List.length_append]; simp; omega, List.pairwise_append.mpr ⟨g2, by simp, ?_⟩, fun x hx => ?_⟩
  · intro a ha b hb
    rw [List.mem_singleton.mp hb]
    rcases h3 with h3 | h3
    · rw [List.length_eq_zero_iff.mp h3] at ha; simp at ha
    · have h4 := pLe_lt h3
      have hne : ws ≠ [] := fun z => by rw [z] at ha; simp at ha
      have hl : 0 < ws.length := List.length_pos_iff.mpr hne
      obtain ⟨i, hi, rfl⟩ := List.mem_iff_getElem.mp ha
      have h5 : ws.getD (ws.length - 1) dS = ws[ws.length - 1]'(by omega) := by rw [List.getD_eq_getElem?_getD, List.getElem?_eq_getElem (by omega)]; rfl
      rw [h5] at h4
      by_cases hj : i = ws.length - 1
      · subst hj; exact h4
      · exact wLt_trans (List.pairwise_iff_getElem.mp g2 i (ws.length - 1) hi (by omega) (by omega)) h4
  · rcases List.mem_append.mp hx with hx | hx
    · exact g3 x hx
    · rw [List.mem_singleton.mp hx]; exact ⟨h2, hw⟩
theorem wordO_in {l p w : Str} (h : wordO l p = some w) : inL l w ∧ p = wr w := by
  unfold wordO at h
  split at h
  · rename_i hp
    obtain rfl := Option.some.inj h
    refine ⟨?_, by rw [hp]; rfl⟩
    intro c hc
    exact absurd hc (by show c ∉ ([] : List Nat); simp)
  · split at h
    · cases h
    · rename_i h1
      obtain rfl := Option.some.inj h
      simp only [not_or, Classical.not_not] at h1
      exact ⟨h1.2, (if_neg h1.1).symm⟩
/-- one line read: the lists stay good, and the line is the one that is written -/
theorem st_inv {letters : Str} {ys ns ys' ns' : List Str} {l : Str} (gy : GoodW letters ys) (gn : GoodW letters ns) (h : stepS letters (ys, ns) l = some (ys', ns')) : GoodW letters ys' ∧ GoodW letters ns' ∧
    ((ns = [] ∧ ns' = [] ∧ ∃ w, ys' = ys ++ [w] ∧ l = "yes " ++ wr w) ∨ (ys' = ys ∧ ∃ w, ns' = ns ++ [w] ∧ l = "no " ++ wr w)) := by
  have hl : tl l = jn 32 ((Txt.split l " ").map tl) := by rw [sp_eq, tl_split]
  by_cases h2 : (Txt.split l " ").length = 2
  · cases hw : wordO letters ((Txt.split l " ").getD 1 dS) with
    | none => rw [st_word rfl hw] at h; cases h
    | some w =>
      have hwi := wordO_in hw
      have hab : Txt.split l " " = [(Txt.split l " ").getD 0 dS, wr w] := by
        rw [← hwi.2]
        match Txt.split l " ", h2 with
        | [a, b], _ => rfl
      by_cases h1 : (Txt.split l " ").getD 0 dS = "yes"
      · rw [st_yes rfl h2 hw h1] at h
        split at h
        · rename_i hc
          have h := Option.some.inj h
          cases h
          have hn : ns = [] := List.length_eq_zero_iff.mp hc.1
          refine ⟨good_next gy hc.2 hwi.1, gn, .inl ⟨hn, hn, w, rfl, str_ext ?_⟩⟩
          rw [hl, hab, h1, tl_app]
          rfl
        · cases h
      · by_cases h0 : (Txt.split l " ").getD 0 dS = "no"
        · rw [st_no rfl h2 hw h0] at h
          split at h
          · rename_i hc
            have h := Option.some.inj h
            cases h
            refine ⟨gy, good_next gn hc hwi.1, .inr ⟨rfl, w, rfl, str_ext ?_⟩⟩
            rw [hl, hab, h0, tl_app]
            rfl
          · cases h
        · rw [st_key rfl h1 h0] at h; cases h
  · rw [st_len rfl h2] at h; cases h
theorem rdSL_inv {letters : Str} : ∀ {ls : List Str} {i : Nat} {ys ns ys' ns' : List Str}, GoodW letters ys → GoodW letters ns → rdSL letters i (ys, ns) ls = .ok (ys', ns') →
    GoodW letters ys' ∧ GoodW letters ns' ∧ sLines letters ys ns ++ ls = sLines letters ys' ns'
  | [], i, ys, ns, ys', ns', gy, gn, h => by
    have h : Except.ok (ys, ns) = (Except.ok (ys', ns') : Except Int _) := h
    cases h
    exact ⟨gy, gn, List.append_nil _⟩
  | l :: ls, i, ys, ns, ys', ns', gy, gn, h => by
    rw [rdSL] at h
    cases hs : stepS letters (ys, ns) l with
    | none => rw [hs] at h; cases h
    | some q =>
      obtain ⟨y1, n1⟩ := q
      rw [hs] at h
      dsimp only at h
      obtain ⟨g1, g2, h3⟩ := st_inv gy gn hs
      obtain ⟨k1, k2, k3⟩ := rdSL_inv g1 g2 h
      refine ⟨k1, k2, ?_⟩
      rw [← k3]
      rcases h3 with ⟨rfl, rfl, w, rfl, rfl⟩ | ⟨rfl, w, rfl, rfl⟩
      · rw [sLines_snocY, List.append_assoc]; rfl
      · rw [sLines_snocN, List.append_assoc]; rfl
theorem good_nil (letters : Str) : GoodW letters [] := ⟨by simp, .nil, by simp⟩
theorem rdS_good {text : Str} {p : Nat} {ys ns : List Str} (hI : RdS text p ys ns) : GoodW (headL text) ys ∧ GoodW (headL text) ns := by
  have := rdSL_inv (good_nil _) (good_nil _) hI
  exact ⟨this.1, this.2.1⟩
theorem join_split_nl (text : Str) : Txt.join "\n" (Txt.split text "\n") = text := by
  rw [nl_eq]
  exact str_ext (by rw [join_eq, tl_join, tl_split])
theorem rdS_text {text l : Str} {ys ns : List Str} (h : rdS text = .ok (l, ys, ns)) : sText l ys ns = text ∧ goodL l ∧ GoodW l ys ∧ GoodW l ns := by
  unfold rdS at h
  split at h
  · rename_i hk
    cases hr : rdSL (headL text) 0 ([], []) ((linesOf text).drop 1) with
    | error e => rw [hr] at h; cases h
    | ok q =>
      obtain ⟨y, n⟩ := q
      rw [hr] at h
      have h : Except.ok (headL text, y, n) = (Except.ok (l, ys, ns) : Except Int _) := h
      cases h
      obtain ⟨g1, g2, g3⟩ := rdSL_inv (good_nil _) (good_nil _) hr
      refine ⟨?_, hk.2.2, g1, g2⟩
      unfold sText
      rw [← g3]
      have h0 : (linesOf text).getD 0 dS = "sample " ++ headL text := str_ext (by
        have hl : tl ((linesOf text).getD 0 dS) = jn 32 ((headP text).map tl) := by unfold headP; rw [sp_eq, tl_split]
        rw [hl, tl_app]
        obtain ⟨z1, z2, _⟩ := hk
        unfold headL
        match hq : headP text, z1 with
        | [a, b], _ =>
          rw [hq] at z2
          have z2 : a = "sample" := z2
          subst z2
          have z3 : tl ("sample " : Str) = tl ("sample" : Str) ++ [32] := by decide +kernel
          rw [z3, List.append_assoc]
          rfl)
      have h1 : sLines (headL text) [] [] ++ (linesOf text).drop 1 = linesOf text := by
        have hne : linesOf text ≠ [] := split_ne _ _
        match hq : linesOf text, hne with
        | x :: r, _ =>
          rw [hq] at h0
          have h0 : x = "sample " ++ headL text := h0
          rw [h0]
          rfl
      rw [h1]
      exact join_split_nl text
  · cases h
theorem good_sup {letters : Str} {ws m : List Str} (g : GoodW letters ws) (h : SUp (· ∈ ws) m) : m = ws := SUp.uniq h ⟨g.2.1, fun _ => Iff.rfl⟩
theorem good_ok {letters : Str} {ws : List Str} (g : GoodW letters ws) : wordsOk letters ws := ⟨g.1, g.2.2⟩
/-! ### letters, drawn -/
theorem abc_len : ("abcdefghijklmnopqrstuvwxyz" : Str).length = 26 := by decide
theorem abc_at : ∀ i, i < 26 → (tl ("abcdefghijklmnopqrstuvwxyz" : Str)).getD i 0 = 97 + i := by decide +kernel
theorem alphI_0 {many at_ : Int} {signs told : Str} (hs : signs = "abcdefghijklmnopqrstuvwxyz") (hm : 1 ≤ many ∧ many ≤ 4) (ha : 0 ≤ at_ ∧ at_ < 26 - 6 * (many - 1)) (ht : told = sgnAt signs at_.toNat) : AlphI many 0 at_ told := by
  subst hs ht
  have h1 := abc_at at_.toNat (by omega)
  refine ⟨sgnAt_len _ _, by rw [sgnAt_tl]; simp, fun c hc => ?_, ha.1, by omega⟩
  rw [sgnAt_tl, h1] at hc
  rw [List.mem_singleton.mp hc]
  omega
theorem alphI_step {many at_ r : Int} {signs to : Str} {k : Nat} (hs : signs = "abcdefghijklmnopqrstuvwxyz") (hk : (k : Int) + 1 ≤ many - 1) (hI : AlphI many k at_ to) (hr : 0 ≤ r ∧ r < 6) : AlphI many (k + 1) (at_ + 1 + r) (to ++ sgnAt signs (at_ + 1 + r).toNat) := by
  subst hs
  obtain ⟨h1, h2, h3, h4, h5⟩ := hI
  have h6 := abc_at (at_ + 1 + r).toNat (by omega)
  refine ⟨by rw [len_app, sgnAt_len, h1], ?_, fun c hc => ?_, by omega, by omega⟩
  · rw [tl_app, sgnAt_tl, h6]
    refine List.pairwise_append.mpr ⟨h2, by simp, fun a ha b hb => ?_⟩
    rw [List.mem_singleton.mp hb]
    have := h3 a ha
    omega
  · rw [tl_app, sgnAt_tl, h6] at hc
    rcases List.mem_append.mp hc with hc | hc
    · have := h3 c hc
      omega
    · rw [List.mem_singleton.mp hc]
      omega
theorem alphI_end {many at_ : Int} {to : Str} (hm : 1 ≤ many ∧ many ≤ 4) (hI : AlphI many (many - 1).toNat at_ to) : goodL to := by
  obtain ⟨h1, h2, h3, h4, h5⟩ := hI
  refine ⟨by omega, by omega, h2, fun c hc => ?_⟩
  have := h3 c hc
  omega
theorem len_e : ("" : Str).length = 0 := by decide
theorem inL_e (l : Str) : inL l "" := by
  intro c hc
  exact absurd hc (by show c ∉ ([] : List Nat); simp)
theorem big5' : ∀ n, n < 5 → 0 ≤ ([0, 62, 63, 64, 65] : List Int).getD n 0 ∧ ([0, 62, 63, 64, 65] : List Int).getD n 0 ≤ 66 := by decide
theorem many8' : ∀ n, n < 8 → 1 ≤ ([2, 2, 2, 2, 2, 1, 3, 4] : List Int).getD n 0 ∧ ([2, 2, 2, 2, 2, 1, 3, 4] : List Int).getD n 0 ≤ 4 := by decide
/-! ### sums of lengths -/
theorem sumL_join (rs : List Str) : (Txt.join "\n" rs).length ≤ sumL rs := by
  rw [nl_eq, ← len_tl, join_eq, tl_join]
  have h := jn_len (c := 10) (rs.map tl)
  unfold sumL
  rw [List.length_map, List.map_map] at h
  rw [show (List.length ∘ tl) = fun (x : Str) => x.length from funext fun x => len_tl x] at h
  exact h
theorem sumL_app (a b : List Str) : sumL (a ++ b) = sumL a + sumL b := by simp [sumL]; omega
theorem sumL_cons (x : Str) (b : List Str) : sumL (x :: b) = x.length + 1 + sumL b := by simp [sumL]; omega
theorem sumL_take (rs : List Str) (n : Nat) : sumL (rs.take n) + sumL (rs.drop n) = sumL rs := by rw [← sumL_app, List.take_append_drop]
theorem sumL_ins (rs : List Str) (n : Nat) (x : Str) : sumL (rs.take n ++ [x] ++ rs.drop n) = sumL rs + x.length + 1 := by
  have := sumL_take rs n
  rw [sumL_app, sumL_app, sumL_cons]
  have h0 : sumL [] = 0 := rfl
  omega
theorem sumL_erase (rs : List Str) (n : Nat) : sumL (rs.eraseIdx n) ≤ sumL rs := by
  rw [List.eraseIdx_eq_take_drop_succ, sumL_app]
  have h1 := sumL_take rs n
  have h2 : sumL (rs.drop (n + 1)) ≤ sumL (rs.drop n) := by
    rw [← List.drop_drop]
    have := sumL_take (rs.drop n) 1
    rw [List.drop_drop] at *
    omega
  omega
theorem sumL_set : ∀ (rs : List Str) (n : Nat) (x : Str), sumL (rs.set n x) ≤ sumL rs + x.length
  | [], n, x => by show 0 ≤ _; omega
  | y :: rs, 0, x => by rw [List.set_cons_zero, sumL_cons, sumL_cons]; omega
  | y :: rs, n + 1, x => by
    have := sumL_set rs n x
    rw [List.set_cons_succ, sumL_cons, sumL_cons]; omega
theorem sumL_at {rs : List Str} {n : Nat} : (rs.getD n dS).length ≤ sumL rs := by
  by_cases h : n < rs.length
  · have h1 := sumL_take rs n
    have h2 : rs.drop n = rs.getD n dS :: rs.drop (n + 1) := by
      rw [List.getD_eq_getElem?_getD, List.getElem?_eq_getElem h]
      exact List.drop_eq_getElem_cons h
    rw [h2, sumL_cons] at h1
    omega
  · rw [List.getD_eq_getElem?_getD, List.getElem?_eq_none (by omega)]
    show (0 : Nat) ≤ _
    omega
theorem sumL_ge (rs : List Str) : rs.length ≤ sumL rs := by unfold sumL; omega
theorem jn_len1 {c : Nat} : ∀ {l : List (List Nat)}, l ≠ [] → (jn c l).length + 1 = (l.map List.length).sum + l.length
  | [], h => absurd rfl h
  | [x], _ => by simp [jn]
  | x :: y :: r, _ => by
    have h := jn_len1 (c := c) (l := y :: r) (List.cons_ne_nil _ _)
    rw [jn_cons (List.cons_ne_nil _ _), List.length_append, List.length_cons, List.map_cons, List.sum_cons, List.length_cons (a := x)]
    omega
theorem sumL_split (text : Str) : sumL (Txt.split text "\n") = text.length + 1 := by
  have h := jn_len1 (c := 10) (l := (Txt.split text "\n").map tl) (by simpa using split_ne text "\n")
  rw [nl_eq] at *
  rw [tl_split, len_tl, List.length_map, List.map_map, show (List.length ∘ tl) = fun (x : Str) => x.length from funext fun x => len_tl x] at h
  unfold sumL
  omega
theorem sumL_fit {rs : List Str} (h : sumL rs ≤ 10000000) : (rs.map (·.length)).sum + rs.length * ("\n" : Str).length ≤ 16777216 := by
  rw [len_nl]
  unfold sumL at h
  omega
end LL

namespace LL
open PySem L2 Fw Lm
section
variable {letters l w : Str} {ys ns parts : List Str} {word : Option Str}
theorem good_at {ws : List Str} (g : GoodW letters ws) (k : Nat) : (ws.getD k dS).length ≤ 24 := by
  by_cases hk : k < ws.length
  · exact (g.2.2 _ (getD_in hk)).1
  · rw [List.getD_eq_getElem?_getD, List.getElem?_eq_none (by omega)]
    show (0 : Nat) ≤ _
    omega
theorem wordO_len (l p : Str) : ((wordO l p).getD dS).length ≤ p.length := by
  unfold wordO
  split
  · exact Nat.zero_le _
  · split
    · exact Nat.zero_le _
    · exact Nat.le_refl _
theorem st_1 {q : List Str × List Str} {b c : Adr} (hp : parts = Txt.split l " ") (h : (!decide ((parts.length : Int) = 2) || !decide (parts.getD (0 : Int).toNat dS ∈ keysD [(("yes" : Str), b), (("no" : Str), c)])) = true) : stepS letters q l = none := by
  simp only [Bool.or_eq_true, Bool.not_eq_true', decide_eq_false_iff_not] at h
  rcases h with h | h
  · exact st_len hp (by omega)
  · have h : parts.getD 0 dS ∉ [("yes" : Str), "no"] := h
    exact st_key hp (fun z => h (by rw [z]; simp)) (fun z => h (by rw [z]; simp))
theorem st_2 {b c : Adr} (h : (!decide ((parts.length : Int) = 2) || !decide (parts.getD (0 : Int).toNat dS ∈ keysD [(("yes" : Str), b), (("no" : Str), c)])) = false) : parts.length = 2 ∧ (parts.getD (0 : Int).toNat dS = "yes" ∨ parts.getD (0 : Int).toNat dS = "no") := by
  simp only [Bool.or_eq_false_iff, Bool.not_eq_false', decide_eq_true_eq] at h
  have h2 : parts.getD 0 dS ∈ [("yes" : Str), "no"] := h.2
  refine ⟨by omega, ?_⟩
  rcases List.mem_cons.mp h2 with z | z
  · exact .inl z
  · exact .inr (List.mem_singleton.mp z)
theorem yes_bad (hp : parts = Txt.split l " ") (h2 : parts.length = 2) (hk : parts.getD (0 : Int).toNat dS = "yes") (hw : word = wordO letters (parts.getD (1 : Int).toNat dS)) (hb : word = none ∨ ¬ (ns.length = 0 ∧ okNext ys (word.getD dS))) : stepS letters (ys, ns) l = none := by
  cases word with
  | none => exact st_word hp hw.symm
  | some w =>
    rw [st_yes hp h2 hw.symm hk]
    exact if_neg (hb.resolve_left (by simp))
theorem yes_ok (hp : parts = Txt.split l " ") (h2 : parts.length = 2) (hk : parts.getD (0 : Int).toNat dS = "yes") (hw : word = wordO letters (parts.getD (1 : Int).toNat dS)) (hs : word.isSome = true) (ho : ns.length = 0 ∧ okNext ys (word.getD dS)) : stepS letters (ys, ns) l = some (ys ++ [word.getD dS], ns) := by
  cases word with
  | none => cases hs
  | some w =>
    rw [st_yes hp h2 hw.symm hk]
    exact if_pos ho
theorem no_bad (hp : parts = Txt.split l " ") (h2 : parts.length = 2) (hk : parts.getD (0 : Int).toNat dS = "no") (hw : word = wordO letters (parts.getD (1 : Int).toNat dS)) (hb : word = none ∨ ¬ okNext ns (word.getD dS)) : stepS letters (ys, ns) l = none := by
  cases word with
  | none => exact st_word hp hw.symm
  | some w =>
    rw [st_no hp h2 hw.symm hk]
    exact if_neg (hb.resolve_left (by simp))
theorem no_ok (hp : parts = Txt.split l " ") (h2 : parts.length = 2) (hk : parts.getD (0 : Int).toNat dS = "no") (hw : word = wordO letters (parts.getD (1 : Int).toNat dS)) (hs : word.isSome = true) (ho : okNext ns (word.getD dS)) : stepS letters (ys, ns) l = some (ys, ns ++ [word.getD dS]) := by
  cases word with
  | none => cases hs
  | some w =>
    rw [st_no hp h2 hw.symm hk]
    exact if_pos ho
theorem n1 (n : Nat) : ((n : Int) - 1).toNat = n - 1 := by omega
theorem n2 {n : Nat} (h : 0 < n) : (-1 + (n : Int)).toNat = n - 1 := by omega
theorem okN_no2 {ws : List Str} {word : Option Str} (h : (word.isNone || (decide ((24 : Int) < (word.getD dS).length) || decide ((ws.length : Int) = 64))) = true) : word = none ∨ ¬ okNext ws (word.getD dS) := by
  cases word with
  | none => exact .inl rfl
  | some w =>
    right
    rintro ⟨z1, z2, _⟩
    have h : (decide ((24 : Int) < w.length) || decide ((ws.length : Int) = 64)) = true := h
    have z2 : w.length ≤ 24 := z2
    simp at h
    omega
theorem okN_no3 {ws : List Str} {w : Str} (h : (decide ((0 : Int) < ws.length) && pLe ((w.length : Int), w) (((ws.getD ((ws.length : Int) - 1).toNat dS).length : Int), ws.getD ((ws.length : Int) - 1).toNat dS)) = true) : ¬ okNext ws w := by
  rintro ⟨_, _, z⟩
  rw [n1] at h
  simp only [Bool.and_eq_true, decide_eq_true_eq] at h
  rcases z with z | z
  · omega
  · rw [h.2] at z; cases z
theorem okN_of {ws : List Str} {word : Option Str} (h64 : ws.length ≤ 64) (h2 : (word.isNone || (decide ((24 : Int) < (word.getD dS).length) || decide ((ws.length : Int) = 64))) = false)
    (h3 : (decide ((0 : Int) < ws.length) && pLe (((word.getD dS).length : Int), word.getD dS) (((ws.getD ((ws.length : Int) - 1).toNat dS).length : Int), ws.getD ((ws.length : Int) - 1).toNat dS)) = false) : okNext ws (word.getD dS) := by
  rw [n1] at h3
  simp only [Bool.or_eq_false_iff, decide_eq_false_iff_not, Bool.and_eq_false_iff] at h2 h3
  refine ⟨by omega, by omega, ?_⟩
  rcases h3 with h3 | h3
  · exact .inl (by omega)
  · exact .inr h3
theorem bad_ok {A : Ad} {ws : List Str} {x : XD} (g : wordsOk letters ws) : ¬ wordsBad A letters ws x := by
  rintro (h | ⟨_, pre, w, post, rfl, _, h⟩)
  · have := g.1; omega
  · have hw := g.2 w (by simp)
    rcases h with h | ⟨_, k, hk, _⟩
    · omega
    · exact bad_not_in hk hw.2
theorem sample_no {A : Ad} {x : XD} (g : goodL letters) (hy : wordsOk letters ys) (hn : wordsOk letters ns) : ¬ xp_Sample___init A letters ys ns x := by
  rintro (h | ⟨_, h | ⟨_, h⟩⟩)
  · exact h.2 g
  · exact bad_ok hy h
  · exact bad_ok hn h
/-! ### the law's reading -/
theorem lw_1 (hp : parts = Txt.split l " ") (h : (!decide ((parts.length : Int) = 2) || (!decide (parts.getD (0 : Int).toNat dS ∈ ([("yes" : Str), ("no" : Str)] : List Str)) || (decide (parts.getD (0 : Int).toNat dS = "yes") && decide ((0 : Int) < ns.length)))) = true) : stepS letters (ys, ns) l = none := by
  by_cases h2 : parts.length = 2
  · simp only [Bool.or_eq_true, Bool.not_eq_true', decide_eq_false_iff_not, Bool.and_eq_true, decide_eq_true_eq] at h
    rcases h with h | h | h
    · omega
    · have h : parts.getD 0 dS ∉ [("yes" : Str), "no"] := h
      exact st_key hp (fun z => h (by rw [z]; simp)) (fun z => h (by rw [z]; simp))
    · exact yes_bad hp h2 h.1 rfl (.inr (fun z => by omega))
  · exact st_len hp h2
theorem lw_2 (h : (!decide ((parts.length : Int) = 2) || (!decide (parts.getD (0 : Int).toNat dS ∈ ([("yes" : Str), ("no" : Str)] : List Str)) || (decide (parts.getD (0 : Int).toNat dS = "yes") && decide ((0 : Int) < ns.length)))) = false) :
    parts.length = 2 ∧ (parts.getD (0 : Int).toNat dS = "yes" ∨ parts.getD (0 : Int).toNat dS = "no") ∧ (parts.getD (0 : Int).toNat dS = "yes" → ns.length = 0) := by
  simp only [Bool.or_eq_false_iff, Bool.not_eq_false', decide_eq_true_eq, Bool.and_eq_false_iff, decide_eq_false_iff_not] at h
  refine ⟨by omega, ?_, fun z => ?_⟩
  · rcases List.mem_cons.mp h.2.1 with z | z
    · exact .inl z
    · exact .inr (List.mem_singleton.mp z)
  · rcases h.2.2 with q | q
    · exact absurd z q
    · omega
theorem lw_3 {word : Str} (hw : word = parts.getD (1 : Int).toNat dS) (h : decide (word = "-") = true) : wordO letters (parts.getD 1 dS) = some "" := by
  have hw : word = parts.getD 1 dS := hw
  rw [← hw]
  exact wordO_1 h
theorem lw_6 {word : Str} (hw : word = parts.getD (1 : Int).toNat dS) (h : decide (word = "-") = false) (h1 : (decide (word = "") || (decide ((24 : Int) < word.length) || ((signs word).map fun (sign : Str) => !decide (sgn sign ∈ tl letters)).any id)) = false) : wordO letters (parts.getD 1 dS) = some word ∧ word.length ≤ 24 := by
  have hw : word = parts.getD 1 dS := hw
  rw [← hw]
  simp only [Bool.or_eq_false_iff] at h1
  refine ⟨wordO_3 h (by rw [h1.1, h1.2.2]; rfl), by have := of_decide_eq_false h1.2.1; omega⟩
theorem lw_5 {word : Str} (hp : parts = Txt.split l " ") (h2 : parts.length = 2) (hy : parts.getD (0 : Int).toNat dS = "yes" ∨ parts.getD (0 : Int).toNat dS = "no") (hw : word = parts.getD (1 : Int).toNat dS) (h : decide (word = "-") = false)
    (h1 : (decide (word = "") || (decide ((24 : Int) < word.length) || ((signs word).map fun (sign : Str) => !decide (sgn sign ∈ tl letters)).any id)) = true) : stepS letters (ys, ns) l = none := by
  have hw' : word = parts.getD 1 dS := hw
  by_cases hq : (decide (word = "") || ((signs word).map fun (sign : Str) => !decide (sgn sign ∈ tl letters)).any id) = true
  · exact st_word hp (by rw [← hw']; exact wordO_2 h hq)
  · have hq : (decide (word = "") || ((signs word).map fun (sign : Str) => !decide (sgn sign ∈ tl letters)).any id) = false := by simpa using hq
    have h3 := wordO_3 h hq
    have h4 : 24 < word.length := by
      simp only [Bool.or_eq_false_iff] at hq
      rw [hq.1, hq.2] at h1
      simp at h1
      omega
    rcases hy with hy | hy
    · exact yes_bad hp h2 hy (word := some word) (by rw [← hw]; exact h3.symm) (.inr fun z => by have : word.length ≤ 24 := z.2.2.1; omega)
    · exact no_bad hp h2 hy (word := some word) (by rw [← hw]; exact h3.symm) (.inr fun z => by have : word.length ≤ 24 := z.2.1; omega)
theorem lw_no {be : List Str} {wo : Str} (h : (decide ((63 : Int) < be.length) || (decide ((0 : Int) < be.length) && pLe ((wo.length : Int), wo) (((be.getD (-1 + (be.length : Int)).toNat dS).length : Int), be.getD (-1 + (be.length : Int)).toNat dS))) = true) : ¬ okNext be wo := by
  rintro ⟨z1, z2, z3⟩
  simp only [Bool.or_eq_true, Bool.and_eq_true, decide_eq_true_eq] at h
  rcases h with h | h
  · omega
  · rw [n2 (by omega)] at h
    rcases z3 with z | z
    · omega
    · rw [h.2] at z; cases z
theorem lw_yes {be : List Str} {wo : Str} (hl : wo.length ≤ 24) (h : (decide ((63 : Int) < be.length) || (decide ((0 : Int) < be.length) && pLe ((wo.length : Int), wo) (((be.getD (-1 + (be.length : Int)).toNat dS).length : Int), be.getD (-1 + (be.length : Int)).toNat dS))) = false) : okNext be wo := by
  simp only [Bool.or_eq_false_iff, Bool.and_eq_false_iff, decide_eq_false_iff_not] at h
  refine ⟨by omega, hl, ?_⟩
  by_cases h0 : be.length = 0
  · exact .inl h0
  · rw [n2 (by omega)] at h
    rcases h.2 with z | z
    · omega
    · exact .inr z
theorem lw_10 {be : List Str} {wo : Str} (hp : parts = Txt.split l " ") (h2 : parts.length = 2) (hy : parts.getD (0 : Int).toNat dS = "yes" ∨ parts.getD (0 : Int).toNat dS = "no") (hW : wordO letters (parts.getD 1 dS) = some wo) (hB : be = if parts.getD 0 dS = "yes" then ys else ns) (h : ¬ okNext be wo) : stepS letters (ys, ns) l = none := by
  rcases hy with hy | hy
  · rw [if_pos (show parts.getD 0 dS = "yes" from hy)] at hB
    subst hB
    exact yes_bad hp h2 hy (word := some wo) hW.symm (.inr fun z => h z.2)
  · rw [if_neg (by rw [show parts.getD 0 dS = "no" from hy]; decide +kernel)] at hB
    subst hB
    exact no_bad hp h2 hy (word := some wo) hW.symm (.inr h)
theorem lw_err {text : Str} {rows : List Str} {p : Nat} {k : Int} (hr : rows = Txt.split text "\n") (hk : headOk text) (hkp : k = 1 + (p : Int)) (hp : p < ((rows.length : Int) - 1).toNat) (hI : RdS text p ys ns) (h : stepS (headL text) (ys, ns) (rows.getD k.toNat dS) = none) : 0 < k + 1 ∧ rdS text = .error (k + 1) := by
  have hl : linesOf text = rows := hr.symm
  have h1 := rdS_bad (p := p) hk (by rw [hl]; omega) hI (by rw [hl, show p + 1 = k.toNat by omega]; exact h)
  rw [show k + 1 = (p : Int) + 2 by omega]
  exact ⟨by omega, h1⟩
theorem lw_stp {text : Str} {rows : List Str} {p : Nat} {k : Int} {ys' ns' : List Str} (hr : rows = Txt.split text "\n") (hkp : k = 1 + (p : Int)) (hp : p < ((rows.length : Int) - 1).toNat) (hI : RdS text p ys ns) (h : stepS (headL text) (ys, ns) (rows.getD k.toNat dS) = some (ys', ns')) : RdS text (p + 1) ys' ns' := by
  have hl : linesOf text = rows := hr.symm
  exact rdS_step (by rw [hl]; omega) hI (by rw [hl, show p + 1 = k.toNat by omega]; exact h)
end
/-! ### the law's own lists -/
theorem ws_of {letters : Str} {st : Addr} {ys : List Str} (h : ∃ xs_, (∃ n_, (∃ r3, post_law_next st 6 r3 ∧ n_ = r3) ∧ xs_ = rngI 0 n_.toNat) ∧ Paired (fun (k : Int) (z_ : Str) => ∃ (r4 : Int) (r5 : Str), post_law_next st 7 r4 ∧ post_law_word st letters r4 r5 ∧ z_ = r5) xs_ ys) : ys.length ≤ 5 ∧ ∀ w ∈ ys, w.length ≤ 6 ∧ inL letters w := by
  obtain ⟨xs, ⟨n, ⟨r3, h1, rfl⟩, rfl⟩, h2⟩ := h
  have h3 := paired_all (P := fun (w : Str) => w.length ≤ 6 ∧ inL letters w) (fun a b ⟨r4, r5, z1, z2, z3⟩ => by
    subst z3
    have := z1.1; have := z1.2; have := z2.1
    exact ⟨by omega, z2.2⟩) h2
  rw [rngI_len] at h3
  have := h1.1; have := h1.2
  exact ⟨by omega, h3.2⟩
theorem wsI_app {letters : Str} {ys : List Str} {w : Str} (h : ys.length ≤ 5 ∧ ∀ w ∈ ys, w.length ≤ 6 ∧ inL letters w) (hw : w.length ≤ 6 ∧ inL letters w) : wsI letters (ys ++ [w]) := by
  refine ⟨by simp; omega, fun x hx => ?_⟩
  rcases List.mem_append.mp hx with hx | hx
  · exact h.2 x hx
  · rw [List.mem_singleton.mp hx]; exact hw
theorem ws_at {letters : Str} {ys : List Str} {k : Nat} (h : ys.length ≤ 5 ∧ ∀ w ∈ ys, w.length ≤ 6 ∧ inL letters w) : (ys.getD k dS).length ≤ 6 ∧ inL letters (ys.getD k dS) := by
  by_cases hk : k < ys.length
  · exact h.2 _ (getD_in hk)
  · rw [List.getD_eq_getElem?_getD, List.getElem?_eq_none (by omega)]
    exact ⟨Nat.zero_le _, inL_e _⟩
theorem wsI_ok {letters : Str} {ys : List Str} (h : wsI letters ys) : wordsOk letters ys := ⟨by have := h.1; omega, fun w hw => ⟨by have := (h.2 w hw).1; omega, (h.2 w hw).2⟩⟩
theorem sup_mem {letters : Str} {ys r : List Str} (h : wsI letters ys) (hr : SUp (· ∈ ys) r) : r.length ≤ 6 ∧ ∀ w ∈ r, w.length ≤ 6 := by
  have h1 := sup_len hr
  exact ⟨by have := h.1; omega, fun w hw => (h.2 w ((hr.2 w).mp hw)).1⟩
theorem lit5' : ∀ n, n < 5 → (([(" " : Str), ("-" : Str), (" -" : Str), ("a" : Str), ("  " : Str)] : List Str).getD n dS).length ≤ 2 := by decide +kernel
theorem lit_len : (" -\nyesnoample0123456789ABCDXYZ.,:;!#&*+=<>()[]|~^_/@abcdefghijklmnopqrstuvwxyz" : Str).length = 78 := by decide +kernel
end LL

namespace LL
open PySem L2 Fw Lm
local macro_rules | `(tactic| walk_at "fsc") => `(tactic| first | omega | assumption | exact True.intro | exact sgn_split (by assumption) | exact sgn_split2 (by assumption) | (intros; omega) | (with_reducible exact emod_both (by omega)) | (simp only [Bool.not_eq_true', Bool.not_eq_false', decide_eq_true_eq, decide_eq_false_iff_not, Bool.or_eq_false_iff, Bool.and_eq_true, List.length_cons, List.length_nil, List.length_append, List.length_cons, List.length_nil, List.length_map, signs_len, rngI_len, enumI_len, keysD_len, pre_check_letters, post_check_letters, pre_check_word, post_check_word, pre_order_key, post_order_key, pre_in_order, post_in_order, pre_check_words, post_check_words, pre_Sample___init, post_Sample___init, pre_written, post_written, pre_word_of, post_word_of, pre_are_letters, post_are_letters, pre_sample_text, post_sample_text, pre_read_sample, post_read_sample, pre_law_start, pre_law_next, post_law_next, pre_law_integer, post_law_integer, pre_law_alphabet, post_law_alphabet, pre_law_word, post_law_word, pre_law_ordered, post_law_ordered, pre_law_text, post_law_text, pre_law_good_letters, post_law_good_letters, pre_law_read, post_law_read, pre_law_words_are, post_law_words_are, pre_law_reads, post_law_reads, pre_law_word_at, post_law_word_at, pre_law_climbing, post_law_climbing, pre_law_spoilt, post_law_spoilt, pre_law_large, post_law_large, pre_law, post_law] at *; first | omega | assumption | (refine ⟨?_, ?_⟩ <;> first | omega | assumption) | (refine ⟨?_, ?_, ?_⟩ <;> first | omega | assumption)) | (have hl_ := congrArg List.length hs_; simp only [List.length_append, List.length_cons, List.length_nil, List.length_map, signs_len, rngI_len, enumI_len, keysD_len] at hl_; omega) | (have hr_ := rng_split hs_; omega) | exact (by decide : 1 ≤ (" " : Str).length) | exact (by decide : 1 ≤ ("\n" : Str).length) | exact rfl)
local macro_rules | `(tactic| walk_at "fvc") => `(tactic| first | rfl | exact True.intro | assumption | omega)
local macro_rules | `(tactic| walk_at "fxp") => `(tactic| first | exact hx_ | assumption)
local macro_rules | `(tactic| walk_at "frs") => `(tactic| first | assumption)

section
variable {P : Program} {w : World} {K : PySem.W.Frag} {mg : Str → Option Value} {base : Heap} {A : Ad}
abbrev s_Sample___init : Stmt := inClass (topS 18) 0
abbrev N_Sample___init : List Str := ["self", "letters", "yes", "no"]
theorem sc_Sample___init : FnScope N_Sample___init ["self", "letters", "yes", "no"] (defScope s_Sample___init) := ⟨rfl, rfl, rfl, by decide +kernel, rfl, by decide +kernel, by decide +kernel⟩
set_option maxHeartbeats 4000000 in
theorem ok_Sample___init (T : Tx K mg A) (h_check_letters : Cal P w K mg base 1 A.check_letters "check_letters" ["letters"] (sp_check_letters K A)) (h_check_words : Cal P w K mg base 4 A.check_words "check_words" ["letters", "words"] (sp_check_words K A)) (h_in_order : Cal P w K mg base 5 A.in_order "in_order" ["words"] (sp_in_order K)) {fd : FuncData} (F : Fun K "__init__" "Sample.__init__" s_Sample___init A.Sample___init fd) : FnOk P w K mg base (L2N.CX P w) 6 A.Sample___init fd ["self", "letters", "yes", "no"] (sp_Sample___init K A) := by
  refine okN F sc_Sample___init (fun us H Q E ⟨self_, letters, yes, no, hpre, h⟩ => h.len) (fun cdv A_ outer s_ H us Q E hr ⟨self_, letters, yes, no, hpre, h⟩ => ?_)
  refine ⟨_, (pss_cons (ps_expr (pe_cal (W := (fun cls d _ H => E cls d H)) h_check_letters (hr.mono (by decide)) (L2N.takes_of rfl rfl rfl rfl) (pa_cons (pv 1) pa_nil))) (pss_cons (ps_expr (pe_cal (W := (fun cls d _ H => E cls d H)) h_check_words (hr.mono (by decide)) (L2N.takes_of rfl rfl rfl rfl) (pa_cons (pv 1) (pa_cons (pv 2) pa_nil)))) (pss_cons (ps_expr (pe_cal (W := (fun cls d _ H => E cls d H)) h_check_words (hr.mono (by decide)) (L2N.takes_of rfl rfl rfl rfl) (pa_cons (pv 1) (pa_cons (pv 3) pa_nil)))) (pss_cons (ps_fld (pv 0) (pv 1) rfl) (pss_cons (ps_fld (pv 0) (pe_callTy cr_tupOf (by rfl) T.m_tuple bb_tuple (pa_cons (pe_cal (W := (fun _ _ _ _ => False)) h_in_order (hr.mono (by decide)) takes0N (pa_cons (pv 2) pa_nil)) pa_nil)) rfl) (pss_one (ps_fld (pv 0) (pe_callTy cr_tupOf (by rfl) T.m_tuple bb_tuple (pa_cons (pe_cal (W := (fun _ _ _ _ => False)) h_in_order (hr.mono (by decide)) takes0N (pa_cons (pv 3) pa_nil)) pa_nil)) rfl))))))), ?_⟩
  refine Call.body h rfl fun G0_ H0_ => ?_
  have hpre_ := hpre; unfold pre_Sample___init at hpre_
  show Do _ _ ⟨[va (Adr.mk self_), va letters, va yes, va no], [(self_, insC false A.Sample [] [])]⟩ _
  refine do_seq (do_drop (ev_callP (W := (fun cls d _ H => E cls d H)) (P' := (fun (z_ : Unit) => post_check_letters letters z_)) (fun x_ => xp_check_letters A letters x_) (ea_consD (ev_var (i := 1) rfl) ea_nil) (fun ss_ hs_ us_ H_ Q_ E_ h_ => by obtain rfl := hs_; exact ⟨letters, (by walk_at "fsc"), Call.imp h_ (fun r_ c_ hq_ => hq_) (fun x_ c_ hq_ => hq_)⟩) (fun x_ hx_ => ⟨rfl, by refine ⟨_, (.cons _ .slnil), rfl, ?_⟩; exact .inl hx_⟩)) fun r_ h_call => ?_)
  show Do _ _ ⟨[va (Adr.mk self_), va letters, va yes, va no], [(self_, insC false A.Sample [] [])]⟩ _
  refine do_seq (do_drop (ev_callP (W := (fun cls d _ H => E cls d H)) (P' := (fun (z_ : Unit) => post_check_words letters yes z_)) (fun x_ => xp_check_words A letters yes x_) (ea_consD (ev_var (i := 1) rfl) (ea_consD (ev_var (i := 2) rfl) ea_nil)) (fun ss_ hs_ us_ H_ Q_ E_ h_ => by obtain rfl := hs_; exact ⟨letters, yes, (by exact ⟨by have := hpre_.2.1; omega, hpre_.2.2.2.1⟩), Call.imp h_ (fun r_ c_ hq_ => hq_) (fun x_ c_ hq_ => hq_)⟩) (fun x_ hx_ => ⟨rfl, by refine ⟨_, (.cons _ .slnil), rfl, ?_⟩; exact .inr ⟨h_call, .inl hx_⟩⟩)) fun r_ h_call1 => ?_)
  show Do _ _ ⟨[va (Adr.mk self_), va letters, va yes, va no], [(self_, insC false A.Sample [] [])]⟩ _
  refine do_seq (do_drop (ev_callP (W := (fun cls d _ H => E cls d H)) (P' := (fun (z_ : Unit) => post_check_words letters no z_)) (fun x_ => xp_check_words A letters no x_) (ea_consD (ev_var (i := 1) rfl) (ea_consD (ev_var (i := 3) rfl) ea_nil)) (fun ss_ hs_ us_ H_ Q_ E_ h_ => by obtain rfl := hs_; exact ⟨letters, no, (by exact ⟨by have := hpre_.2.2.1; omega, hpre_.2.2.2.2⟩), Call.imp h_ (fun r_ c_ hq_ => hq_) (fun x_ c_ hq_ => hq_)⟩) (fun x_ hx_ => ⟨rfl, by refine ⟨_, (.cons _ .slnil), rfl, ?_⟩; exact .inr ⟨h_call, .inr ⟨h_call1, hx_⟩⟩⟩)) fun r_ h_call2 => ?_)
  show Do _ _ ⟨[va (Adr.mk self_), va letters, va yes, va no], [(self_, insC false A.Sample [] [])]⟩ _
  refine do_seq (do_fld (k := 0) rfl T.o_Sample T.na_Sample__letters (by decide +kernel) (by decide) (ev_var (i := 1) rfl) (ev_var (i := 0) rfl) fun (letters1 : Str) h_letters1 => ?_)
  show Do _ _ ⟨[va (Adr.mk self_), va letters, va yes, va no], [(self_, insC false A.Sample ["letters"] [vs letters1])]⟩ _
  refine do_seq (do_fld (k := 0) rfl T.o_Sample T.na_Sample__yes (by decide +kernel) (by decide) (ev_cb (P' := (fun (z_ : (Tup Str)) => ∃ (r3 : (List Str)), post_in_order yes r3 ∧ z_ = (Tup.mk r3))) (EvA.mono (P' := (fun ss_ => ∃ (r3 : (List Str)), post_in_order yes r3 ∧ ss_ = [vs r3])) (ea_cons (Ev.mono (P' := (fun (z_ : (List Str)) => ∃ (r3 : (List Str)), post_in_order yes r3 ∧ z_ = r3)) (ev_callP (W := (fun _ _ _ _ => False)) (P' := (fun (z_ : (List Str)) => post_in_order yes z_)) (fun _ => False) (ea_consD (ev_var (i := 2) rfl) ea_nil) (fun ss_ hs_ us_ H_ Q_ E_ h_ => by obtain rfl := hs_; exact ⟨yes, (by exact ⟨by have := hpre_.2.1; omega, hpre_.2.2.2.1⟩), Call.imp h_ (fun r_ c_ hq_ => hq_) (fun x_ c_ hq_ => hq_)⟩) (fun x_ hx_ => hx_.elim)) (fun z_ hz_ => ⟨z_, hz_, rfl⟩)) (fun x_ hx_ => ea_nil)) (fun ss_ h_ => by obtain ⟨x_, r_, hx_, hr_, rfl⟩ := h_; obtain ⟨r3, hc_r3, hx_⟩ := hx_; rw [hx_]; obtain rfl := hr_; exact ⟨r3, hc_r3, rfl⟩)) (fun ss_ hs_ => by obtain ⟨r3, hc_r3, rfl⟩ := hs_; exact RCV.mono rc_tupL fun z_ hz_ => ⟨r3, hc_r3, hz_⟩)) (ev_var (i := 0) rfl) fun (yes1 : (Tup Str)) h_yes1 => ?_)
  obtain ⟨r3, hc_r3, h_yes1⟩ := h_yes1
  show Do _ _ ⟨[va (Adr.mk self_), va letters, va yes, va no], [(self_, insC false A.Sample ["letters", "yes"] [vs letters1, vs yes1])]⟩ _
  refine do_fld (k := 0) rfl T.o_Sample T.na_Sample__no (by decide +kernel) (by decide) (ev_cb (P' := (fun (z_ : (Tup Str)) => ∃ (r4 : (List Str)), post_in_order no r4 ∧ z_ = (Tup.mk r4))) (EvA.mono (P' := (fun ss_ => ∃ (r4 : (List Str)), post_in_order no r4 ∧ ss_ = [vs r4])) (ea_cons (Ev.mono (P' := (fun (z_ : (List Str)) => ∃ (r4 : (List Str)), post_in_order no r4 ∧ z_ = r4)) (ev_callP (W := (fun _ _ _ _ => False)) (P' := (fun (z_ : (List Str)) => post_in_order no z_)) (fun _ => False) (ea_consD (ev_var (i := 3) rfl) ea_nil) (fun ss_ hs_ us_ H_ Q_ E_ h_ => by obtain rfl := hs_; exact ⟨no, (by exact ⟨by have := hpre_.2.2.1; omega, hpre_.2.2.2.2⟩), Call.imp h_ (fun r_ c_ hq_ => hq_) (fun x_ c_ hq_ => hq_)⟩) (fun x_ hx_ => hx_.elim)) (fun z_ hz_ => ⟨z_, hz_, rfl⟩)) (fun x_ hx_ => ea_nil)) (fun ss_ h_ => by obtain ⟨x_, r_, hx_, hr_, rfl⟩ := h_; obtain ⟨r4, hc_r4, hx_⟩ := hx_; rw [hx_]; obtain rfl := hr_; exact ⟨r4, hc_r4, rfl⟩)) (fun ss_ hs_ => by obtain ⟨r4, hc_r4, rfl⟩ := hs_; exact RCV.mono rc_tupL fun z_ hz_ => ⟨r4, hc_r4, hz_⟩)) (ev_var (i := 0) rfl) fun (no1 : (Tup Str)) h_no1 => ?_
  obtain ⟨r4, hc_r4, h_no1⟩ := h_no1
  refine ⟨(), fun _ _ => rfl, ?_⟩
  refine ⟨_, (.cons₂ _ .slnil), ⟨letters1, yes1, no1⟩, rfl, ?_⟩
  · -- vc 0
    exact ⟨h_call, h_call1, h_call2, h_letters1, by rw [h_yes1]; exact hc_r3, by rw [h_no1]; exact hc_r4⟩

end
end LL

namespace LL
open PySem L2 Fw Lm
local macro_rules | `(tactic| walk_at "fsc") => `(tactic| first | omega | assumption | exact True.intro | exact sgn_split (by assumption) | exact sgn_split2 (by assumption) | (intros; omega) | (with_reducible exact emod_both (by omega)) | (simp only [Bool.not_eq_true', Bool.not_eq_false', decide_eq_true_eq, decide_eq_false_iff_not, Bool.or_eq_false_iff, Bool.and_eq_true, List.length_cons, List.length_nil, List.length_append, List.length_cons, List.length_nil, List.length_map, signs_len, rngI_len, enumI_len, keysD_len, pre_check_letters, post_check_letters, pre_check_word, post_check_word, pre_order_key, post_order_key, pre_in_order, post_in_order, pre_check_words, post_check_words, pre_Sample___init, post_Sample___init, pre_written, post_written, pre_word_of, post_word_of, pre_are_letters, post_are_letters, pre_sample_text, post_sample_text, pre_read_sample, post_read_sample, pre_law_start, pre_law_next, post_law_next, pre_law_integer, post_law_integer, pre_law_alphabet, post_law_alphabet, pre_law_word, post_law_word, pre_law_ordered, post_law_ordered, pre_law_text, post_law_text, pre_law_good_letters, post_law_good_letters, pre_law_read, post_law_read, pre_law_words_are, post_law_words_are, pre_law_reads, post_law_reads, pre_law_word_at, post_law_word_at, pre_law_climbing, post_law_climbing, pre_law_spoilt, post_law_spoilt, pre_law_large, post_law_large, pre_law, post_law] at *; first | omega | assumption | (refine ⟨?_, ?_⟩ <;> first | omega | assumption) | (refine ⟨?_, ?_, ?_⟩ <;> first | omega | assumption)) | (have hl_ := congrArg List.length hs_; simp only [List.length_append, List.length_cons, List.length_nil, List.length_map, signs_len, rngI_len, enumI_len, keysD_len] at hl_; omega) | (have hr_ := rng_split hs_; omega) | exact (by decide : 1 ≤ (" " : Str).length) | exact (by decide : 1 ≤ ("\n" : Str).length) | exact rfl)
local macro_rules | `(tactic| walk_at "fvc") => `(tactic| first | rfl | exact True.intro | assumption | omega)
local macro_rules | `(tactic| walk_at "fxp") => `(tactic| first | exact hx_ | assumption)
local macro_rules | `(tactic| walk_at "frs") => `(tactic| first | assumption)

section
variable {P : Program} {w : World} {K : PySem.W.Frag} {mg : Str → Option Value} {base : Heap} {A : Ad}
abbrev s_are_letters : Stmt := topS 22
abbrev N_are_letters : List Str := ["text"]
theorem sc_are_letters : FnScope N_are_letters ["text"] (defScope s_are_letters) := ⟨rfl, rfl, rfl, by decide +kernel, rfl, by decide +kernel, by decide +kernel⟩
set_option maxHeartbeats 4000000 in
theorem ok_are_letters (T : Tx K mg A) (h_check_letters : Cal P w K mg base 1 A.check_letters "check_letters" ["letters"] (sp_check_letters K A)) {fd : FuncData} (F : Fun K "are_letters" "are_letters" s_are_letters A.are_letters fd) : FnOk P w K mg base (L2N.CX P w) 2 A.are_letters fd ["text"] (sp_are_letters K) := by
  refine okN F sc_are_letters (fun us H Q E ⟨text, hpre, h⟩ => h.len) (fun cdv A_ outer s_ H us Q E hr ⟨text, hpre, h⟩ => ?_)
  refine ⟨_, (pss_cons (ps_tryO rfl rfl ⟨rfl, by decide, .inl T.k_BadLetters⟩ takes0N (fun W pn xe tk po => (pss_one (ps_expr (pe_cal (W := W) h_check_letters (hr.mono (by decide)) tk (pa_cons (pv 0) pa_nil))))) (fun a oe cls d pn hz hf => (pss_one (ps_ret pe_bl)))) (pss_one (ps_ret pe_bl))), ?_⟩
  refine Call.body (sl := [va text]) h rfl fun G0_ H0_ => ?_
  have hpre_ := hpre; unfold pre_are_letters at hpre_
  show Do _ _ ⟨[va text], []⟩ _
  refine do_seq (do_tryO (c := .ref A.BadLetters) (fun x_ e_ => ((x_ = xdP A.BadLetters ∧ ¬ goodL text)) ∧ e_ = ⟨[va text], []⟩) (fun W => ?_) ?_)
  ·
    show Do _ _ ⟨[va text], []⟩ _
    refine do_drop (ev_callP (W := W) (P' := (fun (z_ : Unit) => post_check_letters text z_)) (fun x_ => xp_check_letters A text x_) (ea_consD (ev_var (i := 0) rfl) ea_nil) (fun ss_ hs_ us_ H_ Q_ E_ h_ => by obtain rfl := hs_; exact ⟨text, (by walk_at "fsc"), Call.imp h_ (fun r_ c_ hq_ => hq_) (fun x_ c_ hq_ => hq_)⟩) (fun x_ hx_ => ⟨rfl, ⟨by walk_at "fxp", rfl⟩⟩)) fun r_ h_call => ?_
    show Do _ _ ⟨[va text], []⟩ _
    refine do_ret ev_bl fun z h_ret => ?_
    refine ⟨_, .slnil, rfl, ?_⟩
    · -- vc 0
      rw [h_ret]; exact (decide_eq_true (show goodL text from h_call)).symm
  ·
    rintro x_ e_ ⟨hx_, rfl⟩
    ·
      obtain ⟨rfl, hxp_⟩ := hx_
      refine ⟨true, T.ex_BadLetters__BadLetters, fun _ a_ d_ => ?_, fun z => nomatch z⟩
      show Do _ _ ⟨[va text], []⟩ _
      refine do_ret ev_bl fun z h_ret => ?_
      refine ⟨_, .slnil, rfl, ?_⟩
      · -- vc 1
        rw [h_ret]; exact (decide_eq_false hxp_).symm

end
end LL

namespace LL
open PySem L2 Fw Lm
local macro_rules | `(tactic| walk_at "fsc") => `(tactic| first | omega | assumption | exact True.intro | exact sgn_split (by assumption) | exact sgn_split2 (by assumption) | (intros; omega) | (with_reducible exact emod_both (by omega)) | (simp only [Bool.not_eq_true', Bool.not_eq_false', decide_eq_true_eq, decide_eq_false_iff_not, Bool.or_eq_false_iff, Bool.and_eq_true, List.length_cons, List.length_nil, List.length_append, List.length_cons, List.length_nil, List.length_map, signs_len, rngI_len, enumI_len, keysD_len, pre_check_letters, post_check_letters, pre_check_word, post_check_word, pre_order_key, post_order_key, pre_in_order, post_in_order, pre_check_words, post_check_words, pre_Sample___init, post_Sample___init, pre_written, post_written, pre_word_of, post_word_of, pre_are_letters, post_are_letters, pre_sample_text, post_sample_text, pre_read_sample, post_read_sample, pre_law_start, pre_law_next, post_law_next, pre_law_integer, post_law_integer, pre_law_alphabet, post_law_alphabet, pre_law_word, post_law_word, pre_law_ordered, post_law_ordered, pre_law_text, post_law_text, pre_law_good_letters, post_law_good_letters, pre_law_read, post_law_read, pre_law_words_are, post_law_words_are, pre_law_reads, post_law_reads, pre_law_word_at, post_law_word_at, pre_law_climbing, post_law_climbing, pre_law_spoilt, post_law_spoilt, pre_law_large, post_law_large, pre_law, post_law] at *; first | omega | assumption | (refine ⟨?_, ?_⟩ <;> first | omega | assumption) | (refine ⟨?_, ?_, ?_⟩ <;> first | omega | assumption)) | (have hl_ := congrArg List.length hs_; simp only [List.length_append, List.length_cons, List.length_nil, List.length_map, signs_len, rngI_len, enumI_len, keysD_len] at hl_; omega) | (have hr_ := rng_split hs_; omega) | exact (by decide : 1 ≤ (" " : Str).length) | exact (by decide : 1 ≤ ("\n" : Str).length) | exact rfl)
local macro_rules | `(tactic| walk_at "fvc") => `(tactic| first | rfl | exact True.intro | assumption | omega)
local macro_rules | `(tactic| walk_at "fxp") => `(tactic| first | exact hx_ | assumption)
local macro_rules | `(tactic| walk_at "frs") => `(tactic| first | assumption)

section
variable {P : Program} {w : World} {K : PySem.W.Frag} {mg : Str → Option Value} {base : Heap} {A : Ad}
abbrev s_check_letters : Stmt := topS 10
abbrev N_check_letters : List Str := ["letters", "before", "letter"]
theorem sc_check_letters : FnScope N_check_letters ["letters"] (defScope s_check_letters) := ⟨rfl, rfl, rfl, by decide +kernel, rfl, by decide +kernel, by decide +kernel⟩
set_option maxHeartbeats 4000000 in
theorem ok_check_letters (T : Tx K mg A)  {fd : FuncData} (F : Fun K "check_letters" "check_letters" s_check_letters A.check_letters fd) : FnOk P w K mg base (L2N.CX P w) 1 A.check_letters fd ["letters"] (sp_check_letters K A) := by
  obtain ⟨tc_MOST_KINDS_OF_LETTERS, hc_MOST_KINDS_OF_LETTERS⟩ := T.c_MOST_KINDS_OF_LETTERS
  obtain ⟨tc_SMALL, hc_SMALL⟩ := T.c_SMALL
  refine okN F sc_check_letters (fun us H Q E ⟨letters, hpre, h⟩ => h.len) (fun cdv A_ outer s_ H us Q E hr ⟨letters, hpre, h⟩ => ?_)
  refine ⟨_, (pss_cons (ps_if (PW.pt (pw_or (pt_cmpR op_lt (pe_callB cr_lenT (by rfl) T.m_len bb_len (pa_cons (pv 0) pa_nil)) pe_int (nomark _)) (pw_or1 (pt_cmpR op_gt (pe_callB cr_lenT (by rfl) T.m_len bb_len (pa_cons (pv 0) pa_nil)) (pe_glob (v := .int 4) rfl hc_MOST_KINDS_OF_LETTERS ⟨_, rfl⟩) (nomark _))))) (pss_one (ps_raiseO T.x_BadLetters (L2N.takes_of rfl rfl rfl rfl))) pss_nil) (pss_cons (ps_set (i := 1) sc_check_letters.nd rfl (by first | exact Or.inl rfl | exact Or.inr rfl) pe_str) (pss_one (ps_for (passes_of rfl) rfl (pi_str (pv 0)) (pg_name (i := 2) sc_check_letters.nd rfl (by first | exact Or.inl rfl | exact Or.inr rfl)) (pss_cons (ps_if (PW.pt (pw_or (pt_cmpR op_niG (pv 2) (pe_glob (v := .str con_SMALL) rfl hc_SMALL ⟨_, rfl⟩) rfl) (pw_or1 (pt_cmpR op_leS (pv 2) (pv 1) (nomark _))))) (pss_one (ps_raiseO T.x_BadLetters (L2N.takes_of rfl rfl rfl rfl))) pss_nil) (pss_one (ps_set (i := 1) sc_check_letters.nd rfl (by first | exact Or.inl rfl | exact Or.inr rfl) (pv 2)))))))), ?_⟩
  refine Call.body (sl := [va letters, none, none]) h rfl fun G0_ H0_ => ?_
  have hpre_ := hpre; unfold pre_check_letters at hpre_
  show Do _ _ ⟨[va letters, none, none], []⟩ _
  refine do_seq (do_ifD (et_orD (et_test (ev_opD (ev_cbD (ea_consD (ev_var (i := 0) rfl) ea_nil) (rc_lenT (by walk_at "fsc"))) ev_int r2_lt)) (fun hb => (et_test (ev_opD (ev_cbD (ea_consD (ev_var (i := 0) rfl) ea_nil) (rc_lenT (by walk_at "fsc"))) ev_int r2_gt)))) (fun h_if => ?_) (fun h_if => ?_))
  ·
    refine do_raiseO (by refine ⟨_, .slnil, rfl, ?_⟩; exact ⟨rfl, fun g => by have h1 := g.1; have h2 := g.2.1; simp at h_if; omega⟩)
  ·
    refine do_next ?_
    show Do _ _ ⟨[va letters, none, none], []⟩ _
    refine do_seq (do_asg (i := 1) ev_str fun (before : Str) h_before => ?_)
    show Do _ _ ⟨[va letters, va before, none], []⟩ _
    refine do_forW (ei_str (ev_var (i := 0) rfl)) eg_name (fun (pre : List Str) e_ => ∃ (b : Str), (LetI pre b) ∧ e_ = ⟨[va letters, va b, none], []⟩) ?_ ?_ ?_
    ·
      refine ⟨⟨[va letters, va _, none], []⟩, ⟨⟨Or.inr rfl, ⟨Or.inr rfl, ⟨Or.inl rfl, trivial⟩⟩⟩, .slnil⟩, _, ?_, rfl⟩
      · -- vc 0
        exact letI_nil h_before
    ·
      rintro pre x post e_ hsplit ⟨b, hI, rfl⟩
      have hlen_hsplit := congrArg List.length hsplit; simp only [List.length_append, List.length_cons, List.length_nil, List.length_map, signs_len, rngI_len, enumI_len, keysD_len] at hlen_hsplit
      show Do _ _ ⟨[va letters, va b, va x], []⟩ _
      refine do_seq (do_ifD (et_orD (et_test (ev_opD (ev_var (i := 2) rfl) ev_str (r2_niG (by walk_at "fsc")))) (fun hb2 => (et_test (ev_opD (ev_var (i := 2) rfl) (ev_var (i := 1) rfl) r2_leS)))) (fun h_if1 => ?_) (fun h_if1 => ?_))
      ·
        refine do_raiseO (by refine ⟨_, .slnil, rfl, ?_⟩; exact ⟨rfl, letI_bad hsplit hI h_if1⟩)
      ·
        refine do_next ?_
        show Do _ _ ⟨[va letters, va b, va x], []⟩ _
        refine do_asg (i := 1) (ev_var (i := 2) rfl) fun (before1 : Str) h_before1 => ?_
        refine ⟨⟨[va letters, va _, none], []⟩, ⟨⟨Or.inr rfl, ⟨Or.inr rfl, ⟨Or.inl rfl, trivial⟩⟩⟩, .slnil⟩, _, ?_, rfl⟩
        · -- vc 1
          rw [h_before1]; exact letI_step (sgn_split hsplit) hI h_if1
    ·
      rintro e_ ⟨b, hI, rfl⟩
      refine ⟨(), fun _ _ => rfl, ?_⟩
      refine ⟨_, .slnil, rfl, ?_⟩
      · -- vc 2
        exact letI_end h_if hI

end
end LL

namespace LL
open PySem L2 Fw Lm
local macro_rules | `(tactic| walk_at "fsc") => `(tactic| first | omega | assumption | exact True.intro | exact sgn_split (by assumption) | exact sgn_split2 (by assumption) | (intros; omega) | (with_reducible exact emod_both (by omega)) | (simp only [Bool.not_eq_true', Bool.not_eq_false', decide_eq_true_eq, decide_eq_false_iff_not, Bool.or_eq_false_iff, Bool.and_eq_true, List.length_cons, List.length_nil, List.length_append, List.length_cons, List.length_nil, List.length_map, signs_len, rngI_len, enumI_len, keysD_len, pre_check_letters, post_check_letters, pre_check_word, post_check_word, pre_order_key, post_order_key, pre_in_order, post_in_order, pre_check_words, post_check_words, pre_Sample___init, post_Sample___init, pre_written, post_written, pre_word_of, post_word_of, pre_are_letters, post_are_letters, pre_sample_text, post_sample_text, pre_read_sample, post_read_sample, pre_law_start, pre_law_next, post_law_next, pre_law_integer, post_law_integer, pre_law_alphabet, post_law_alphabet, pre_law_word, post_law_word, pre_law_ordered, post_law_ordered, pre_law_text, post_law_text, pre_law_good_letters, post_law_good_letters, pre_law_read, post_law_read, pre_law_words_are, post_law_words_are, pre_law_reads, post_law_reads, pre_law_word_at, post_law_word_at, pre_law_climbing, post_law_climbing, pre_law_spoilt, post_law_spoilt, pre_law_large, post_law_large, pre_law, post_law] at *; first | omega | assumption | (refine ⟨?_, ?_⟩ <;> first | omega | assumption) | (refine ⟨?_, ?_, ?_⟩ <;> first | omega | assumption)) | (have hl_ := congrArg List.length hs_; simp only [List.length_append, List.length_cons, List.length_nil, List.length_map, signs_len, rngI_len, enumI_len, keysD_len] at hl_; omega) | (have hr_ := rng_split hs_; omega) | exact (by decide : 1 ≤ (" " : Str).length) | exact (by decide : 1 ≤ ("\n" : Str).length) | exact rfl)
local macro_rules | `(tactic| walk_at "fvc") => `(tactic| first | rfl | exact True.intro | assumption | omega)
local macro_rules | `(tactic| walk_at "fxp") => `(tactic| first | exact hx_ | assumption)
local macro_rules | `(tactic| walk_at "frs") => `(tactic| first | assumption)

section
variable {P : Program} {w : World} {K : PySem.W.Frag} {mg : Str → Option Value} {base : Heap} {A : Ad}
abbrev s_check_word : Stmt := topS 11
abbrev N_check_word : List Str := ["letters", "word", "place", "letter"]
theorem sc_check_word : FnScope N_check_word ["letters", "word"] (defScope s_check_word) := ⟨rfl, rfl, rfl, by decide +kernel, rfl, by decide +kernel, by decide +kernel⟩
set_option maxHeartbeats 4000000 in
theorem ok_check_word (T : Tx K mg A) (x_BadWord : CalX P w K mg base 1 A.BadWord "BadWord" ["word", "place"]) {fd : FuncData} (F : Fun K "check_word" "check_word" s_check_word A.check_word fd) : FnOk P w K mg base (L2N.CX P w) 3 A.check_word fd ["letters", "word"] (sp_check_word K A) := by
  refine okN F sc_check_word (fun us H Q E ⟨letters, word, hpre, h⟩ => h.len) (fun cdv A_ outer s_ H us Q E hr ⟨letters, word, hpre, h⟩ => ?_)
  refine ⟨_, (pss_one (ps_for (passes_of rfl) rfl (pi_enumS (by rfl) T.m_enumerate (pa_cons (pv 1) pa_nil)) (pg_tup rfl (pgs_cons (pg_name (i := 2) sc_check_word.nd rfl (by first | exact Or.inl rfl | exact Or.inr rfl)) (pgs_cons (pg_name (i := 3) sc_check_word.nd rfl (by first | exact Or.inl rfl | exact Or.inr rfl)) pgs_nil))) (pss_one (ps_if (pt_cmpR op_niG (pv 3) (pv 0) rfl) (pss_one (ps_raiseF x_BadWord (hr.mono (by decide)) (L2N.takes_of rfl rfl rfl rfl) (pa_cons (pv 1) (pa_cons (pv 2) pa_nil)))) pss_nil)))), ?_⟩
  refine Call.body (sl := [va letters, va word, none, none]) h rfl fun G0_ H0_ => ?_
  have hpre_ := hpre; unfold pre_check_word at hpre_
  show Do _ _ ⟨[va letters, va word, none, none], []⟩ _
  refine do_forW (ei_enumS (ea_consD (ev_var (i := 1) rfl) ea_nil)) eg_pair (fun (pre : List (Int × Str)) e_ => (∀ z ∈ pre, sgn z.2 ∈ tl letters) ∧ e_ = ⟨[va letters, va word, none, none], []⟩) ?_ ?_ ?_
  ·
    refine ⟨⟨[va letters, va word, none, none], []⟩, ⟨⟨Or.inr rfl, ⟨Or.inr rfl, ⟨Or.inl rfl, ⟨Or.inl rfl, trivial⟩⟩⟩⟩, .slnil⟩, ?_, rfl⟩
    · -- vc 0
      simp
  ·
    rintro pre it post e_ hsplit ⟨hI, rfl⟩
    have hlen_hsplit := congrArg List.length hsplit; simp only [List.length_append, List.length_cons, List.length_nil, List.length_map, signs_len, rngI_len, enumI_len, keysD_len] at hlen_hsplit
    show Do _ _ ⟨[va letters, va word, va it.1, va it.2], []⟩ _
    refine do_ifD (et_test (ev_opD (ev_var (i := 3) rfl) (ev_var (i := 0) rfl) (r2_niG (by walk_at "fsc")))) (fun h_if => ?_) (fun h_if => ?_)
    ·
      refine do_raiseF (e := ⟨[va letters, va word, va it.1, va it.2], []⟩) (ea_consD (ev_var (i := 1) rfl) (ea_consD (ev_var (i := 2) rfl) ea_nil)) rfl (by decide +kernel) (by decide) (by refine ⟨_, .slnil, rfl, ?_⟩; exact ⟨pre.length, bad_of hsplit hI h_if, by rw [← (enum_split hsplit).1]; rfl⟩)
    ·
      refine do_next ?_
      refine ⟨⟨[va letters, va word, none, none], []⟩, ⟨⟨Or.inr rfl, ⟨Or.inr rfl, ⟨Or.inl rfl, ⟨Or.inl rfl, trivial⟩⟩⟩⟩, .slnil⟩, ?_, rfl⟩
      · -- vc 1
        intro z hz
        rcases List.mem_append.mp hz with hz | hz
        · exact hI z hz
        · simp at hz
          subst hz
          simpa using h_if
  ·
    rintro e_ ⟨hI, rfl⟩
    refine ⟨(), fun _ _ => rfl, ?_⟩
    refine ⟨_, .slnil, rfl, ?_⟩
    · -- vc 2
      exact fun c hc => by obtain ⟨z, h1, h2⟩ := enum_mem hc; exact h2 ▸ hI z h1

end
end LL

namespace LL
open PySem L2 Fw Lm
local macro_rules | `(tactic| walk_at "fsc") => `(tactic| first | omega | assumption | exact True.intro | exact sgn_split (by assumption) | exact sgn_split2 (by assumption) | (intros; omega) | (with_reducible exact emod_both (by omega)) | (simp only [Bool.not_eq_true', Bool.not_eq_false', decide_eq_true_eq, decide_eq_false_iff_not, Bool.or_eq_false_iff, Bool.and_eq_true, List.length_cons, List.length_nil, List.length_append, List.length_cons, List.length_nil, List.length_map, signs_len, rngI_len, enumI_len, keysD_len, pre_check_letters, post_check_letters, pre_check_word, post_check_word, pre_order_key, post_order_key, pre_in_order, post_in_order, pre_check_words, post_check_words, pre_Sample___init, post_Sample___init, pre_written, post_written, pre_word_of, post_word_of, pre_are_letters, post_are_letters, pre_sample_text, post_sample_text, pre_read_sample, post_read_sample, pre_law_start, pre_law_next, post_law_next, pre_law_integer, post_law_integer, pre_law_alphabet, post_law_alphabet, pre_law_word, post_law_word, pre_law_ordered, post_law_ordered, pre_law_text, post_law_text, pre_law_good_letters, post_law_good_letters, pre_law_read, post_law_read, pre_law_words_are, post_law_words_are, pre_law_reads, post_law_reads, pre_law_word_at, post_law_word_at, pre_law_climbing, post_law_climbing, pre_law_spoilt, post_law_spoilt, pre_law_large, post_law_large, pre_law, post_law] at *; first | omega | assumption | (refine ⟨?_, ?_⟩ <;> first | omega | assumption) | (refine ⟨?_, ?_, ?_⟩ <;> first | omega | assumption)) | (have hl_ := congrArg List.length hs_; simp only [List.length_append, List.length_cons, List.length_nil, List.length_map, signs_len, rngI_len, enumI_len, keysD_len] at hl_; omega) | (have hr_ := rng_split hs_; omega) | exact (by decide : 1 ≤ (" " : Str).length) | exact (by decide : 1 ≤ ("\n" : Str).length) | exact rfl)
local macro_rules | `(tactic| walk_at "fvc") => `(tactic| first | rfl | exact True.intro | assumption | omega)
local macro_rules | `(tactic| walk_at "fxp") => `(tactic| first | exact hx_ | assumption)
local macro_rules | `(tactic| walk_at "frs") => `(tactic| first | assumption)

section
variable {P : Program} {w : World} {K : PySem.W.Frag} {mg : Str → Option Value} {base : Heap} {A : Ad}
abbrev s_check_words : Stmt := topS 17
abbrev N_check_words : List Str := ["letters", "words", "word"]
theorem sc_check_words : FnScope N_check_words ["letters", "words"] (defScope s_check_words) := ⟨rfl, rfl, rfl, by decide +kernel, rfl, by decide +kernel, by decide +kernel⟩
set_option maxHeartbeats 4000000 in
theorem ok_check_words (T : Tx K mg A) (x_TooMany : CalX P w K mg base 1 A.TooMany "TooMany" ["limit"]) (h_check_word : Cal P w K mg base 3 A.check_word "check_word" ["letters", "word"] (sp_check_word K A)) {fd : FuncData} (F : Fun K "check_words" "check_words" s_check_words A.check_words fd) : FnOk P w K mg base (L2N.CX P w) 4 A.check_words fd ["letters", "words"] (sp_check_words K A) := by
  obtain ⟨tc_MOST_LETTERS, hc_MOST_LETTERS⟩ := T.c_MOST_LETTERS
  obtain ⟨tc_MOST_WORDS, hc_MOST_WORDS⟩ := T.c_MOST_WORDS
  refine okN F sc_check_words (fun us H Q E ⟨letters, words, hpre, h⟩ => h.len) (fun cdv A_ outer s_ H us Q E hr ⟨letters, words, hpre, h⟩ => ?_)
  refine ⟨_, (pss_cons (ps_if (pt_cmpR op_gt (pe_callB cr_lenQ (by rfl) T.m_len bb_len (pa_cons (pv 1) pa_nil)) (pe_glob (v := .int 64) rfl hc_MOST_WORDS ⟨_, rfl⟩) (nomark _)) (pss_one (ps_raiseF x_TooMany (hr.mono (by decide)) (L2N.takes_of rfl rfl rfl rfl) (pa_cons (pe_glob (v := .int 64) rfl hc_MOST_WORDS ⟨_, rfl⟩) pa_nil))) pss_nil) (pss_one (ps_for (passes_of rfl) rfl (pi_list (pv 1)) (pg_name (i := 2) sc_check_words.nd rfl (by first | exact Or.inl rfl | exact Or.inr rfl)) (pss_cons (ps_if (pt_cmpR op_gt (pe_callB cr_lenT (by rfl) T.m_len bb_len (pa_cons (pv 2) pa_nil)) (pe_glob (v := .int 24) rfl hc_MOST_LETTERS ⟨_, rfl⟩) (nomark _)) (pss_one (ps_raiseF x_TooMany (hr.mono (by decide)) (L2N.takes_of rfl rfl rfl rfl) (pa_cons (pe_glob (v := .int 24) rfl hc_MOST_LETTERS ⟨_, rfl⟩) pa_nil))) pss_nil) (pss_one (ps_expr (pe_cal (W := (fun cls d _ H => E cls d H)) h_check_word (hr.mono (by decide)) (L2N.takes_of rfl rfl rfl rfl) (pa_cons (pv 0) (pa_cons (pv 2) pa_nil))))))))), ?_⟩
  refine Call.body (sl := [va letters, va words, none]) h rfl fun G0_ H0_ => ?_
  have hpre_ := hpre; unfold pre_check_words at hpre_
  show Do _ _ ⟨[va letters, va words, none], []⟩ _
  refine do_seq (do_ifD (et_test (ev_opD (ev_cbD (ea_consD (ev_var (i := 1) rfl) ea_nil) rc_lenL) ev_int r2_gt)) (fun h_if => ?_) (fun h_if => ?_))
  ·
    refine do_raiseF (e := ⟨[va letters, va words, none], []⟩) (ea_consD ev_int ea_nil) rfl (by decide +kernel) (by decide) (by refine ⟨_, .slnil, rfl, ?_⟩; exact .inl ⟨by simp at h_if; omega, rfl⟩)
  ·
    refine do_next ?_
    show Do _ _ ⟨[va letters, va words, none], []⟩ _
    refine do_forW (ei_list (ev_var (i := 1) rfl)) eg_name (fun (pre : List Str) e_ => (∀ v ∈ pre, v.length ≤ 24 ∧ inL letters v) ∧ e_ = ⟨[va letters, va words, none], []⟩) ?_ ?_ ?_
    ·
      refine ⟨⟨[va letters, va words, none], []⟩, ⟨⟨Or.inr rfl, ⟨Or.inr rfl, ⟨Or.inl rfl, trivial⟩⟩⟩, .slnil⟩, ?_, rfl⟩
      · -- vc 0
        simp
    ·
      rintro pre w post e_ hsplit ⟨hI, rfl⟩
      have hlen_hsplit := congrArg List.length hsplit; simp only [List.length_append, List.length_cons, List.length_nil, List.length_map, signs_len, rngI_len, enumI_len, keysD_len] at hlen_hsplit
      show Do _ _ ⟨[va letters, va words, va w], []⟩ _
      refine do_seq (do_ifD (et_test (ev_opD (ev_cbD (ea_consD (ev_var (i := 2) rfl) ea_nil) (rc_lenT (by have h1 := hpre_.2 w (mem_mid hsplit); omega))) ev_int r2_gt)) (fun h_if1 => ?_) (fun h_if1 => ?_))
      ·
        refine do_raiseF (e := ⟨[va letters, va words, va w], []⟩) (ea_consD ev_int ea_nil) rfl (by decide +kernel) (by decide) (by refine ⟨_, .slnil, rfl, ?_⟩; exact .inr ⟨by simp at h_if; omega, pre, w, post, hsplit, hI, .inl ⟨by simp at h_if1; omega, rfl⟩⟩)
      ·
        refine do_next ?_
        show Do _ _ ⟨[va letters, va words, va w], []⟩ _
        refine do_drop (ev_callP (W := (fun cls d _ H => E cls d H)) (P' := (fun (z_ : Unit) => post_check_word letters w z_)) (fun x_ => xp_check_word A letters w x_) (ea_consD (ev_var (i := 0) rfl) (ea_consD (ev_var (i := 2) rfl) ea_nil)) (fun ss_ hs_ us_ H_ Q_ E_ h_ => by obtain rfl := hs_; exact ⟨letters, w, (by walk_at "fsc"), Call.imp h_ (fun r_ c_ hq_ => hq_) (fun x_ c_ hq_ => hq_)⟩) (fun x_ hx_ => ⟨rfl, by refine ⟨_, .slnil, rfl, ?_⟩; obtain ⟨k, hk, rfl⟩ := hx_; exact .inr ⟨(by simp at h_if; omega), pre, w, post, hsplit, hI, .inr ⟨(by simp at h_if1; omega), k, hk, rfl⟩⟩⟩)) fun r_ h_call => ?_
        refine ⟨⟨[va letters, va words, none], []⟩, ⟨⟨Or.inr rfl, ⟨Or.inr rfl, ⟨Or.inl rfl, trivial⟩⟩⟩, .slnil⟩, ?_, rfl⟩
        · -- vc 1
          intro v hv
          rcases List.mem_append.mp hv with hv | hv
          · exact hI v hv
          · rw [List.mem_singleton.mp hv]; exact ⟨by simp at h_if1; omega, h_call⟩
    ·
      rintro e_ ⟨hI, rfl⟩
      refine ⟨(), fun _ _ => rfl, ?_⟩
      refine ⟨_, .slnil, rfl, ?_⟩
      · -- vc 2
        exact ⟨by simp at h_if; omega, hI⟩

end
end LL

namespace LL
open PySem L2 Fw Lm
local macro_rules | `(tactic| walk_at "fsc") => `(tactic| first | omega | assumption | exact True.intro | exact sgn_split (by assumption) | exact sgn_split2 (by assumption) | (intros; omega) | (with_reducible exact emod_both (by omega)) | (simp only [Bool.not_eq_true', Bool.not_eq_false', decide_eq_true_eq, decide_eq_false_iff_not, Bool.or_eq_false_iff, Bool.and_eq_true, List.length_cons, List.length_nil, List.length_append, List.length_cons, List.length_nil, List.length_map, signs_len, rngI_len, enumI_len, keysD_len, pre_check_letters, post_check_letters, pre_check_word, post_check_word, pre_order_key, post_order_key, pre_in_order, post_in_order, pre_check_words, post_check_words, pre_Sample___init, post_Sample___init, pre_written, post_written, pre_word_of, post_word_of, pre_are_letters, post_are_letters, pre_sample_text, post_sample_text, pre_read_sample, post_read_sample, pre_law_start, pre_law_next, post_law_next, pre_law_integer, post_law_integer, pre_law_alphabet, post_law_alphabet, pre_law_word, post_law_word, pre_law_ordered, post_law_ordered, pre_law_text, post_law_text, pre_law_good_letters, post_law_good_letters, pre_law_read, post_law_read, pre_law_words_are, post_law_words_are, pre_law_reads, post_law_reads, pre_law_word_at, post_law_word_at, pre_law_climbing, post_law_climbing, pre_law_spoilt, post_law_spoilt, pre_law_large, post_law_large, pre_law, post_law] at *; first | omega | assumption | (refine ⟨?_, ?_⟩ <;> first | omega | assumption) | (refine ⟨?_, ?_, ?_⟩ <;> first | omega | assumption)) | (have hl_ := congrArg List.length hs_; simp only [List.length_append, List.length_cons, List.length_nil, List.length_map, signs_len, rngI_len, enumI_len, keysD_len] at hl_; omega) | (have hr_ := rng_split hs_; omega) | exact (by decide : 1 ≤ (" " : Str).length) | exact (by decide : 1 ≤ ("\n" : Str).length) | exact rfl)
local macro_rules | `(tactic| walk_at "fvc") => `(tactic| first | rfl | exact True.intro | assumption | omega)
local macro_rules | `(tactic| walk_at "fxp") => `(tactic| first | exact hx_ | assumption)
local macro_rules | `(tactic| walk_at "frs") => `(tactic| first | assumption)

section
variable {P : Program} {w : World} {K : PySem.W.Frag} {mg : Str → Option Value} {base : Heap} {A : Ad}
abbrev s_in_order : Stmt := topS 13
abbrev N_in_order : List Str := ["words", "found", "word"]
theorem sc_in_order : FnScope N_in_order ["words"] (defScope s_in_order) := ⟨rfl, rfl, rfl, by decide +kernel, rfl, by decide +kernel, by decide +kernel⟩
set_option maxHeartbeats 4000000 in
theorem ok_in_order (T : Tx K mg A) (k_order_key : KeyF P w K mg base A.order_key) (g_order_key : mg "order_key" = some (.ref A.order_key)) {fd : FuncData} (F : Fun K "in_order" "in_order" s_in_order A.in_order fd) : FnOk P w K mg base (L2N.CX P w) 5 A.in_order fd ["words"] (sp_in_order K) := by
  refine okN F sc_in_order (fun us H Q E ⟨words, hpre, h⟩ => h.len) (fun cdv A_ outer s_ H us Q E hr ⟨words, hpre, h⟩ => ?_)
  refine ⟨_, (pss_cons (ps_set (i := 1) sc_in_order.nd rfl (by first | exact Or.inl rfl | exact Or.inr rfl) pe_dnewK) (pss_cons (ps_for (passes_of rfl) rfl (pi_list (pv 0)) (pg_name (i := 2) sc_in_order.nd rfl (by first | exact Or.inl rfl | exact Or.inr rfl)) (pss_one (ps_dput (hu_of hr) (pv 1) (pv 2) pe_bl rfl))) (pss_one (ps_ret (pe_sortedK (hr.mono (by decide)) k_order_key g_order_key T.m_sorted (pe_callTy (call_list_dK rfl) (by rfl) T.m_list bb_list (pa_cons (pv 1) pa_nil))))))), ?_⟩
  refine Call.body (sl := [va words, none, none]) h rfl fun G0_ H0_ => ?_
  have hpre_ := hpre; unfold pre_in_order at hpre_
  show Do _ _ ⟨[va words, none, none], []⟩ _
  refine do_seq (do_dnew (κ := Str) (i := 1) Bool fun a_found => ?_)
  show Do _ _ ⟨[va words, va (Adr.mk a_found), none], [(a_found, ownD ([] : List (Str × Bool)))]⟩ _
  refine do_seq (do_forW (ei_list (ev_var (i := 0) rfl)) eg_name (fun (pre : List Str) e_ => ∃ (d : List (Str × Bool)), (DicI pre d) ∧ e_ = ⟨[va words, va (Adr.mk a_found), none], [(a_found, ownD d)]⟩) ?_ ?_ ?_)
  ·
    refine ⟨⟨[va words, va (Adr.mk a_found), none], [(a_found, ownD _)]⟩, ⟨⟨Or.inr rfl, ⟨Or.inr rfl, ⟨Or.inl rfl, trivial⟩⟩⟩, (.cons₂ _ .slnil)⟩, _, ?_, rfl⟩
    · -- vc 0
      exact ⟨by simp [keysD], by simp [keysD], by simp⟩
  ·
    rintro pre x post e_ hsplit ⟨d, hI, rfl⟩
    have hlen_hsplit := congrArg List.length hsplit; simp only [List.length_append, List.length_cons, List.length_nil, List.length_map, signs_len, rngI_len, enumI_len, keysD_len] at hlen_hsplit
    show Do _ _ ⟨[va words, va (Adr.mk a_found), va x], [(a_found, ownD d)]⟩ _
    refine do_dput (κ := Str) (k := 0) rfl ev_bl (ev_var (i := 1) rfl) (ev_var (i := 2) rfl) (by have h1 := hI.2.2; omega) fun (y : Bool) h_y => ?_
    refine ⟨⟨[va words, va (Adr.mk a_found), none], [(a_found, ownD _)]⟩, ⟨⟨Or.inr rfl, ⟨Or.inr rfl, ⟨Or.inl rfl, trivial⟩⟩⟩, (.cons₂ _ .slnil)⟩, _, ?_, rfl⟩
    · -- vc 1
      exact dicI_step hI
  ·
    rintro e_ ⟨d, hI, rfl⟩
    show Do _ _ ⟨[va words, va (Adr.mk a_found), none], [(a_found, ownD d)]⟩ _
    refine do_ret (evl_val (evl_sortedK (evl_val (evl_listD (k := 0) rfl (ea_consD (ev_var (i := 1) rfl) ea_nil))) (by have h1 := hI.2.2; rw [keysD_len]; omega) (by exact fun x hx => by have h1 := hpre_.2 x ((hI.2.1 x).mp hx); omega))) fun z h_ret => ?_
    refine ⟨_, (.cons _ .slnil), rfl, ?_⟩
    · -- vc 2
      subst h_ret; exact (sortW_sup hI.1).congr hI.2.1

end
end LL

namespace LL
open PySem L2 Fw Lm
local macro_rules | `(tactic| walk_at "fsc") => `(tactic| first | omega | assumption | exact True.intro | exact sgn_split (by assumption) | exact sgn_split2 (by assumption) | (intros; omega) | (with_reducible exact emod_both (by omega)) | (simp only [Bool.not_eq_true', Bool.not_eq_false', decide_eq_true_eq, decide_eq_false_iff_not, Bool.or_eq_false_iff, Bool.and_eq_true, List.length_cons, List.length_nil, List.length_append, List.length_cons, List.length_nil, List.length_map, signs_len, rngI_len, enumI_len, keysD_len, pre_check_letters, post_check_letters, pre_check_word, post_check_word, pre_order_key, post_order_key, pre_in_order, post_in_order, pre_check_words, post_check_words, pre_Sample___init, post_Sample___init, pre_written, post_written, pre_word_of, post_word_of, pre_are_letters, post_are_letters, pre_sample_text, post_sample_text, pre_read_sample, post_read_sample, pre_law_start, pre_law_next, post_law_next, pre_law_integer, post_law_integer, pre_law_alphabet, post_law_alphabet, pre_law_word, post_law_word, pre_law_ordered, post_law_ordered, pre_law_text, post_law_text, pre_law_good_letters, post_law_good_letters, pre_law_read, post_law_read, pre_law_words_are, post_law_words_are, pre_law_reads, post_law_reads, pre_law_word_at, post_law_word_at, pre_law_climbing, post_law_climbing, pre_law_spoilt, post_law_spoilt, pre_law_large, post_law_large, pre_law, post_law] at *; first | omega | assumption | (refine ⟨?_, ?_⟩ <;> first | omega | assumption) | (refine ⟨?_, ?_, ?_⟩ <;> first | omega | assumption)) | (have hl_ := congrArg List.length hs_; simp only [List.length_append, List.length_cons, List.length_nil, List.length_map, signs_len, rngI_len, enumI_len, keysD_len] at hl_; omega) | (have hr_ := rng_split hs_; omega) | exact (by decide : 1 ≤ (" " : Str).length) | exact (by decide : 1 ≤ ("\n" : Str).length) | exact rfl)
local macro_rules | `(tactic| walk_at "fvc") => `(tactic| first | rfl | exact True.intro | assumption | omega)
local macro_rules | `(tactic| walk_at "fxp") => `(tactic| first | exact hx_ | assumption)
local macro_rules | `(tactic| walk_at "frs") => `(tactic| first | assumption)

section
variable {P : Program} {w : World} {K : PySem.W.Frag} {mg : Str → Option Value} {base : Heap} {A : Ad}
abbrev s_law : Stmt := topS 41
abbrev N_law : List Str := ["script", "state", "letters", "yes", "no", "text", "written_v", "turn", "large", "spoilt", "k"]
theorem sc_law : FnScope N_law ["script"] (defScope s_law) := ⟨rfl, rfl, rfl, by decide +kernel, rfl, by decide +kernel, by decide +kernel⟩
set_option maxHeartbeats 4000000 in
theorem ok_law (T : Tx K mg A) (n_Sample : Mkr P w K mg base 6 A.Sample "Sample" ["self", "letters", "yes", "no"] (sp_Sample___init K A)) (h_law_alphabet : Cal P w K mg base 2 A.law_alphabet "_law_alphabet" ["state", "many"] (sp_law_alphabet K)) (h_law_large : Cal P w K mg base 4 A.law_large "_law_large" ["state", "letters"] (sp_law_large K)) (h_law_next : Cal P w K mg base 1 A.law_next "_law_next" ["state", "many"] (sp_law_next K)) (h_law_ordered : Cal P w K mg base 1 A.law_ordered "_law_ordered" ["words"] (sp_law_ordered K)) (h_law_reads : Cal P w K mg base 9 A.law_reads "_law_reads" ["text"] (sp_law_reads K)) (h_law_spoilt : Cal P w K mg base 2 A.law_spoilt "_law_spoilt" ["state", "text"] (sp_law_spoilt K)) (h_law_start : Cal P w K mg base 1 A.law_start "_law_start" ["script"] (sp_law_start K)) (h_law_text : Cal P w K mg base 1 A.law_text "_law_text" ["letters", "yes", "no"] (sp_law_text K)) (h_law_word : Cal P w K mg base 2 A.law_word "_law_word" ["state", "letters", "size"] (sp_law_word K)) (h_sample_text : Cal P w K mg base 2 A.sample_text "sample_text" ["sample"] (sp_sample_text K A)) {fd : FuncData} (F : Fun K "law" "law" s_law A.law fd) : FnOk P w K mg base (L2N.CX P w) 10 A.law fd ["script"] (sp_law K) := by
  refine okN F sc_law (fun us H Q E ⟨script, hpre, h⟩ => h.len) (fun cdv A_ outer s_ H us Q E hr ⟨script, hpre, h⟩ => ?_)
  refine ⟨_, (pss_cons (ps_set (i := 1) sc_law.nd rfl (by first | exact Or.inl rfl | exact Or.inr rfl) (pe_cal (W := (fun _ _ _ _ => False)) h_law_start (hr.mono (by decide)) takes0N (pa_cons (pv 0) pa_nil))) (pss_cons (ps_set (i := 2) sc_law.nd rfl (by first | exact Or.inl rfl | exact Or.inr rfl) (pe_cal (W := (fun _ _ _ _ => False)) h_law_alphabet (hr.mono (by decide)) takes0N (pa_cons (pv 1) (pa_cons (pe_ix ix_list (pe_lst (pa_cons pe_int (pa_cons pe_int (pa_cons pe_int (pa_cons pe_int (pa_cons pe_int (pa_cons pe_int (pa_cons pe_int (pa_cons pe_int pa_nil))))))))) (pe_cal (W := (fun _ _ _ _ => False)) h_law_next (hr.mono (by decide)) takes0N (pa_cons (pv 1) (pa_cons pe_int pa_nil))) (fun _ _ => rfl)) pa_nil)))) (pss_cons (ps_setLc (i := 3) (own := [("k", 10)]) (g := gName 10) (tt := tYes) rfl sc_law.nd rfl rfl (sw_true rfl rfl rfl (by decide +kernel)) (pi_range1 (by rfl) T.m_range (pa_cons (pe_cal (W := (fun _ _ _ _ => False)) h_law_next (hr.mono (by decide)) takes0N (pa_cons (pv 1) (pa_cons pe_int pa_nil))) pa_nil)) (blkOk_by (N := N_law) (sc := defScope s_law) (by decide +kernel)) (fun _ _ _ _ _ => (pg_name (i := 10) sc_law.nd rfl (by first | exact Or.inl rfl | exact Or.inr rfl))) (fun _ _ _ _ _ => pts_nil) (fun _ _ _ _ _ => (pe_cal (W := (fun _ _ _ _ => False)) h_law_word (hr.mono (by decide)) takes0N (pa_cons (pv 1) (pa_cons (pv 2) (pa_cons (pe_cal (W := (fun _ _ _ _ => False)) h_law_next (hr.mono (by decide)) takes0N (pa_cons (pv 1) (pa_cons pe_int pa_nil))) pa_nil)))))) (pss_cons (ps_setLc (i := 4) (own := [("k", 10)]) (g := gName 10) (tt := tYes) rfl sc_law.nd rfl rfl (sw_true rfl rfl rfl (by decide +kernel)) (pi_range1 (by rfl) T.m_range (pa_cons (pe_cal (W := (fun _ _ _ _ => False)) h_law_next (hr.mono (by decide)) takes0N (pa_cons (pv 1) (pa_cons pe_int pa_nil))) pa_nil)) (blkOk_by (N := N_law) (sc := defScope s_law) (by decide +kernel)) (fun _ _ _ _ _ => (pg_name (i := 10) sc_law.nd rfl (by first | exact Or.inl rfl | exact Or.inr rfl))) (fun _ _ _ _ _ => pts_nil) (fun _ _ _ _ _ => (pe_cal (W := (fun _ _ _ _ => False)) h_law_word (hr.mono (by decide)) takes0N (pa_cons (pv 1) (pa_cons (pv 2) (pa_cons (pe_cal (W := (fun _ _ _ _ => False)) h_law_next (hr.mono (by decide)) takes0N (pa_cons (pv 1) (pa_cons pe_int pa_nil))) pa_nil)))))) (pss_cons (ps_if (pt_cmpR op_gt (pe_callB cr_lenQ (by rfl) T.m_len bb_len (pa_cons (pv 3) pa_nil)) pe_int (nomark _)) (pss_cons (ps_expr (pe_bm PySem.F.plainAttrs_list PySem.F.slot_list_append PySem.F.type_list_append mt_append (pv 4) (pa_cons (pe_ix ix_list (pv 3) pe_int (fun _ _ => rfl)) pa_nil))) (pss_one (ps_expr (pe_bm PySem.F.plainAttrs_list PySem.F.slot_list_append PySem.F.type_list_append mt_append (pv 3) (pa_cons (pe_ix ix_list (pv 3) pe_int (fun _ _ => rfl)) pa_nil))))) pss_nil) (pss_cons (ps_set (i := 5) sc_law.nd rfl (by first | exact Or.inl rfl | exact Or.inr rfl) (pe_cal (W := (fun _ _ _ _ => False)) h_law_text (hr.mono (by decide)) takes0N (pa_cons (pv 2) (pa_cons (pe_cal (W := (fun _ _ _ _ => False)) h_law_ordered (hr.mono (by decide)) takes0N (pa_cons (pv 3) pa_nil)) (pa_cons (pe_cal (W := (fun _ _ _ _ => False)) h_law_ordered (hr.mono (by decide)) takes0N (pa_cons (pv 4) pa_nil)) pa_nil))))) (pss_cons (ps_set (i := 6) sc_law.nd rfl (by first | exact Or.inl rfl | exact Or.inr rfl) (pe_cal (W := (fun _ _ _ _ => False)) h_sample_text (hr.mono (by decide)) takes0N (pa_cons (pe_mkr (W := (fun _ _ _ _ => False)) n_Sample (hr.mono (by decide)) takes0N (pa_cons (pv 2) (pa_cons (pe_callTy cr_listOf (by rfl) T.m_list bb_list (pa_cons (pv 3) pa_nil)) (pa_cons (pe_callTy cr_listOf (by rfl) T.m_list bb_list (pa_cons (pv 4) pa_nil)) pa_nil)))) pa_nil))) (pss_cons (ps_if (PW.pt (pw_or (pt_not (pt_val (pe_callB call_isi (by rfl) T.m_isinstance bb_isinstance (pa_cons (pv 6) (pa_cons (pe_bltn (v := .ty "str") (by rfl) T.m_str bb_str rfl) pa_nil))))) (pw_or (pt_cmpR op_ne (pv 6) (pv 5) (nomark _)) (pw_or1 (pt_not (pt_val (pe_cal (W := (fun _ _ _ _ => False)) h_law_reads (hr.mono (by decide)) takes0N (pa_cons (pv 5) pa_nil)))))))) (pss_one (ps_ret pe_bl)) pss_nil) (pss_cons (ps_for (passes_of rfl) rfl (pi_range1 (by rfl) T.m_range (pa_cons pe_int pa_nil)) (pg_name (i := 7) sc_law.nd rfl (by first | exact Or.inl rfl | exact Or.inr rfl)) (pss_cons (ps_set (i := 9) sc_law.nd rfl (by first | exact Or.inl rfl | exact Or.inr rfl) (pe_cal (W := (fun _ _ _ _ => False)) h_law_spoilt (hr.mono (by decide)) takes0N (pa_cons (pv 1) (pa_cons (pv 5) pa_nil)))) (pss_cons (ps_if (pt_cmpR op_gt (pv 7) pe_int (nomark _)) (pss_one (ps_set (i := 9) sc_law.nd rfl (by first | exact Or.inl rfl | exact Or.inr rfl) (pe_cal (W := (fun _ _ _ _ => False)) h_law_spoilt (hr.mono (by decide)) takes0N (pa_cons (pv 1) (pa_cons (pv 9) pa_nil))))) pss_nil) (pss_one (ps_if (pt_not (pt_val (pe_cal (W := (fun _ _ _ _ => False)) h_law_reads (hr.mono (by decide)) takes0N (pa_cons (pv 9) pa_nil)))) (pss_one (ps_ret pe_bl)) pss_nil))))) (pss_cons (ps_set (i := 8) sc_law.nd rfl (by first | exact Or.inl rfl | exact Or.inr rfl) (pe_cal (W := (fun _ _ _ _ => False)) h_law_large (hr.mono (by decide)) takes0N (pa_cons (pv 1) (pa_cons (pv 2) pa_nil)))) (pss_cons (ps_if (PW.pt (pw_or (pt_not (pt_val (pe_cal (W := (fun _ _ _ _ => False)) h_law_reads (hr.mono (by decide)) takes0N (pa_cons (pv 8) pa_nil)))) (pw_or1 (pt_not (pt_val (pe_cal (W := (fun _ _ _ _ => False)) h_law_reads (hr.mono (by decide)) takes0N (pa_cons (pe_cal (W := (fun _ _ _ _ => False)) h_law_spoilt (hr.mono (by decide)) takes0N (pa_cons (pv 1) (pa_cons (pv 8) pa_nil))) pa_nil))))))) (pss_one (ps_ret pe_bl)) pss_nil) (pss_one (ps_ret (pe_cal (W := (fun _ _ _ _ => False)) h_law_reads (hr.mono (by decide)) takes0N (pa_cons (pv 5) pa_nil))))))))))))))), ?_⟩
  refine Call.body (sl := [va script, none, none, none, none, none, none, none, none, none, none]) h rfl fun G0_ H0_ => ?_
  have hpre_ := hpre; unfold pre_law at hpre_
  show Do _ _ ⟨[va script, none, none, none, none, none, none, none, none, none, none], []⟩ _
  refine do_seq (do_callNew (i := 1) (c0 := stC true) (ea_consD (ev_var (i := 0) rfl) ea_nil) rfl (fun ss_ hs_ us_ H_ Q_ E_ h_ => by obtain rfl := hs_; exact ⟨script, (by walk_at "fsc"), h_⟩) fun a_state => ?_)
  show Do _ _ ⟨[va script, va (Adr.mk a_state), none, none, none, none, none, none, none, none, none], [(a_state, stC true)]⟩ _
  refine do_seq (do_asg (i := 2) (Ev.mono (P' := (fun (z_ : Str) => ∃ (r : Int) (r1 : Str), post_law_next a_state (8 : Int) r ∧ post_law_alphabet a_state (([(2 : Int), (2 : Int), (2 : Int), (2 : Int), (2 : Int), (1 : Int), (3 : Int), (4 : Int)] : List Int).getD (r).toNat (0 : Int)) r1 ∧ z_ = r1)) (ev_call1 (W := (fun _ _ _ _ => False)) (k := 0) (c := stC false) (P' := (fun (z_ : Str) => ∃ (r : Int), post_law_next a_state (8 : Int) r ∧ post_law_alphabet a_state (([(2 : Int), (2 : Int), (2 : Int), (2 : Int), (2 : Int), (1 : Int), (3 : Int), (4 : Int)] : List Int).getD (r).toNat (0 : Int)) z_)) rfl rfl rfl (fun _ => False) (EvA.mono (P' := (fun ss_ => ∃ (r : Int), post_law_next a_state (8 : Int) r ∧ ss_ = [vs (Adr.mk a_state), vs (([(2 : Int), (2 : Int), (2 : Int), (2 : Int), (2 : Int), (1 : Int), (3 : Int), (4 : Int)] : List Int).getD (r).toNat (0 : Int))])) (ea_cons (ev_var (i := 1) rfl) (fun x_ hx_ => (EvA.mono (P' := (fun ss_ => ∃ (r : Int), post_law_next a_state (8 : Int) r ∧ ss_ = [vs (([(2 : Int), (2 : Int), (2 : Int), (2 : Int), (2 : Int), (1 : Int), (3 : Int), (4 : Int)] : List Int).getD (r).toNat (0 : Int))])) (ea_cons (ev_op (P'' := (fun (z_ : Int) => ∃ (r : Int), post_law_next a_state (8 : Int) r ∧ z_ = (([(2 : Int), (2 : Int), (2 : Int), (2 : Int), (2 : Int), (1 : Int), (3 : Int), (4 : Int)] : List Int).getD (r).toNat (0 : Int)))) (evl_val (evl_lstD (xs := ([(2 : Int), (2 : Int), (2 : Int), (2 : Int), (2 : Int), (1 : Int), (3 : Int), (4 : Int)] : List Int)) (ea_consD ev_int (ea_consD ev_int (ea_consD ev_int (ea_consD ev_int (ea_consD ev_int (ea_consD ev_int (ea_consD ev_int (ea_consD ev_int ea_nil)))))))) (by simp))) (fun x_ hx_ => (Ev.mono (P' := (fun (z_ : Int) => ∃ (r : Int), post_law_next a_state (8 : Int) r ∧ z_ = r)) (ev_call1 (W := (fun _ _ _ _ => False)) (k := 0) (c := stC false) (P' := (fun (z_ : Int) => post_law_next a_state (8 : Int) z_)) rfl rfl rfl (fun _ => False) (ea_consD (ev_var (i := 1) rfl) (ea_consD ev_int ea_nil)) (fun ss_ hs_ us_ H_ Q_ E_ h_ => by obtain rfl := hs_; exact ⟨a_state, (8 : Int), (by walk_at "fsc"), Call.imp h_ (fun r_ c_ hq_ => hq_) (fun x_ c_ hq_ => hq_)⟩) (fun x_ hx_ => hx_.elim)) (fun z_ hz_ => ⟨z_, hz_, rfl⟩))) (fun x_ y_ hx_ hy_ => by rw [hx_]; obtain ⟨r, hc_r, hy_⟩ := hy_; rw [hy_]; exact R2V.mono (r2_ixLp (d := (0 : Int)) (by walk_at "fsc")) fun z_ hz_ => ⟨r, hc_r, hz_⟩)) (fun x_ hx_ => ea_nil)) (fun ss_ h_ => by obtain ⟨x_, r_, hx_, hr_, rfl⟩ := h_; obtain ⟨r, hc_r, hx_⟩ := hx_; rw [hx_]; obtain rfl := hr_; exact ⟨r, hc_r, rfl⟩)))) (fun ss_ h_ => by obtain ⟨x_, r_, hx_, hr_, rfl⟩ := h_; rw [hx_]; obtain ⟨r, hc_r, rfl⟩ := hr_; exact ⟨r, hc_r, rfl⟩)) (fun ss_ hs_ us_ H_ Q_ E_ h_ => by obtain ⟨r, hc_r, rfl⟩ := hs_; exact ⟨a_state, (([(2 : Int), (2 : Int), (2 : Int), (2 : Int), (2 : Int), (1 : Int), (3 : Int), (4 : Int)] : List Int).getD (r).toNat (0 : Int)), (by exact many8' r.toNat (by have h1 := hc_r.1; have h2 := hc_r.2; omega)), Call.imp h_ (fun r_ c_ hq_ => ⟨hq_.1, ⟨r, hc_r, hq_.2⟩⟩) (fun x_ c_ hq_ => hq_)⟩) (fun x_ hx_ => hx_.elim)) (fun z_ hz_ => by obtain ⟨r, hc_r, hz_⟩ := hz_; exact ⟨r, z_, hc_r, hz_, rfl⟩)) fun (letters : Str) h_letters => ?_)
  obtain ⟨r, r1, hc_r, hc_r1, h_letters⟩ := h_letters
  rw [← h_letters] at hc_r1
  have hg : goodL letters := (by rw [h_letters]; rw [h_letters] at hc_r1; exact hc_r1)
  show Do _ _ ⟨[va script, va (Adr.mk a_state), va letters, none, none, none, none, none, none, none, none], [(a_state, stC true)]⟩ _
  refine do_seq (do_asgL (i := 3) (EvL.mono (P' := fun z_ => ∃ (ys : List Str), (∃ xs_, (∃ n_ : Int, (∃ (r3 : Int), post_law_next a_state (6 : Int) r3 ∧ n_ = r3) ∧ xs_ = rngI 0 n_.toNat) ∧ Paired (fun (k : Int) => (fun (z_ : Str) => ∃ (r4 : Int) (r5 : Str), post_law_next a_state (7 : Int) r4 ∧ post_law_word a_state letters r4 r5 ∧ z_ = r5)) xs_ ys) ∧ z_ = ys) (evl_lcXN (pe := (fun (k : Int) => (fun (z_ : Str) => ∃ (r4 : Int) (r5 : Str), post_law_next a_state (7 : Int) r4 ∧ post_law_word a_state letters r4 r5 ∧ z_ = r5))) (eic_rng1 (Ev.mono (P' := (fun (z_ : Int) => ∃ (r3 : Int), post_law_next a_state (6 : Int) r3 ∧ z_ = r3)) (ev_call1 (W := (fun _ _ _ _ => False)) (k := 0) (c := stC false) (P' := (fun (z_ : Int) => post_law_next a_state (6 : Int) z_)) rfl rfl rfl (fun _ => False) (ea_consD (ev_var (i := 1) rfl) (ea_consD ev_int ea_nil)) (fun ss_ hs_ us_ H_ Q_ E_ h_ => by obtain rfl := hs_; exact ⟨a_state, (6 : Int), (by walk_at "fsc"), Call.imp h_ (fun r_ c_ hq_ => hq_) (fun x_ c_ hq_ => hq_)⟩) (fun x_ hx_ => hx_.elim)) (fun z_ hz_ => ⟨z_, hz_, rfl⟩)) (fun n_ hn_ => by obtain ⟨r3, hc_r3, rfl⟩ := hn_; exact (by walk_at "fsc"))) eg_name (by simp) (fun xs_ hx_ => by obtain ⟨n_, hn_, rfl⟩ := hx_; obtain ⟨r3, hc_r3, rfl⟩ := hn_; rw [rngI_len]; exact (by walk_at "fsc")) (fun xs_ pre_ k post_ hp_ hs_ dc_ => (Ev.mono (P' := (fun (z_ : Str) => ∃ (r4 : Int) (r5 : Str), post_law_next a_state (7 : Int) r4 ∧ post_law_word a_state letters r4 r5 ∧ z_ = r5)) (ev_call1 (W := (fun _ _ _ _ => False)) (k := 0) (c := stC false) (P' := (fun (z_ : Str) => ∃ (r4 : Int), post_law_next a_state (7 : Int) r4 ∧ post_law_word a_state letters r4 z_)) rfl rfl rfl (fun _ => False) (EvA.mono (P' := (fun ss_ => ∃ (r4 : Int), post_law_next a_state (7 : Int) r4 ∧ ss_ = [vs (Adr.mk a_state), vs letters, vs r4])) (ea_cons (ev_var (i := 1) rfl) (fun x_ hx_ => (EvA.mono (P' := (fun ss_ => ∃ (r4 : Int), post_law_next a_state (7 : Int) r4 ∧ ss_ = [vs letters, vs r4])) (ea_cons (ev_var (i := 2) rfl) (fun x_ hx_ => (EvA.mono (P' := (fun ss_ => ∃ (r4 : Int), post_law_next a_state (7 : Int) r4 ∧ ss_ = [vs r4])) (ea_cons (Ev.mono (P' := (fun (z_ : Int) => ∃ (r4 : Int), post_law_next a_state (7 : Int) r4 ∧ z_ = r4)) (ev_call1 (W := (fun _ _ _ _ => False)) (k := 0) (c := stC false) (P' := (fun (z_ : Int) => post_law_next a_state (7 : Int) z_)) rfl rfl rfl (fun _ => False) (ea_consD (ev_var (i := 1) rfl) (ea_consD ev_int ea_nil)) (fun ss_ hs_ us_ H_ Q_ E_ h_ => by obtain rfl := hs_; exact ⟨a_state, (7 : Int), (by walk_at "fsc"), Call.imp h_ (fun r_ c_ hq_ => hq_) (fun x_ c_ hq_ => hq_)⟩) (fun x_ hx_ => hx_.elim)) (fun z_ hz_ => ⟨z_, hz_, rfl⟩)) (fun x_ hx_ => ea_nil)) (fun ss_ h_ => by obtain ⟨x_, r_, hx_, hr_, rfl⟩ := h_; obtain ⟨r4, hc_r4, hx_⟩ := hx_; rw [hx_]; obtain rfl := hr_; exact ⟨r4, hc_r4, rfl⟩)))) (fun ss_ h_ => by obtain ⟨x_, r_, hx_, hr_, rfl⟩ := h_; rw [hx_]; obtain ⟨r4, hc_r4, rfl⟩ := hr_; exact ⟨r4, hc_r4, rfl⟩)))) (fun ss_ h_ => by obtain ⟨x_, r_, hx_, hr_, rfl⟩ := h_; rw [hx_]; obtain ⟨r4, hc_r4, rfl⟩ := hr_; exact ⟨r4, hc_r4, rfl⟩)) (fun ss_ hs_ us_ H_ Q_ E_ h_ => by obtain ⟨r4, hc_r4, rfl⟩ := hs_; exact ⟨a_state, letters, r4, (by have h1 := hg.1; have h2 := hg.2.1; have h3 := hc_r4.1; have h4 := hc_r4.2; exact ⟨h1, h2, h3, by omega⟩), Call.imp h_ (fun r_ c_ hq_ => ⟨hq_.1, ⟨r4, hc_r4, hq_.2⟩⟩) (fun x_ c_ hq_ => hq_)⟩) (fun x_ hx_ => hx_.elim)) (fun z_ hz_ => by obtain ⟨r4, hc_r4, hz_⟩ := hz_; exact ⟨r4, z_, hc_r4, hz_, rfl⟩)))) (fun z_ hz_ => ⟨z_, hz_, rfl⟩)) fun a_yes yes h_yes => ?_)
  obtain ⟨ys, hc_ys, h_yes⟩ := h_yes
  show Do _ _ ⟨[va script, va (Adr.mk a_state), va letters, va (Adr.mk a_yes), none, none, none, none, none, none, none], [(a_yes, ownL yes), (a_state, stC true)]⟩ _
  refine do_seq (do_asgL (i := 4) (EvL.mono (P' := fun z_ => ∃ (ys1 : List Str), (∃ xs_, (∃ n_ : Int, (∃ (r7 : Int), post_law_next a_state (6 : Int) r7 ∧ n_ = r7) ∧ xs_ = rngI 0 n_.toNat) ∧ Paired (fun (k1 : Int) => (fun (z_ : Str) => ∃ (r8 : Int) (r9 : Str), post_law_next a_state (7 : Int) r8 ∧ post_law_word a_state letters r8 r9 ∧ z_ = r9)) xs_ ys1) ∧ z_ = ys1) (evl_lcXN (pe := (fun (k1 : Int) => (fun (z_ : Str) => ∃ (r8 : Int) (r9 : Str), post_law_next a_state (7 : Int) r8 ∧ post_law_word a_state letters r8 r9 ∧ z_ = r9))) (eic_rng1 (Ev.mono (P' := (fun (z_ : Int) => ∃ (r7 : Int), post_law_next a_state (6 : Int) r7 ∧ z_ = r7)) (ev_call1 (W := (fun _ _ _ _ => False)) (k := 1) (c := stC false) (P' := (fun (z_ : Int) => post_law_next a_state (6 : Int) z_)) rfl rfl rfl (fun _ => False) (ea_consD (ev_var (i := 1) rfl) (ea_consD ev_int ea_nil)) (fun ss_ hs_ us_ H_ Q_ E_ h_ => by obtain rfl := hs_; exact ⟨a_state, (6 : Int), (by walk_at "fsc"), Call.imp h_ (fun r_ c_ hq_ => hq_) (fun x_ c_ hq_ => hq_)⟩) (fun x_ hx_ => hx_.elim)) (fun z_ hz_ => ⟨z_, hz_, rfl⟩)) (fun n_ hn_ => by obtain ⟨r7, hc_r7, rfl⟩ := hn_; exact (by walk_at "fsc"))) eg_name (by simp) (fun xs_ hx_ => by obtain ⟨n_, hn_, rfl⟩ := hx_; obtain ⟨r7, hc_r7, rfl⟩ := hn_; rw [rngI_len]; exact (by walk_at "fsc")) (fun xs_ pre_ k1 post_ hp_ hs_ dc_ => (Ev.mono (P' := (fun (z_ : Str) => ∃ (r8 : Int) (r9 : Str), post_law_next a_state (7 : Int) r8 ∧ post_law_word a_state letters r8 r9 ∧ z_ = r9)) (ev_call1 (W := (fun _ _ _ _ => False)) (k := 1) (c := stC false) (P' := (fun (z_ : Str) => ∃ (r8 : Int), post_law_next a_state (7 : Int) r8 ∧ post_law_word a_state letters r8 z_)) rfl rfl rfl (fun _ => False) (EvA.mono (P' := (fun ss_ => ∃ (r8 : Int), post_law_next a_state (7 : Int) r8 ∧ ss_ = [vs (Adr.mk a_state), vs letters, vs r8])) (ea_cons (ev_var (i := 1) rfl) (fun x_ hx_ => (EvA.mono (P' := (fun ss_ => ∃ (r8 : Int), post_law_next a_state (7 : Int) r8 ∧ ss_ = [vs letters, vs r8])) (ea_cons (ev_var (i := 2) rfl) (fun x_ hx_ => (EvA.mono (P' := (fun ss_ => ∃ (r8 : Int), post_law_next a_state (7 : Int) r8 ∧ ss_ = [vs r8])) (ea_cons (Ev.mono (P' := (fun (z_ : Int) => ∃ (r8 : Int), post_law_next a_state (7 : Int) r8 ∧ z_ = r8)) (ev_call1 (W := (fun _ _ _ _ => False)) (k := 1) (c := stC false) (P' := (fun (z_ : Int) => post_law_next a_state (7 : Int) z_)) rfl rfl rfl (fun _ => False) (ea_consD (ev_var (i := 1) rfl) (ea_consD ev_int ea_nil)) (fun ss_ hs_ us_ H_ Q_ E_ h_ => by obtain rfl := hs_; exact ⟨a_state, (7 : Int), (by walk_at "fsc"), Call.imp h_ (fun r_ c_ hq_ => hq_) (fun x_ c_ hq_ => hq_)⟩) (fun x_ hx_ => hx_.elim)) (fun z_ hz_ => ⟨z_, hz_, rfl⟩)) (fun x_ hx_ => ea_nil)) (fun ss_ h_ => by obtain ⟨x_, r_, hx_, hr_, rfl⟩ := h_; obtain ⟨r8, hc_r8, hx_⟩ := hx_; rw [hx_]; obtain rfl := hr_; exact ⟨r8, hc_r8, rfl⟩)))) (fun ss_ h_ => by obtain ⟨x_, r_, hx_, hr_, rfl⟩ := h_; rw [hx_]; obtain ⟨r8, hc_r8, rfl⟩ := hr_; exact ⟨r8, hc_r8, rfl⟩)))) (fun ss_ h_ => by obtain ⟨x_, r_, hx_, hr_, rfl⟩ := h_; rw [hx_]; obtain ⟨r8, hc_r8, rfl⟩ := hr_; exact ⟨r8, hc_r8, rfl⟩)) (fun ss_ hs_ us_ H_ Q_ E_ h_ => by obtain ⟨r8, hc_r8, rfl⟩ := hs_; exact ⟨a_state, letters, r8, (by have h1 := hg.1; have h2 := hg.2.1; have h3 := hc_r8.1; have h4 := hc_r8.2; exact ⟨h1, h2, h3, by omega⟩), Call.imp h_ (fun r_ c_ hq_ => ⟨hq_.1, ⟨r8, hc_r8, hq_.2⟩⟩) (fun x_ c_ hq_ => hq_)⟩) (fun x_ hx_ => hx_.elim)) (fun z_ hz_ => by obtain ⟨r8, hc_r8, hz_⟩ := hz_; exact ⟨r8, z_, hc_r8, hz_, rfl⟩)))) (fun z_ hz_ => ⟨z_, hz_, rfl⟩)) fun a_no no h_no => ?_)
  obtain ⟨ys1, hc_ys1, h_no⟩ := h_no
  show Do _ _ ⟨[va script, va (Adr.mk a_state), va letters, va (Adr.mk a_yes), va (Adr.mk a_no), none, none, none, none, none, none], [(a_no, ownL no), (a_yes, ownL yes), (a_state, stC true)]⟩ _
  refine do_seqJ (fun e_ => ∃ (ys : List Str) (ns : List Str), (wsI letters ys) ∧ (wsI letters ns) ∧ e_ = ⟨[va script, va (Adr.mk a_state), va letters, va (Adr.mk a_yes), va (Adr.mk a_no), none, none, none, none, none, none], [(a_no, ownL ns), (a_yes, ownL ys), (a_state, stC true)]⟩) ?_ ?_
  ·
    refine do_ifD (et_test (ev_opD (ev_cbD (ea_consD (ev_var (i := 3) rfl) ea_nil) (rc_lenO (k := 1) rfl)) ev_int r2_gt)) (fun h_if => ?_) (fun h_if => ?_)
    ·
      refine do_seq (do_append (k := 0) rfl (ev_var (i := 4) rfl) (ev_opD (ev_var (i := 3) rfl) ev_int (r2_ixOp (j := 1) (d := dS) rfl (by walk_at "fsc"))) (by have h1 := (ws_of hc_ys1).1; rw [h_no]; omega) fun (y : Str) h_y => ?_)
      show Do _ _ ⟨[va script, va (Adr.mk a_state), va letters, va (Adr.mk a_yes), va (Adr.mk a_no), none, none, none, none, none, none], [(a_no, ownL (no ++ [y])), (a_yes, ownL yes), (a_state, stC true)]⟩ _
      refine do_append (k := 1) rfl (ev_var (i := 3) rfl) (ev_opD (ev_var (i := 3) rfl) ev_int (r2_ixOp (j := 1) (d := dS) rfl (by walk_at "fsc"))) (by have h1 := (ws_of hc_ys).1; rw [h_yes]; omega) fun (y1 : Str) h_y1 => ?_
      refine ⟨⟨[va script, va (Adr.mk a_state), va letters, va (Adr.mk a_yes), va (Adr.mk a_no), none, none, none, none, none, none], [(a_no, ownL _), (a_yes, ownL _), (a_state, stC true)]⟩, ⟨⟨Or.inr rfl, ⟨Or.inr rfl, ⟨Or.inr rfl, ⟨Or.inr rfl, ⟨Or.inr rfl, ⟨Or.inl rfl, ⟨Or.inl rfl, ⟨Or.inl rfl, ⟨Or.inl rfl, ⟨Or.inl rfl, ⟨Or.inl rfl, trivial⟩⟩⟩⟩⟩⟩⟩⟩⟩⟩⟩, (.cons₂ _ (.cons₂ _ (.cons₂ _ .slnil)))⟩, _, _, ?_, ?_, rfl⟩
      · -- vc 0
        exact wsI_app (by rw [h_yes]; exact ws_of hc_ys) (by rw [h_y1]; exact ws_at (by rw [h_yes]; exact ws_of hc_ys))
      · -- vc 1
        exact wsI_app (by rw [h_no]; exact ws_of hc_ys1) (by rw [h_y]; exact ws_at (by rw [h_yes]; exact ws_of hc_ys))
    ·
      refine do_next ?_
      refine ⟨⟨[va script, va (Adr.mk a_state), va letters, va (Adr.mk a_yes), va (Adr.mk a_no), none, none, none, none, none, none], [(a_no, ownL _), (a_yes, ownL _), (a_state, stC true)]⟩, ⟨⟨Or.inr rfl, ⟨Or.inr rfl, ⟨Or.inr rfl, ⟨Or.inr rfl, ⟨Or.inr rfl, ⟨Or.inl rfl, ⟨Or.inl rfl, ⟨Or.inl rfl, ⟨Or.inl rfl, ⟨Or.inl rfl, ⟨Or.inl rfl, trivial⟩⟩⟩⟩⟩⟩⟩⟩⟩⟩⟩, (.cons₂ _ (.cons₂ _ (.cons₂ _ .slnil)))⟩, _, _, ?_, ?_, rfl⟩
      · -- vc 2
        have h1 := ws_of hc_ys; rw [h_yes]; exact ⟨by omega, h1.2⟩
      · -- vc 3
        have h1 := ws_of hc_ys1; rw [h_no]; exact ⟨by omega, h1.2⟩
  ·
    rintro e_ ⟨ys, ns, hY, hN, rfl⟩
    show Do _ _ ⟨[va script, va (Adr.mk a_state), va letters, va (Adr.mk a_yes), va (Adr.mk a_no), none, none, none, none, none, none], [(a_no, ownL ns), (a_yes, ownL ys), (a_state, stC true)]⟩ _
    refine do_freeze (k := 1) (j := 3) rfl rfl ?_
    show Do _ _ ⟨[va script, va (Adr.mk a_state), va letters, va ys, va (Adr.mk a_no), none, none, none, none, none, none], [(a_no, ownL ns), (a_state, stC true)]⟩ _
    refine do_freeze (k := 0) (j := 4) rfl rfl ?_
    show Do _ _ ⟨[va script, va (Adr.mk a_state), va letters, va ys, va ns, none, none, none, none, none, none], [(a_state, stC true)]⟩ _
    refine do_seq (do_asg (i := 5) (Ev.mono (P' := (fun (z_ : Str) => ∃ (r10 : (List Str)) (r11 : (List Str)) (r12 : Str), post_law_ordered ys r10 ∧ post_law_ordered ns r11 ∧ post_law_text letters r10 r11 r12 ∧ z_ = r12)) (ev_callP (W := (fun _ _ _ _ => False)) (P' := (fun (z_ : Str) => ∃ (r10 : (List Str)) (r11 : (List Str)), post_law_ordered ys r10 ∧ post_law_ordered ns r11 ∧ post_law_text letters r10 r11 z_)) (fun _ => False) (EvA.mono (P' := (fun ss_ => ∃ (r10 : (List Str)) (r11 : (List Str)), post_law_ordered ys r10 ∧ post_law_ordered ns r11 ∧ ss_ = [vs letters, vs r10, vs r11])) (ea_cons (ev_var (i := 2) rfl) (fun x_ hx_ => (EvA.mono (P' := (fun ss_ => ∃ (r10 : (List Str)) (r11 : (List Str)), post_law_ordered ys r10 ∧ post_law_ordered ns r11 ∧ ss_ = [vs r10, vs r11])) (ea_cons (Ev.mono (P' := (fun (z_ : (List Str)) => ∃ (r10 : (List Str)), post_law_ordered ys r10 ∧ z_ = r10)) (ev_callP (W := (fun _ _ _ _ => False)) (P' := (fun (z_ : (List Str)) => post_law_ordered ys z_)) (fun _ => False) (ea_consD (ev_var (i := 3) rfl) ea_nil) (fun ss_ hs_ us_ H_ Q_ E_ h_ => by obtain rfl := hs_; exact ⟨ys, (by exact ⟨by have h1 := hY.1; omega, fun w hw => by have h1 := (hY.2 w hw).1; omega⟩), Call.imp h_ (fun r_ c_ hq_ => hq_) (fun x_ c_ hq_ => hq_)⟩) (fun x_ hx_ => hx_.elim)) (fun z_ hz_ => ⟨z_, hz_, rfl⟩)) (fun x_ hx_ => (EvA.mono (P' := (fun ss_ => ∃ (r11 : (List Str)), post_law_ordered ns r11 ∧ ss_ = [vs r11])) (ea_cons (Ev.mono (P' := (fun (z_ : (List Str)) => ∃ (r11 : (List Str)), post_law_ordered ns r11 ∧ z_ = r11)) (ev_callP (W := (fun _ _ _ _ => False)) (P' := (fun (z_ : (List Str)) => post_law_ordered ns z_)) (fun _ => False) (ea_consD (ev_var (i := 4) rfl) ea_nil) (fun ss_ hs_ us_ H_ Q_ E_ h_ => by obtain rfl := hs_; exact ⟨ns, (by exact ⟨by have h1 := hN.1; omega, fun w hw => by have h1 := (hN.2 w hw).1; omega⟩), Call.imp h_ (fun r_ c_ hq_ => hq_) (fun x_ c_ hq_ => hq_)⟩) (fun x_ hx_ => hx_.elim)) (fun z_ hz_ => ⟨z_, hz_, rfl⟩)) (fun x_ hx_ => ea_nil)) (fun ss_ h_ => by obtain ⟨x_, r_, hx_, hr_, rfl⟩ := h_; obtain ⟨r11, hc_r11, hx_⟩ := hx_; rw [hx_]; obtain rfl := hr_; exact ⟨r11, hc_r11, rfl⟩)))) (fun ss_ h_ => by obtain ⟨x_, r_, hx_, hr_, rfl⟩ := h_; obtain ⟨r10, hc_r10, hx_⟩ := hx_; rw [hx_]; obtain ⟨r11, hc_r11, rfl⟩ := hr_; exact ⟨r10, r11, hc_r10, hc_r11, rfl⟩)))) (fun ss_ h_ => by obtain ⟨x_, r_, hx_, hr_, rfl⟩ := h_; rw [hx_]; obtain ⟨r10, r11, hc_r10, hc_r11, rfl⟩ := hr_; exact ⟨r10, r11, hc_r10, hc_r11, rfl⟩)) (fun ss_ hs_ us_ H_ Q_ E_ h_ => by obtain ⟨r10, r11, hc_r10, hc_r11, rfl⟩ := hs_; exact ⟨letters, r10, r11, (by have hy6 := sup_mem hY hc_r10; have hn6 := sup_mem hN hc_r11; exact ⟨by have h1 := hg.2.1; omega, by omega, by omega, fun w hw => by have h1 := hy6.2 w hw; omega, fun w hw => by have h1 := hn6.2 w hw; omega⟩), Call.imp h_ (fun r_ c_ hq_ => ⟨hq_.1, ⟨r10, r11, hc_r10, hc_r11, hq_.2⟩⟩) (fun x_ c_ hq_ => hq_)⟩) (fun x_ hx_ => hx_.elim)) (fun z_ hz_ => by obtain ⟨r10, r11, hc_r10, hc_r11, hz_⟩ := hz_; exact ⟨r10, r11, z_, hc_r10, hc_r11, hz_, rfl⟩)) fun (text : Str) h_text => ?_)
    obtain ⟨r10, r11, r12, hc_r10, hc_r11, hc_r12, h_text⟩ := h_text
    rw [← h_text] at hc_r12
    have hy6 := sup_mem hY hc_r10
    have hn6 := sup_mem hN hc_r11
    have htx : text = sText letters r10 r11 := (by rw [h_text] at hc_r12 ⊢; exact hc_r12)
    have htl : text.length ≤ 10100 := (by rw [htx]; exact sText_len (by have h1 := hg.2.1; omega) (by omega) (by omega) (fun w hw => by have h1 := hy6.2 w hw; omega) (fun w hw => by have h1 := hn6.2 w hw; omega))
    show Do _ _ ⟨[va script, va (Adr.mk a_state), va letters, va ys, va ns, va text, none, none, none, none, none], [(a_state, stC true)]⟩ _
    refine do_seq (do_asg (i := 6) (Ev.mono (P' := (fun (z_ : Str) => ∃ (m : (Mc_Sample A.Sample)) (r13 : Str), post_Sample___init letters ys ns m ∧ post_sample_text m r13 ∧ z_ = r13)) (ev_callP (W := (fun _ _ _ _ => False)) (P' := (fun (z_ : Str) => ∃ (m : (Mc_Sample A.Sample)), post_Sample___init letters ys ns m ∧ post_sample_text m z_)) (fun _ => False) (EvA.mono (P' := (fun ss_ => ∃ (m : (Mc_Sample A.Sample)), post_Sample___init letters ys ns m ∧ ss_ = [vs m])) (ea_cons (ev_new (W := (fun _ _ _ _ => False)) (P' := (fun (z_ : (Mc_Sample A.Sample)) => ∃ (m : (Mc_Sample A.Sample)), post_Sample___init letters ys ns m ∧ z_ = m)) (fun x_ => xp_Sample___init A letters ys ns x_) (ea_consD (ev_var (i := 2) rfl) (ea_consD (evl_val (evl_listL (ea_consD (ev_var (i := 3) rfl) ea_nil))) (ea_consD (evl_val (evl_listL (ea_consD (ev_var (i := 4) rfl) ea_nil))) ea_nil))) (fun ss_ hs_ p_ us_ H_ Q_ E_ h_ => by obtain rfl := hs_; exact ⟨p_, letters, ys, ns, (by exact ⟨by have h1 := hg.2.1; omega, by have h1 := hY.1; omega, by have h1 := hN.1; omega, fun w hw => by have h1 := (hY.2 w hw).1; omega, fun w hw => by have h1 := (hN.2 w hw).1; omega⟩), Call.imp h_ (fun r_ c_ hq_ => by obtain ⟨m_, hc_, pm_⟩ := hq_; exact ⟨m_, hc_, ⟨m_, pm_, rfl⟩⟩) (fun x_ c_ hq_ => hq_)⟩) (fun x_ hx_ => absurd hx_ (by exact sample_no hg (wsI_ok hY) (wsI_ok hN)))) (fun x_ hx_ => ea_nil)) (fun ss_ h_ => by obtain ⟨x_, r_, hx_, hr_, rfl⟩ := h_; obtain ⟨m, hc_m, hx_⟩ := hx_; rw [hx_]; obtain rfl := hr_; exact ⟨m, hc_m, rfl⟩)) (fun ss_ hs_ us_ H_ Q_ E_ h_ => by obtain ⟨m, hc_m, rfl⟩ := hs_; exact ⟨m, (by obtain ⟨m1, m2, m3, m4, m5, m6⟩ := hc_m; have hy := sup_mem hY m5; have hn := sup_mem hN m6; exact ⟨by rw [m4]; exact hg.2.1, by omega, by omega, fun w hw => by have h1 := hy.2 w hw; omega, fun w hw => by have h1 := hn.2 w hw; omega⟩), Call.imp h_ (fun r_ c_ hq_ => ⟨hq_.1, ⟨m, hc_m, hq_.2⟩⟩) (fun x_ c_ hq_ => hq_)⟩) (fun x_ hx_ => hx_.elim)) (fun z_ hz_ => by obtain ⟨m, hc_m, hz_⟩ := hz_; exact ⟨m, z_, hc_m, hz_, rfl⟩)) fun (written_v : Str) h_written_v => ?_)
    obtain ⟨m, r13, hc_m, hc_r13, h_written_v⟩ := h_written_v
    rw [← h_written_v] at hc_r13
    show Do _ _ ⟨[va script, va (Adr.mk a_state), va letters, va ys, va ns, va text, va written_v, none, none, none, none], [(a_state, stC true)]⟩ _
    refine do_seq (do_ifD (et_orD (et_notD (et_B (isi_F (ty := "str") (c := "str") (b := true) (ev_var (i := 6) rfl) (fun _ => TyOf.str _) (by decide +kernel)))) (fun hb => (et_orD (et_test (ev_opD (ev_var (i := 6) rfl) (ev_var (i := 5) rfl) r2_neS)) (fun hb1 => (et_notD (et_B (ev_callP (W := (fun _ _ _ _ => False)) (P' := (· = true)) (fun _ => False) (ea_consD (ev_var (i := 5) rfl) ea_nil) (fun ss_ hs_ us_ H_ Q_ E_ h_ => by obtain rfl := hs_; exact ⟨text, (by show text.length ≤ _; omega), Call.imp h_ (fun r_ c_ hq_ => hq_) (fun x_ c_ hq_ => hq_)⟩) (fun x_ hx_ => hx_.elim)))))))) (fun h_if1 => ?_) (fun h_if1 => ?_))
    ·
      refine do_ret ev_bl fun z h_ret => ?_
      refine ⟨_, (.cons _ .slnil), rfl, ?_⟩
      · -- vc 4
        obtain ⟨m1, m2, m3, m4, m5, m6⟩ := hc_m
        have h1 : written_v = sText m.letters m.yes.l m.no.l := hc_r13
        rw [m4, SUp.uniq m5 hc_r10, SUp.uniq m6 hc_r11] at h1
        rw [h1, htx] at h_if1; simp at h_if1
    ·
      refine do_next ?_
      show Do _ _ ⟨[va script, va (Adr.mk a_state), va letters, va ys, va ns, va text, va written_v, none, none, none, none], [(a_state, stC true)]⟩ _
      refine do_seq (do_forW (ei_rng1 (ea_consD ev_int ea_nil) (by walk_at "fsc") (by walk_at "fsc")) eg_name (fun (pre : List Int) e_ => e_ = ⟨[va script, va (Adr.mk a_state), va letters, va ys, va ns, va text, va written_v, none, none, none, none], [(a_state, stC true)]⟩) ?_ ?_ ?_)
      ·
        refine ⟨⟨[va script, va (Adr.mk a_state), va letters, va ys, va ns, va text, va written_v, none, none, none, none], [(a_state, stC true)]⟩, ⟨⟨Or.inr rfl, ⟨Or.inr rfl, ⟨Or.inr rfl, ⟨Or.inr rfl, ⟨Or.inr rfl, ⟨Or.inr rfl, ⟨Or.inr rfl, ⟨Or.inl rfl, ⟨Or.inl rfl, ⟨Or.inl rfl, ⟨Or.inl rfl, trivial⟩⟩⟩⟩⟩⟩⟩⟩⟩⟩⟩, (.cons₂ _ .slnil)⟩, rfl⟩
      ·
        rintro pre k post e_ hsplit rfl
        have hlen_hsplit := congrArg List.length hsplit; simp only [List.length_append, List.length_cons, List.length_nil, List.length_map, signs_len, rngI_len, enumI_len, keysD_len] at hlen_hsplit
        have hrng_hsplit := rng_split hsplit
        show Do _ _ ⟨[va script, va (Adr.mk a_state), va letters, va ys, va ns, va text, va written_v, va k, none, none, none], [(a_state, stC true)]⟩ _
        refine do_seq (do_asg (i := 9) (ev_call1 (W := (fun _ _ _ _ => False)) (k := 0) (c := stC false) (P' := (fun (z_ : Str) => post_law_spoilt a_state text z_)) rfl rfl rfl (fun _ => False) (ea_consD (ev_var (i := 1) rfl) (ea_consD (ev_var (i := 5) rfl) ea_nil)) (fun ss_ hs_ us_ H_ Q_ E_ h_ => by obtain rfl := hs_; exact ⟨a_state, text, (by show text.length ≤ _; omega), Call.imp h_ (fun r_ c_ hq_ => hq_) (fun x_ c_ hq_ => hq_)⟩) (fun x_ hx_ => hx_.elim)) fun (spoilt : Str) h_spoilt => ?_)
        show Do _ _ ⟨[va script, va (Adr.mk a_state), va letters, va ys, va ns, va text, va written_v, va k, none, va spoilt, none], [(a_state, stC true)]⟩ _
        refine do_seqJ (fun e_ => ∃ (sp : Str), (sp.length ≤ 200000) ∧ e_ = ⟨[va script, va (Adr.mk a_state), va letters, va ys, va ns, va text, va written_v, va k, none, va sp, none], [(a_state, stC true)]⟩) ?_ ?_
        ·
          refine do_ifD (et_test (ev_opD (ev_var (i := 7) rfl) ev_int r2_gt)) (fun h_if2 => ?_) (fun h_if2 => ?_)
          ·
            refine do_asg (i := 9) (ev_call1 (W := (fun _ _ _ _ => False)) (k := 0) (c := stC false) (P' := (fun (z_ : Str) => post_law_spoilt a_state spoilt z_)) rfl rfl rfl (fun _ => False) (ea_consD (ev_var (i := 1) rfl) (ea_consD (ev_var (i := 9) rfl) ea_nil)) (fun ss_ hs_ us_ H_ Q_ E_ h_ => by obtain rfl := hs_; exact ⟨a_state, spoilt, (by have h1 : spoilt.length ≤ 3 * text.length + 20 := h_spoilt; show spoilt.length ≤ _; omega), Call.imp h_ (fun r_ c_ hq_ => hq_) (fun x_ c_ hq_ => hq_)⟩) (fun x_ hx_ => hx_.elim)) fun (spoilt1 : Str) h_spoilt1 => ?_
            refine ⟨⟨[va script, va (Adr.mk a_state), va letters, va ys, va ns, va text, va written_v, va k, none, va _, none], [(a_state, stC true)]⟩, ⟨⟨Or.inr rfl, ⟨Or.inr rfl, ⟨Or.inr rfl, ⟨Or.inr rfl, ⟨Or.inr rfl, ⟨Or.inr rfl, ⟨Or.inr rfl, ⟨Or.inr rfl, ⟨Or.inl rfl, ⟨Or.inr rfl, ⟨Or.inl rfl, trivial⟩⟩⟩⟩⟩⟩⟩⟩⟩⟩⟩, (.cons₂ _ .slnil)⟩, _, ?_, rfl⟩
            · -- vc 5
              have h1 : spoilt.length ≤ 3 * text.length + 20 := h_spoilt
              have h2 : spoilt1.length ≤ 3 * spoilt.length + 20 := h_spoilt1
              omega
          ·
            refine do_next ?_
            refine ⟨⟨[va script, va (Adr.mk a_state), va letters, va ys, va ns, va text, va written_v, va k, none, va _, none], [(a_state, stC true)]⟩, ⟨⟨Or.inr rfl, ⟨Or.inr rfl, ⟨Or.inr rfl, ⟨Or.inr rfl, ⟨Or.inr rfl, ⟨Or.inr rfl, ⟨Or.inr rfl, ⟨Or.inr rfl, ⟨Or.inl rfl, ⟨Or.inr rfl, ⟨Or.inl rfl, trivial⟩⟩⟩⟩⟩⟩⟩⟩⟩⟩⟩, (.cons₂ _ .slnil)⟩, _, ?_, rfl⟩
            · -- vc 6
              have h1 : spoilt.length ≤ 3 * text.length + 20 := h_spoilt; omega
        ·
          rintro e_ ⟨sp, hS, rfl⟩
          show Do _ _ ⟨[va script, va (Adr.mk a_state), va letters, va ys, va ns, va text, va written_v, va k, none, va sp, none], [(a_state, stC true)]⟩ _
          refine do_ifD (et_notD (et_B (ev_callP (W := (fun _ _ _ _ => False)) (P' := (· = true)) (fun _ => False) (ea_consD (ev_var (i := 9) rfl) ea_nil) (fun ss_ hs_ us_ H_ Q_ E_ h_ => by obtain rfl := hs_; exact ⟨sp, (by walk_at "fsc"), Call.imp h_ (fun r_ c_ hq_ => hq_) (fun x_ c_ hq_ => hq_)⟩) (fun x_ hx_ => hx_.elim)))) (fun h_if3 => ?_) (fun h_if3 => ?_)
          ·
            refine do_ret ev_bl fun z h_ret => ?_
            refine ⟨_, (.cons _ .slnil), rfl, ?_⟩
            · -- vc 7
              simp at h_if3
          ·
            refine do_next ?_
            refine ⟨⟨[va script, va (Adr.mk a_state), va letters, va ys, va ns, va text, va written_v, none, none, none, none], [(a_state, stC true)]⟩, ⟨⟨Or.inr rfl, ⟨Or.inr rfl, ⟨Or.inr rfl, ⟨Or.inr rfl, ⟨Or.inr rfl, ⟨Or.inr rfl, ⟨Or.inr rfl, ⟨Or.inl rfl, ⟨Or.inl rfl, ⟨Or.inl rfl, ⟨Or.inl rfl, trivial⟩⟩⟩⟩⟩⟩⟩⟩⟩⟩⟩, (.cons₂ _ .slnil)⟩, rfl⟩
      ·
        rintro e_ rfl
        show Do _ _ ⟨[va script, va (Adr.mk a_state), va letters, va ys, va ns, va text, va written_v, none, none, none, none], [(a_state, stC true)]⟩ _
        refine do_seq (do_asg (i := 8) (ev_call1 (W := (fun _ _ _ _ => False)) (k := 0) (c := stC false) (P' := (fun (z_ : Str) => post_law_large a_state letters z_)) rfl rfl rfl (fun _ => False) (ea_consD (ev_var (i := 1) rfl) (ea_consD (ev_var (i := 2) rfl) ea_nil)) (fun ss_ hs_ us_ H_ Q_ E_ h_ => by obtain rfl := hs_; exact ⟨a_state, letters, (by exact ⟨hg.1, hg.2.1⟩), Call.imp h_ (fun r_ c_ hq_ => hq_) (fun x_ c_ hq_ => hq_)⟩) (fun x_ hx_ => hx_.elim)) fun (large : Str) h_large => ?_)
        show Do _ _ ⟨[va script, va (Adr.mk a_state), va letters, va ys, va ns, va text, va written_v, none, va large, none, none], [(a_state, stC true)]⟩ _
        refine do_seq (do_ifX (etx_or (etx_leaf (et_notD (et_B (ev_callP (W := (fun _ _ _ _ => False)) (P' := (· = true)) (fun _ => False) (ea_consD (ev_var (i := 8) rfl) ea_nil) (fun ss_ hs_ us_ H_ Q_ E_ h_ => by obtain rfl := hs_; exact ⟨large, (by walk_at "fsc"), Call.imp h_ (fun r_ c_ hq_ => hq_) (fun x_ c_ hq_ => hq_)⟩) (fun x_ hx_ => hx_.elim)))) (fun h_ => h_.symm) (fun h_ => h_.symm)) (fun hb3 => (etx_leaf (Pt := (∃ (r20 : Str), post_law_spoilt a_state large r20 ∧ (!true) = true)) (Pf := (∃ (r20 : Str), post_law_spoilt a_state large r20 ∧ (!true) = false)) (EvT.mono (P' := (fun (z_ : Bool) => ∃ (r20 : Str), post_law_spoilt a_state large r20 ∧ z_ = (!true))) (et_not (et_B (Ev.mono (P' := (fun (z_ : Bool) => ∃ (r20 : Str), post_law_spoilt a_state large r20 ∧ z_ = true)) (ev_callP (W := (fun _ _ _ _ => False)) (P' := (fun (z_ : Bool) => ∃ (r20 : Str), post_law_spoilt a_state large r20 ∧ post_law_reads r20 z_)) (fun _ => False) (EvA.mono (P' := (fun ss_ => ∃ (r20 : Str), post_law_spoilt a_state large r20 ∧ ss_ = [vs r20])) (ea_cons (Ev.mono (P' := (fun (z_ : Str) => ∃ (r20 : Str), post_law_spoilt a_state large r20 ∧ z_ = r20)) (ev_call1 (W := (fun _ _ _ _ => False)) (k := 0) (c := stC false) (P' := (fun (z_ : Str) => post_law_spoilt a_state large z_)) rfl rfl rfl (fun _ => False) (ea_consD (ev_var (i := 1) rfl) (ea_consD (ev_var (i := 8) rfl) ea_nil)) (fun ss_ hs_ us_ H_ Q_ E_ h_ => by obtain rfl := hs_; exact ⟨a_state, large, (by walk_at "fsc"), Call.imp h_ (fun r_ c_ hq_ => hq_) (fun x_ c_ hq_ => hq_)⟩) (fun x_ hx_ => hx_.elim)) (fun z_ hz_ => ⟨z_, hz_, rfl⟩)) (fun x_ hx_ => ea_nil)) (fun ss_ h_ => by obtain ⟨x_, r_, hx_, hr_, rfl⟩ := h_; obtain ⟨r20, hc_r20, hx_⟩ := hx_; rw [hx_]; obtain rfl := hr_; exact ⟨r20, hc_r20, rfl⟩)) (fun ss_ hs_ us_ H_ Q_ E_ h_ => by obtain ⟨r20, hc_r20, rfl⟩ := hs_; exact ⟨r20, (by walk_at "fsc"), Call.imp h_ (fun r_ c_ hq_ => ⟨hq_.1, ⟨r20, hc_r20, hq_.2⟩⟩) (fun x_ c_ hq_ => hq_)⟩) (fun x_ hx_ => hx_.elim)) (fun z_ hz_ => by obtain ⟨r20, hc_r20, hz_⟩ := hz_; exact ⟨r20, hc_r20, hz_⟩)))) (fun z_ hz_ => by obtain ⟨r20, hc_r20, hz_⟩ := hz_; exact ⟨r20, hc_r20, (by rw [← hz_, Bool.not_not])⟩)) (fun h_ => by obtain ⟨r20, hc_r20, h_⟩ := h_; exact ⟨r20, hc_r20, h_.symm⟩) (fun h_ => by obtain ⟨r20, hc_r20, h_⟩ := h_; exact ⟨r20, hc_r20, h_.symm⟩)))) (fun h_if4 => ?_) (fun h_if4 => ?_))
        ·
          refine do_ret ev_bl fun z h_ret => ?_
          refine ⟨_, (.cons _ .slnil), rfl, ?_⟩
          · -- vc 8
            rcases h_if4 with z | ⟨_, _, z⟩ <;> simp at z
        ·
          refine do_next ?_
          show Do _ _ ⟨[va script, va (Adr.mk a_state), va letters, va ys, va ns, va text, va written_v, none, va large, none, none], [(a_state, stC true)]⟩ _
          refine do_ret (ev_callP (W := (fun _ _ _ _ => False)) (P' := (· = true)) (fun _ => False) (ea_consD (ev_var (i := 5) rfl) ea_nil) (fun ss_ hs_ us_ H_ Q_ E_ h_ => by obtain rfl := hs_; exact ⟨text, (by show text.length ≤ _; omega), Call.imp h_ (fun r_ c_ hq_ => hq_) (fun x_ c_ hq_ => hq_)⟩) (fun x_ hx_ => hx_.elim)) fun z h_ret => ?_
          refine ⟨_, (.cons _ .slnil), rfl, ?_⟩
          · walk_at "fvc"

end
end LL

namespace LL
open PySem L2 Fw Lm
local macro_rules | `(tactic| walk_at "fsc") => `(tactic| first | omega | assumption | exact True.intro | exact sgn_split (by assumption) | exact sgn_split2 (by assumption) | (intros; omega) | (with_reducible exact emod_both (by omega)) | (simp only [Bool.not_eq_true', Bool.not_eq_false', decide_eq_true_eq, decide_eq_false_iff_not, Bool.or_eq_false_iff, Bool.and_eq_true, List.length_cons, List.length_nil, List.length_append, List.length_cons, List.length_nil, List.length_map, signs_len, rngI_len, enumI_len, keysD_len, pre_check_letters, post_check_letters, pre_check_word, post_check_word, pre_order_key, post_order_key, pre_in_order, post_in_order, pre_check_words, post_check_words, pre_Sample___init, post_Sample___init, pre_written, post_written, pre_word_of, post_word_of, pre_are_letters, post_are_letters, pre_sample_text, post_sample_text, pre_read_sample, post_read_sample, pre_law_start, pre_law_next, post_law_next, pre_law_integer, post_law_integer, pre_law_alphabet, post_law_alphabet, pre_law_word, post_law_word, pre_law_ordered, post_law_ordered, pre_law_text, post_law_text, pre_law_good_letters, post_law_good_letters, pre_law_read, post_law_read, pre_law_words_are, post_law_words_are, pre_law_reads, post_law_reads, pre_law_word_at, post_law_word_at, pre_law_climbing, post_law_climbing, pre_law_spoilt, post_law_spoilt, pre_law_large, post_law_large, pre_law, post_law] at *; first | omega | assumption | (refine ⟨?_, ?_⟩ <;> first | omega | assumption) | (refine ⟨?_, ?_, ?_⟩ <;> first | omega | assumption)) | (have hl_ := congrArg List.length hs_; simp only [List.length_append, List.length_cons, List.length_nil, List.length_map, signs_len, rngI_len, enumI_len, keysD_len] at hl_; omega) | (have hr_ := rng_split hs_; omega) | exact (by decide : 1 ≤ (" " : Str).length) | exact (by decide : 1 ≤ ("\n" : Str).length) | exact rfl)
local macro_rules | `(tactic| walk_at "fvc") => `(tactic| first | rfl | exact True.intro | assumption | omega)
local macro_rules | `(tactic| walk_at "fxp") => `(tactic| first | exact hx_ | assumption)
local macro_rules | `(tactic| walk_at "frs") => `(tactic| first | assumption)

section
variable {P : Program} {w : World} {K : PySem.W.Frag} {mg : Str → Option Value} {base : Heap} {A : Ad}
abbrev s_law_alphabet : Stmt := topS 29
abbrev N_law_alphabet : List Str := ["state", "many", "signs", "at", "told", "k"]
theorem sc_law_alphabet : FnScope N_law_alphabet ["state", "many"] (defScope s_law_alphabet) := ⟨rfl, rfl, rfl, by decide +kernel, rfl, by decide +kernel, by decide +kernel⟩
set_option maxHeartbeats 4000000 in
theorem ok_law_alphabet (T : Tx K mg A) (h_law_next : Cal P w K mg base 1 A.law_next "_law_next" ["state", "many"] (sp_law_next K)) {fd : FuncData} (F : Fun K "_law_alphabet" "_law_alphabet" s_law_alphabet A.law_alphabet fd) : FnOk P w K mg base (L2N.CX P w) 2 A.law_alphabet fd ["state", "many"] (sp_law_alphabet K) := by
  refine okN F sc_law_alphabet (fun us H Q E ⟨state, many, hpre, h⟩ => h.len) (fun cdv A_ outer s_ H us Q E hr ⟨state, many, hpre, h⟩ => ?_)
  refine ⟨_, (pss_cons (ps_set (i := 2) sc_law_alphabet.nd rfl (by first | exact Or.inl rfl | exact Or.inr rfl) pe_str) (pss_cons (ps_set (i := 3) sc_law_alphabet.nd rfl (by first | exact Or.inl rfl | exact Or.inr rfl) (pe_cal (W := (fun _ _ _ _ => False)) h_law_next (hr.mono (by decide)) takes0N (pa_cons (pv 0) (pa_cons (pe_op op_sub pe_int (pe_op op_mul pe_int (pe_op op_sub (pv 1) pe_int))) pa_nil)))) (pss_cons (ps_set (i := 4) sc_law_alphabet.nd rfl (by first | exact Or.inl rfl | exact Or.inr rfl) (pe_ix ix_str (pv 2) (pv 3) (fun _ _ => rfl))) (pss_cons (ps_for (passes_of rfl) rfl (pi_range1 (by rfl) T.m_range (pa_cons (pe_op op_sub (pv 1) pe_int) pa_nil)) (pg_name (i := 5) sc_law_alphabet.nd rfl (by first | exact Or.inl rfl | exact Or.inr rfl)) (pss_cons (ps_set (i := 3) sc_law_alphabet.nd rfl (by first | exact Or.inl rfl | exact Or.inr rfl) (pe_op op_add (pe_op op_add (pv 3) pe_int) (pe_cal (W := (fun _ _ _ _ => False)) h_law_next (hr.mono (by decide)) takes0N (pa_cons (pv 0) (pa_cons pe_int pa_nil))))) (pss_one (ps_set (i := 4) sc_law_alphabet.nd rfl (by first | exact Or.inl rfl | exact Or.inr rfl) (pe_op op_addS (pv 4) (pe_ix ix_str (pv 2) (pv 3) (fun _ _ => rfl))))))) (pss_one (ps_ret (pv 4))))))), ?_⟩
  refine Call.body h rfl fun G0_ H0_ => ?_
  have hpre_ := hpre; unfold pre_law_alphabet at hpre_
  show Do _ _ ⟨[va (Adr.mk state), va many, none, none, none, none], [(state, stC false)]⟩ _
  refine do_seq (do_asg (i := 2) ev_str fun (signs : Str) h_signs => ?_)
  show Do _ _ ⟨[va (Adr.mk state), va many, va signs, none, none, none], [(state, stC false)]⟩ _
  refine do_seq (do_asg (i := 3) (ev_call1 (W := (fun _ _ _ _ => False)) (k := 0) (c := stC false) (P' := (fun (z_ : Int) => post_law_next state ((26 : Int) - ((6 : Int) * (many - (1 : Int)))) z_)) rfl rfl rfl (fun _ => False) (ea_consD (ev_var (i := 0) rfl) (ea_consD (ev_opD ev_int (ev_opD ev_int (ev_opD (ev_var (i := 1) rfl) ev_int r2_sub) (r2_mul (by walk_at "fsc"))) r2_sub) ea_nil)) (fun ss_ hs_ us_ H_ Q_ E_ h_ => by obtain rfl := hs_; exact ⟨state, ((26 : Int) - ((6 : Int) * (many - (1 : Int)))), (by walk_at "fsc"), Call.imp h_ (fun r_ c_ hq_ => hq_) (fun x_ c_ hq_ => hq_)⟩) (fun x_ hx_ => hx_.elim)) fun (at_ : Int) h_at_ => ?_)
  show Do _ _ ⟨[va (Adr.mk state), va many, va signs, va at_, none, none], [(state, stC false)]⟩ _
  refine do_seq (do_asg (i := 4) (ev_opD (ev_var (i := 2) rfl) (ev_var (i := 3) rfl) (r2_ixSp (by rw [h_signs, abc_len]; decide) (by rw [h_signs, abc_len]; have h1 := h_at_.1; have h2 := h_at_.2; omega))) fun (told : Str) h_told => ?_)
  show Do _ _ ⟨[va (Adr.mk state), va many, va signs, va at_, va told, none], [(state, stC false)]⟩ _
  refine do_seq (do_forW (ei_rng1 (ea_consD (ev_opD (ev_var (i := 1) rfl) ev_int r2_sub) ea_nil) (by walk_at "fsc") (by walk_at "fsc")) eg_name (fun (pre : List Int) e_ => ∃ (at_ : Int) (to : Str), (AlphI many pre.length at_ to) ∧ e_ = ⟨[va (Adr.mk state), va many, va signs, va at_, va to, none], [(state, stC false)]⟩) ?_ ?_ ?_)
  ·
    refine ⟨⟨[va (Adr.mk state), va many, va signs, va _, va _, none], [(state, stC false)]⟩, ⟨⟨Or.inr rfl, ⟨Or.inr rfl, ⟨Or.inr rfl, ⟨Or.inr rfl, ⟨Or.inr rfl, ⟨Or.inl rfl, trivial⟩⟩⟩⟩⟩⟩, (.cons₂ _ .slnil)⟩, _, _, ?_, rfl⟩
    · -- vc 0
      exact alphI_0 h_signs hpre_ h_at_ h_told
  ·
    rintro pre k post e_ hsplit ⟨at_, to, hI, rfl⟩
    have hlen_hsplit := congrArg List.length hsplit; simp only [List.length_append, List.length_cons, List.length_nil, List.length_map, signs_len, rngI_len, enumI_len, keysD_len] at hlen_hsplit
    have hrng_hsplit := rng_split hsplit
    show Do _ _ ⟨[va (Adr.mk state), va many, va signs, va at_, va to, va k], [(state, stC false)]⟩ _
    refine do_seq (do_asg (i := 3) (ev_op (P'' := (fun (z_ : Int) => ∃ (r1 : Int), post_law_next state (6 : Int) r1 ∧ z_ = ((at_ + (1 : Int)) + r1))) (ev_opD (ev_var (i := 3) rfl) ev_int r2_add) (fun x_ hx_ => (Ev.mono (P' := (fun (z_ : Int) => ∃ (r1 : Int), post_law_next state (6 : Int) r1 ∧ z_ = r1)) (ev_call1 (W := (fun _ _ _ _ => False)) (k := 0) (c := stC false) (P' := (fun (z_ : Int) => post_law_next state (6 : Int) z_)) rfl rfl rfl (fun _ => False) (ea_consD (ev_var (i := 0) rfl) (ea_consD ev_int ea_nil)) (fun ss_ hs_ us_ H_ Q_ E_ h_ => by obtain rfl := hs_; exact ⟨state, (6 : Int), (by walk_at "fsc"), Call.imp h_ (fun r_ c_ hq_ => hq_) (fun x_ c_ hq_ => hq_)⟩) (fun x_ hx_ => hx_.elim)) (fun z_ hz_ => ⟨z_, hz_, rfl⟩))) (fun x_ y_ hx_ hy_ => by rw [hx_]; obtain ⟨r1, hc_r1, hy_⟩ := hy_; rw [hy_]; exact R2V.mono r2_add fun z_ hz_ => ⟨r1, hc_r1, hz_⟩)) fun (at_1 : Int) h_at_1 => ?_)
    obtain ⟨r1, hc_r1, h_at_1⟩ := h_at_1
    show Do _ _ ⟨[va (Adr.mk state), va many, va signs, va at_1, va to, va k], [(state, stC false)]⟩ _
    refine do_asg (i := 4) (ev_opD (ev_var (i := 4) rfl) (ev_opD (ev_var (i := 2) rfl) (ev_var (i := 3) rfl) (r2_ixSp (by rw [h_signs, abc_len]; decide) (by rw [h_signs, abc_len]; have h1 := hI.2.2.2.1; have h2 := hI.2.2.2.2; have h3 := hc_r1.1; have h4 := hc_r1.2; omega))) (r2_addS (by rw [sgnAt_len]; have h1 := hI.1; omega))) fun (told1 : Str) h_told1 => ?_
    refine ⟨⟨[va (Adr.mk state), va many, va signs, va _, va _, none], [(state, stC false)]⟩, ⟨⟨Or.inr rfl, ⟨Or.inr rfl, ⟨Or.inr rfl, ⟨Or.inr rfl, ⟨Or.inr rfl, ⟨Or.inl rfl, trivial⟩⟩⟩⟩⟩⟩, (.cons₂ _ .slnil)⟩, _, _, ?_, rfl⟩
    · -- vc 1
      rw [h_told1, h_at_1, List.length_append, List.length_singleton]; exact alphI_step h_signs (by omega) hI hc_r1
  ·
    rintro e_ ⟨at_, to, hI, rfl⟩
    show Do _ _ ⟨[va (Adr.mk state), va many, va signs, va at_, va to, none], [(state, stC false)]⟩ _
    refine do_ret (ev_var (i := 4) rfl) fun z h_ret => ?_
    refine ⟨_, (.cons₂ _ .slnil), rfl, ?_⟩
    · -- vc 2
      rw [rngI_len] at hI; rw [h_ret]; exact alphI_end hpre_ hI

end
end LL

namespace LL
open PySem L2 Fw Lm
local macro_rules | `(tactic| walk_at "fsc") => `(tactic| first | omega | assumption | exact True.intro | exact sgn_split (by assumption) | exact sgn_split2 (by assumption) | (intros; omega) | (with_reducible exact emod_both (by omega)) | (simp only [Bool.not_eq_true', Bool.not_eq_false', decide_eq_true_eq, decide_eq_false_iff_not, Bool.or_eq_false_iff, Bool.and_eq_true, List.length_cons, List.length_nil, List.length_append, List.length_cons, List.length_nil, List.length_map, signs_len, rngI_len, enumI_len, keysD_len, pre_check_letters, post_check_letters, pre_check_word, post_check_word, pre_order_key, post_order_key, pre_in_order, post_in_order, pre_check_words, post_check_words, pre_Sample___init, post_Sample___init, pre_written, post_written, pre_word_of, post_word_of, pre_are_letters, post_are_letters, pre_sample_text, post_sample_text, pre_read_sample, post_read_sample, pre_law_start, pre_law_next, post_law_next, pre_law_integer, post_law_integer, pre_law_alphabet, post_law_alphabet, pre_law_word, post_law_word, pre_law_ordered, post_law_ordered, pre_law_text, post_law_text, pre_law_good_letters, post_law_good_letters, pre_law_read, post_law_read, pre_law_words_are, post_law_words_are, pre_law_reads, post_law_reads, pre_law_word_at, post_law_word_at, pre_law_climbing, post_law_climbing, pre_law_spoilt, post_law_spoilt, pre_law_large, post_law_large, pre_law, post_law] at *; first | omega | assumption | (refine ⟨?_, ?_⟩ <;> first | omega | assumption) | (refine ⟨?_, ?_, ?_⟩ <;> first | omega | assumption)) | (have hl_ := congrArg List.length hs_; simp only [List.length_append, List.length_cons, List.length_nil, List.length_map, signs_len, rngI_len, enumI_len, keysD_len] at hl_; omega) | (have hr_ := rng_split hs_; omega) | exact (by decide : 1 ≤ (" " : Str).length) | exact (by decide : 1 ≤ ("\n" : Str).length) | exact rfl)
local macro_rules | `(tactic| walk_at "fvc") => `(tactic| first | rfl | exact True.intro | assumption | omega)
local macro_rules | `(tactic| walk_at "fxp") => `(tactic| first | exact hx_ | assumption)
local macro_rules | `(tactic| walk_at "frs") => `(tactic| first | assumption)

section
variable {P : Program} {w : World} {K : PySem.W.Frag} {mg : Str → Option Value} {base : Heap} {A : Ad}
abbrev s_law_climbing : Stmt := topS 38
abbrev N_law_climbing : List Str := ["state", "letters", "many", "last", "words", "number", "k"]
theorem sc_law_climbing : FnScope N_law_climbing ["state", "letters", "many", "last"] (defScope s_law_climbing) := ⟨rfl, rfl, rfl, by decide +kernel, rfl, by decide +kernel, by decide +kernel⟩
set_option maxHeartbeats 4000000 in
theorem ok_law_climbing (T : Tx K mg A) (h_law_next : Cal P w K mg base 1 A.law_next "_law_next" ["state", "many"] (sp_law_next K)) (h_law_word : Cal P w K mg base 2 A.law_word "_law_word" ["state", "letters", "size"] (sp_law_word K)) (h_law_word_at : Cal P w K mg base 1 A.law_word_at "_law_word_at" ["letters", "number"] (sp_law_word_at K)) {fd : FuncData} (F : Fun K "_law_climbing" "_law_climbing" s_law_climbing A.law_climbing fd) : FnOk P w K mg base (L2N.CX P w) 3 A.law_climbing fd ["state", "letters", "many", "last"] (sp_law_climbing K) := by
  refine okN F sc_law_climbing (fun us H Q E ⟨state, letters, many, last, hpre, h⟩ => h.len) (fun cdv A_ outer s_ H us Q E hr ⟨state, letters, many, last, hpre, h⟩ => ?_)
  refine ⟨_, (pss_cons (ps_set (i := 4) sc_law_climbing.nd rfl (by first | exact Or.inl rfl | exact Or.inr rfl) (pe_lst pa_nil)) (pss_cons (ps_set (i := 5) sc_law_climbing.nd rfl (by first | exact Or.inl rfl | exact Or.inr rfl) (pe_cal (W := (fun _ _ _ _ => False)) h_law_next (hr.mono (by decide)) takes0N (pa_cons (pv 0) (pa_cons pe_int pa_nil)))) (pss_cons (ps_for (passes_of rfl) rfl (pi_range1 (by rfl) T.m_range (pa_cons (pv 2) pa_nil)) (pg_name (i := 6) sc_law_climbing.nd rfl (by first | exact Or.inl rfl | exact Or.inr rfl)) (pss_cons (ps_expr (pe_bm PySem.F.plainAttrs_list PySem.F.slot_list_append PySem.F.type_list_append mt_append (pv 4) (pa_cons (pe_cal (W := (fun _ _ _ _ => False)) h_law_word_at (hr.mono (by decide)) takes0N (pa_cons (pv 1) (pa_cons (pv 5) pa_nil))) pa_nil))) (pss_one (ps_set (i := 5) sc_law_climbing.nd rfl (by first | exact Or.inl rfl | exact Or.inr rfl) (pe_op op_add (pe_op op_add (pv 5) pe_int) (pe_cal (W := (fun _ _ _ _ => False)) h_law_next (hr.mono (by decide)) takes0N (pa_cons (pv 0) (pa_cons pe_int pa_nil)))))))) (pss_cons (ps_if (pt_cmpR op_gt (pv 3) pe_int (nomark _)) (pss_one (ps_set (i := 4) sc_law_climbing.nd rfl (by first | exact Or.inl rfl | exact Or.inr rfl) (pe_op op_cat (pe_slice sl_list (pv 4) (po_some pe_int) po_none) (pe_lst (pa_cons (pe_cal (W := (fun _ _ _ _ => False)) h_law_word (hr.mono (by decide)) takes0N (pa_cons (pv 0) (pa_cons (pv 1) (pa_cons (pv 3) pa_nil)))) pa_nil))))) pss_nil) (pss_one (ps_ret (pv 4))))))), ?_⟩
  refine Call.body h rfl fun G0_ H0_ => ?_
  have hpre_ := hpre; unfold pre_law_climbing at hpre_
  show Do _ _ ⟨[va (Adr.mk state), va letters, va many, va last, none, none, none], [(state, stC false)]⟩ _
  refine do_seq (do_asgL (i := 4) (evl_lstD (xs := ([] : List Str)) ea_nil (by simp)) fun a_words words h_words => ?_)
  show Do _ _ ⟨[va (Adr.mk state), va letters, va many, va last, va (Adr.mk a_words), none, none], [(a_words, ownL words), (state, stC false)]⟩ _
  refine do_seq (do_asg (i := 5) (ev_call1 (W := (fun _ _ _ _ => False)) (k := 1) (c := stC false) (P' := (fun (z_ : Int) => post_law_next state (40 : Int) z_)) rfl rfl rfl (fun _ => False) (ea_consD (ev_var (i := 0) rfl) (ea_consD ev_int ea_nil)) (fun ss_ hs_ us_ H_ Q_ E_ h_ => by obtain rfl := hs_; exact ⟨state, (40 : Int), (by walk_at "fsc"), Call.imp h_ (fun r_ c_ hq_ => hq_) (fun x_ c_ hq_ => hq_)⟩) (fun x_ hx_ => hx_.elim)) fun (number : Int) h_number => ?_)
  show Do _ _ ⟨[va (Adr.mk state), va letters, va many, va last, va (Adr.mk a_words), va number, none], [(a_words, ownL words), (state, stC false)]⟩ _
  refine do_seq (do_forW (ei_rng1 (ea_consD (ev_var (i := 2) rfl) ea_nil) (by walk_at "fsc") (by walk_at "fsc")) eg_name (fun (pre : List Int) e_ => ∃ (ws : List Str) (nu : Int), (ws.length = pre.length) ∧ (∀ w ∈ ws, w.length ≤ 40) ∧ e_ = ⟨[va (Adr.mk state), va letters, va many, va last, va (Adr.mk a_words), va nu, none], [(a_words, ownL ws), (state, stC false)]⟩) ?_ ?_ ?_)
  ·
    refine ⟨⟨[va (Adr.mk state), va letters, va many, va last, va (Adr.mk a_words), va _, none], [(a_words, ownL _), (state, stC false)]⟩, ⟨⟨Or.inr rfl, ⟨Or.inr rfl, ⟨Or.inr rfl, ⟨Or.inr rfl, ⟨Or.inr rfl, ⟨Or.inr rfl, ⟨Or.inl rfl, trivial⟩⟩⟩⟩⟩⟩⟩, (.cons₂ _ (.cons₂ _ .slnil))⟩, _, _, ?_, ?_, rfl⟩
    · -- vc 0
      rw [h_words]; rfl
    · -- vc 1
      rw [h_words]; simp
  ·
    rintro pre k post e_ hsplit ⟨ws, nu, hI, hJ, rfl⟩
    have hlen_hsplit := congrArg List.length hsplit; simp only [List.length_append, List.length_cons, List.length_nil, List.length_map, signs_len, rngI_len, enumI_len, keysD_len] at hlen_hsplit
    have hrng_hsplit := rng_split hsplit
    show Do _ _ ⟨[va (Adr.mk state), va letters, va many, va last, va (Adr.mk a_words), va nu, va k], [(a_words, ownL ws), (state, stC false)]⟩ _
    refine do_seq (do_append (k := 0) rfl (ev_var (i := 4) rfl) (Ev.mono (P' := (fun (z_ : Str) => ∃ (r1 : Str), post_law_word_at letters nu r1 ∧ z_ = r1)) (ev_callP (W := (fun _ _ _ _ => False)) (P' := (fun (z_ : Str) => post_law_word_at letters nu z_)) (fun _ => False) (ea_consD (ev_var (i := 1) rfl) (ea_consD (ev_var (i := 5) rfl) ea_nil)) (fun ss_ hs_ us_ H_ Q_ E_ h_ => by obtain rfl := hs_; exact ⟨letters, nu, (by walk_at "fsc"), Call.imp h_ (fun r_ c_ hq_ => hq_) (fun x_ c_ hq_ => hq_)⟩) (fun x_ hx_ => hx_.elim)) (fun z_ hz_ => ⟨z_, hz_, rfl⟩)) (by walk_at "fsc") fun (y : Str) h_y => ?_)
    obtain ⟨r1, hc_r1, h_y⟩ := h_y
    show Do _ _ ⟨[va (Adr.mk state), va letters, va many, va last, va (Adr.mk a_words), va nu, va k], [(a_words, ownL (ws ++ [y])), (state, stC false)]⟩ _
    refine do_asg (i := 5) (ev_op (P'' := (fun (z_ : Int) => ∃ (r2 : Int), post_law_next state (4 : Int) r2 ∧ z_ = ((nu + (1 : Int)) + r2))) (ev_opD (ev_var (i := 5) rfl) ev_int r2_add) (fun x_ hx_ => (Ev.mono (P' := (fun (z_ : Int) => ∃ (r2 : Int), post_law_next state (4 : Int) r2 ∧ z_ = r2)) (ev_call1 (W := (fun _ _ _ _ => False)) (k := 1) (c := stC false) (P' := (fun (z_ : Int) => post_law_next state (4 : Int) z_)) rfl rfl rfl (fun _ => False) (ea_consD (ev_var (i := 0) rfl) (ea_consD ev_int ea_nil)) (fun ss_ hs_ us_ H_ Q_ E_ h_ => by obtain rfl := hs_; exact ⟨state, (4 : Int), (by walk_at "fsc"), Call.imp h_ (fun r_ c_ hq_ => hq_) (fun x_ c_ hq_ => hq_)⟩) (fun x_ hx_ => hx_.elim)) (fun z_ hz_ => ⟨z_, hz_, rfl⟩))) (fun x_ y_ hx_ hy_ => by rw [hx_]; obtain ⟨r2, hc_r2, hy_⟩ := hy_; rw [hy_]; exact R2V.mono r2_add fun z_ hz_ => ⟨r2, hc_r2, hz_⟩)) fun (number1 : Int) h_number1 => ?_
    obtain ⟨r2, hc_r2, h_number1⟩ := h_number1
    refine ⟨⟨[va (Adr.mk state), va letters, va many, va last, va (Adr.mk a_words), va _, none], [(a_words, ownL _), (state, stC false)]⟩, ⟨⟨Or.inr rfl, ⟨Or.inr rfl, ⟨Or.inr rfl, ⟨Or.inr rfl, ⟨Or.inr rfl, ⟨Or.inr rfl, ⟨Or.inl rfl, trivial⟩⟩⟩⟩⟩⟩⟩, (.cons₂ _ (.cons₂ _ .slnil))⟩, _, _, ?_, ?_, rfl⟩
    · -- vc 2
      rw [List.length_append, List.length_append, hI]; rfl
    · -- vc 3
      intro w hw
      rcases List.mem_append.mp hw with hw | hw
      · exact hJ w hw
      · rw [List.mem_singleton.mp hw, h_y]; exact hc_r1
  ·
    rintro e_ ⟨ws, nu, hI, hJ, rfl⟩
    show Do _ _ ⟨[va (Adr.mk state), va letters, va many, va last, va (Adr.mk a_words), va nu, none], [(a_words, ownL ws), (state, stC false)]⟩ _
    refine do_seq (do_ifD (et_test (ev_opD (ev_var (i := 3) rfl) ev_int r2_gt)) (fun h_if => ?_) (fun h_if => ?_))
    ·
      refine do_freeze (k := 0) (j := 4) rfl rfl ?_
      show Do _ _ ⟨[va (Adr.mk state), va letters, va many, va last, va ws, va nu, none], [(state, stC false)]⟩ _
      refine do_asgL (i := 4) (evl_catX (P := (fun (z_ : (List Str)) => ∃ (r3 : Str), post_law_word state letters last r3 ∧ z_ = ((cutL ws (some (1 : Int)) none) ++ ([r3] : List Str)))) (evl_val (evl_slL (ev_var (i := 4) rfl) (eo_some ev_int) eo_none)) (fun x_ hx_ => (evl_val (evl_lst (P := (fun (z_ : (List Str)) => ∃ (r3 : Str), post_law_word state letters last r3 ∧ z_ = ([r3] : List Str))) (EvA.mono (P' := (fun ss_ => ∃ (r3 : Str), post_law_word state letters last r3 ∧ ss_ = [vs r3])) (ea_cons (Ev.mono (P' := (fun (z_ : Str) => ∃ (r3 : Str), post_law_word state letters last r3 ∧ z_ = r3)) (ev_call1 (W := (fun _ _ _ _ => False)) (k := 0) (c := stC false) (P' := (fun (z_ : Str) => post_law_word state letters last z_)) rfl rfl rfl (fun _ => False) (ea_consD (ev_var (i := 0) rfl) (ea_consD (ev_var (i := 1) rfl) (ea_consD (ev_var (i := 3) rfl) ea_nil))) (fun ss_ hs_ us_ H_ Q_ E_ h_ => by obtain rfl := hs_; exact ⟨state, letters, last, (by walk_at "fsc"), Call.imp h_ (fun r_ c_ hq_ => hq_) (fun x_ c_ hq_ => hq_)⟩) (fun x_ hx_ => hx_.elim)) (fun z_ hz_ => ⟨z_, hz_, rfl⟩)) (fun x_ hx_ => ea_nil)) (fun ss_ h_ => by obtain ⟨x_, r_, hx_, hr_, rfl⟩ := h_; obtain ⟨r3, hc_r3, hx_⟩ := hx_; rw [hx_]; obtain rfl := hr_; exact ⟨r3, hc_r3, rfl⟩)) (fun ss_ hs_ => by obtain ⟨r3, hc_r3, rfl⟩ := hs_; exact ⟨([r3] : List Str), ⟨r3, hc_r3, rfl⟩, rfl, by simp⟩)))) (fun x_ y_ hx_ hy_ => by rw [hx_]; obtain ⟨r3, hc_r3, hy_⟩ := hy_; rw [hy_]; exact ⟨(by rw [cutL_1, List.length_drop]; rw [rngI_len] at hI; simp; omega), ⟨r3, hc_r3, rfl⟩⟩)) fun a_words1 words1 h_words1 => ?_
      obtain ⟨r3, hc_r3, h_words1⟩ := h_words1
      show Do _ _ ⟨[va (Adr.mk state), va letters, va many, va last, va (Adr.mk a_words1), va nu, none], [(a_words1, ownL words1), (state, stC false)]⟩ _
      refine do_freeze (k := 0) (j := 4) rfl rfl ?_
      show Do _ _ ⟨[va (Adr.mk state), va letters, va many, va last, va words1, va nu, none], [(state, stC false)]⟩ _
      refine do_ret (ev_var (i := 4) rfl) fun z h_ret => ?_
      refine ⟨_, (.cons₂ _ .slnil), rfl, ?_⟩
      · -- vc 4
        rw [h_ret, h_words1]; rw [rngI_len] at hI
        refine ⟨by rw [List.length_append, cutL_1, List.length_drop]; simp; omega, fun w hw => ?_⟩
        rcases List.mem_append.mp hw with hw | hw
        · rw [cutL_1] at hw; exact hJ w (List.mem_of_mem_drop hw)
        · rw [List.mem_singleton.mp hw]; have h1 := hc_r3.1; omega
    ·
      refine do_next ?_
      show Do _ _ ⟨[va (Adr.mk state), va letters, va many, va last, va (Adr.mk a_words), va nu, none], [(a_words, ownL ws), (state, stC false)]⟩ _
      refine do_freeze (k := 0) (j := 4) rfl rfl ?_
      show Do _ _ ⟨[va (Adr.mk state), va letters, va many, va last, va ws, va nu, none], [(state, stC false)]⟩ _
      refine do_ret (ev_var (i := 4) rfl) fun z h_ret => ?_
      refine ⟨_, (.cons₂ _ .slnil), rfl, ?_⟩
      · -- vc 5
        rw [h_ret]; rw [rngI_len] at hI; exact ⟨by omega, hJ⟩

end
end LL

namespace LL
open PySem L2 Fw Lm
local macro_rules | `(tactic| walk_at "fsc") => `(tactic| first | omega | assumption | exact True.intro | exact sgn_split (by assumption) | exact sgn_split2 (by assumption) | (intros; omega) | (with_reducible exact emod_both (by omega)) | (simp only [Bool.not_eq_true', Bool.not_eq_false', decide_eq_true_eq, decide_eq_false_iff_not, Bool.or_eq_false_iff, Bool.and_eq_true, List.length_cons, List.length_nil, List.length_append, List.length_cons, List.length_nil, List.length_map, signs_len, rngI_len, enumI_len, keysD_len, pre_check_letters, post_check_letters, pre_check_word, post_check_word, pre_order_key, post_order_key, pre_in_order, post_in_order, pre_check_words, post_check_words, pre_Sample___init, post_Sample___init, pre_written, post_written, pre_word_of, post_word_of, pre_are_letters, post_are_letters, pre_sample_text, post_sample_text, pre_read_sample, post_read_sample, pre_law_start, pre_law_next, post_law_next, pre_law_integer, post_law_integer, pre_law_alphabet, post_law_alphabet, pre_law_word, post_law_word, pre_law_ordered, post_law_ordered, pre_law_text, post_law_text, pre_law_good_letters, post_law_good_letters, pre_law_read, post_law_read, pre_law_words_are, post_law_words_are, pre_law_reads, post_law_reads, pre_law_word_at, post_law_word_at, pre_law_climbing, post_law_climbing, pre_law_spoilt, post_law_spoilt, pre_law_large, post_law_large, pre_law, post_law] at *; first | omega | assumption | (refine ⟨?_, ?_⟩ <;> first | omega | assumption) | (refine ⟨?_, ?_, ?_⟩ <;> first | omega | assumption)) | (have hl_ := congrArg List.length hs_; simp only [List.length_append, List.length_cons, List.length_nil, List.length_map, signs_len, rngI_len, enumI_len, keysD_len] at hl_; omega) | (have hr_ := rng_split hs_; omega) | exact (by decide : 1 ≤ (" " : Str).length) | exact (by decide : 1 ≤ ("\n" : Str).length) | exact rfl)
local macro_rules | `(tactic| walk_at "fvc") => `(tactic| first | rfl | exact True.intro | assumption | omega)
local macro_rules | `(tactic| walk_at "fxp") => `(tactic| first | exact hx_ | assumption)
local macro_rules | `(tactic| walk_at "frs") => `(tactic| first | assumption)

section
variable {P : Program} {w : World} {K : PySem.W.Frag} {mg : Str → Option Value} {base : Heap} {A : Ad}
abbrev s_law_good_letters : Stmt := topS 33
abbrev N_law_good_letters : List Str := ["text", "before", "sign"]
theorem sc_law_good_letters : FnScope N_law_good_letters ["text"] (defScope s_law_good_letters) := ⟨rfl, rfl, rfl, by decide +kernel, rfl, by decide +kernel, by decide +kernel⟩
set_option maxHeartbeats 4000000 in
theorem ok_law_good_letters (T : Tx K mg A)  {fd : FuncData} (F : Fun K "_law_good_letters" "_law_good_letters" s_law_good_letters A.law_good_letters fd) : FnOk P w K mg base (L2N.CX P w) 1 A.law_good_letters fd ["text"] (sp_law_good_letters K) := by
  refine okN F sc_law_good_letters (fun us H Q E ⟨text, hpre, h⟩ => h.len) (fun cdv A_ outer s_ H us Q E hr ⟨text, hpre, h⟩ => ?_)
  refine ⟨_, (pss_cons (ps_if (PW.pt (pw_or (pt_cmpR op_lt (pe_callB cr_lenT (by rfl) T.m_len bb_len (pa_cons (pv 0) pa_nil)) pe_int (nomark _)) (pw_or1 (pt_cmpR op_gt (pe_callB cr_lenT (by rfl) T.m_len bb_len (pa_cons (pv 0) pa_nil)) pe_int (nomark _))))) (pss_one (ps_ret pe_bl)) pss_nil) (pss_cons (ps_set (i := 1) sc_law_good_letters.nd rfl (by first | exact Or.inl rfl | exact Or.inr rfl) pe_str) (pss_cons (ps_for (passes_of rfl) rfl (pi_str (pv 0)) (pg_name (i := 2) sc_law_good_letters.nd rfl (by first | exact Or.inl rfl | exact Or.inr rfl)) (pss_cons (ps_if (PW.pt (pw_or (pt_cmpR op_niG (pv 2) pe_str rfl) (pw_or1 (pt_cmpR op_leS (pv 2) (pv 1) (nomark _))))) (pss_one (ps_ret pe_bl)) pss_nil) (pss_one (ps_set (i := 1) sc_law_good_letters.nd rfl (by first | exact Or.inl rfl | exact Or.inr rfl) (pv 2))))) (pss_one (ps_ret pe_bl))))), ?_⟩
  refine Call.body (sl := [va text, none, none]) h rfl fun G0_ H0_ => ?_
  have hpre_ := hpre; unfold pre_law_good_letters at hpre_
  show Do _ _ ⟨[va text, none, none], []⟩ _
  refine do_seq (do_ifD (et_orD (et_test (ev_opD (ev_cbD (ea_consD (ev_var (i := 0) rfl) ea_nil) (rc_lenT (by walk_at "fsc"))) ev_int r2_lt)) (fun hb => (et_test (ev_opD (ev_cbD (ea_consD (ev_var (i := 0) rfl) ea_nil) (rc_lenT (by walk_at "fsc"))) ev_int r2_gt)))) (fun h_if => ?_) (fun h_if => ?_))
  ·
    refine do_ret ev_bl fun z h_ret => ?_
    refine ⟨_, .slnil, rfl, ?_⟩
    · -- vc 0
      rw [h_ret]; exact (decide_eq_false fun g => by have h1 := g.1; have h2 := g.2.1; simp at h_if; omega).symm
  ·
    refine do_next ?_
    show Do _ _ ⟨[va text, none, none], []⟩ _
    refine do_seq (do_asg (i := 1) ev_str fun (before : Str) h_before => ?_)
    show Do _ _ ⟨[va text, va before, none], []⟩ _
    refine do_seq (do_forW (ei_str (ev_var (i := 0) rfl)) eg_name (fun (pre : List Str) e_ => ∃ (b : Str), (LetI pre b) ∧ e_ = ⟨[va text, va b, none], []⟩) ?_ ?_ ?_)
    ·
      refine ⟨⟨[va text, va _, none], []⟩, ⟨⟨Or.inr rfl, ⟨Or.inr rfl, ⟨Or.inl rfl, trivial⟩⟩⟩, .slnil⟩, _, ?_, rfl⟩
      · -- vc 1
        exact letI_nil h_before
    ·
      rintro pre x post e_ hsplit ⟨b, hI, rfl⟩
      have hlen_hsplit := congrArg List.length hsplit; simp only [List.length_append, List.length_cons, List.length_nil, List.length_map, signs_len, rngI_len, enumI_len, keysD_len] at hlen_hsplit
      show Do _ _ ⟨[va text, va b, va x], []⟩ _
      refine do_seq (do_ifD (et_orD (et_test (ev_opD (ev_var (i := 2) rfl) ev_str (r2_niG (by walk_at "fsc")))) (fun hb2 => (et_test (ev_opD (ev_var (i := 2) rfl) (ev_var (i := 1) rfl) r2_leS)))) (fun h_if1 => ?_) (fun h_if1 => ?_))
      ·
        refine do_ret ev_bl fun z h_ret => ?_
        refine ⟨_, .slnil, rfl, ?_⟩
        · -- vc 2
          rw [h_ret]; exact (decide_eq_false (letI_bad hsplit hI h_if1)).symm
      ·
        refine do_next ?_
        show Do _ _ ⟨[va text, va b, va x], []⟩ _
        refine do_asg (i := 1) (ev_var (i := 2) rfl) fun (before1 : Str) h_before1 => ?_
        refine ⟨⟨[va text, va _, none], []⟩, ⟨⟨Or.inr rfl, ⟨Or.inr rfl, ⟨Or.inl rfl, trivial⟩⟩⟩, .slnil⟩, _, ?_, rfl⟩
        · -- vc 3
          rw [h_before1]; exact letI_step (sgn_split hsplit) hI h_if1
    ·
      rintro e_ ⟨b, hI, rfl⟩
      show Do _ _ ⟨[va text, va b, none], []⟩ _
      refine do_ret ev_bl fun z h_ret => ?_
      refine ⟨_, .slnil, rfl, ?_⟩
      · -- vc 4
        rw [h_ret]; exact (decide_eq_true (letI_end h_if hI)).symm

end
end LL

namespace LL
open PySem L2 Fw Lm
local macro_rules | `(tactic| walk_at "fsc") => `(tactic| first | omega | assumption | exact True.intro | exact sgn_split (by assumption) | exact sgn_split2 (by assumption) | (intros; omega) | (with_reducible exact emod_both (by omega)) | (simp only [Bool.not_eq_true', Bool.not_eq_false', decide_eq_true_eq, decide_eq_false_iff_not, Bool.or_eq_false_iff, Bool.and_eq_true, List.length_cons, List.length_nil, List.length_append, List.length_cons, List.length_nil, List.length_map, signs_len, rngI_len, enumI_len, keysD_len, pre_check_letters, post_check_letters, pre_check_word, post_check_word, pre_order_key, post_order_key, pre_in_order, post_in_order, pre_check_words, post_check_words, pre_Sample___init, post_Sample___init, pre_written, post_written, pre_word_of, post_word_of, pre_are_letters, post_are_letters, pre_sample_text, post_sample_text, pre_read_sample, post_read_sample, pre_law_start, pre_law_next, post_law_next, pre_law_integer, post_law_integer, pre_law_alphabet, post_law_alphabet, pre_law_word, post_law_word, pre_law_ordered, post_law_ordered, pre_law_text, post_law_text, pre_law_good_letters, post_law_good_letters, pre_law_read, post_law_read, pre_law_words_are, post_law_words_are, pre_law_reads, post_law_reads, pre_law_word_at, post_law_word_at, pre_law_climbing, post_law_climbing, pre_law_spoilt, post_law_spoilt, pre_law_large, post_law_large, pre_law, post_law] at *; first | omega | assumption | (refine ⟨?_, ?_⟩ <;> first | omega | assumption) | (refine ⟨?_, ?_, ?_⟩ <;> first | omega | assumption)) | (have hl_ := congrArg List.length hs_; simp only [List.length_append, List.length_cons, List.length_nil, List.length_map, signs_len, rngI_len, enumI_len, keysD_len] at hl_; omega) | (have hr_ := rng_split hs_; omega) | exact (by decide : 1 ≤ (" " : Str).length) | exact (by decide : 1 ≤ ("\n" : Str).length) | exact rfl)
local macro_rules | `(tactic| walk_at "fvc") => `(tactic| first | rfl | exact True.intro | assumption | omega)
local macro_rules | `(tactic| walk_at "fxp") => `(tactic| first | exact hx_ | assumption)
local macro_rules | `(tactic| walk_at "frs") => `(tactic| first | assumption)

section
variable {P : Program} {w : World} {K : PySem.W.Frag} {mg : Str → Option Value} {base : Heap} {A : Ad}
abbrev s_law_integer : Stmt := topS 28
abbrev N_law_integer : List Str := ["actual"]
theorem sc_law_integer : FnScope N_law_integer ["actual"] (defScope s_law_integer) := ⟨rfl, rfl, rfl, by decide +kernel, rfl, by decide +kernel, by decide +kernel⟩
set_option maxHeartbeats 4000000 in
theorem ok_law_integer (T : Tx K mg A)  {fd : FuncData} (F : Fun K "_law_integer" "_law_integer" s_law_integer A.law_integer fd) : FnOk P w K mg base (L2N.CX P w) 1 A.law_integer fd ["actual"] (sp_law_integer K) := by
  refine okN F sc_law_integer (fun us H Q E ⟨actual, hpre, h⟩ => h.len) (fun cdv A_ outer s_ H us Q E hr ⟨actual, hpre, h⟩ => ?_)
  refine ⟨_, (pss_one (ps_ret (pe_and (pe_callB call_isi (by rfl) T.m_isinstance bb_isinstance (pa_cons (pv 0) (pa_cons (pe_bltn (v := .ty "int") (by rfl) T.m_int bb_int rfl) pa_nil))) (pe_one (pe_not (pe_callB call_isi (by rfl) T.m_isinstance bb_isinstance (pa_cons (pv 0) (pa_cons (pe_bltn (v := .ty "bool") (by rfl) T.m_bool bb_bool rfl) pa_nil)))))))), ?_⟩
  refine Call.body (sl := [va actual]) h rfl fun G0_ H0_ => ?_
  show Do _ _ ⟨[va actual], []⟩ _
  refine do_ret (ev_andD (isi_F (ty := "int") (c := "int") (b := true) (ev_var (i := 0) rfl) (fun _ => TyOf.int _) (by decide +kernel)) (fun hb => (ev_notD (isi_F (ty := "int") (c := "bool") (b := false) (ev_var (i := 0) rfl) (fun _ => TyOf.int _) (by decide +kernel))))) fun z h_ret => ?_
  refine ⟨_, .slnil, rfl, ?_⟩
  · walk_at "fvc"

set_option maxHeartbeats 4000000 in
theorem okH_law_integer (T : Tx K mg A)  {fd : FuncData} (F : Fun K "_law_integer" "_law_integer" s_law_integer A.law_integer fd) : FnE P w K mg base (L2N.CX P w) 1 A.law_integer fd ["actual"] (fun _ _ _ => sp_law_integer K) := by
  refine okE F sc_law_integer (fun _ _ _ us H Q E ⟨actual, hpre, h⟩ => h.len) (fun cdv A_ outer s_ H us Q E p_ c_ d_ hot_ hz_ hr ⟨actual, hpre, h⟩ => ?_)
  refine ⟨_, (pss_one (ps_ret (pe_and (pe_callB call_isi (by rfl) T.m_isinstance bb_isinstance (pa_cons (pv 0) (pa_cons (pe_bltn (v := .ty "int") (by rfl) T.m_int bb_int rfl) pa_nil))) (pe_one (pe_not (pe_callB call_isi (by rfl) T.m_isinstance bb_isinstance (pa_cons (pv 0) (pa_cons (pe_bltn (v := .ty "bool") (by rfl) T.m_bool bb_bool rfl) pa_nil)))))))), ?_⟩
  refine Call.body (sl := [va actual]) h rfl fun G0_ H0_ => ?_
  show Do _ _ ⟨[va actual], []⟩ _
  refine do_ret (ev_andD (isi_F (ty := "int") (c := "int") (b := true) (ev_var (i := 0) rfl) (fun _ => TyOf.int _) (by decide +kernel)) (fun hb => (ev_notD (isi_F (ty := "int") (c := "bool") (b := false) (ev_var (i := 0) rfl) (fun _ => TyOf.int _) (by decide +kernel))))) fun z h_ret => ?_
  refine ⟨_, .slnil, rfl, ?_⟩
  · walk_at "fvc"

end
end LL

namespace LL
open PySem L2 Fw Lm
local macro_rules | `(tactic| walk_at "fsc") => `(tactic| first | omega | assumption | exact True.intro | exact sgn_split (by assumption) | exact sgn_split2 (by assumption) | (intros; omega) | (with_reducible exact emod_both (by omega)) | (simp only [Bool.not_eq_true', Bool.not_eq_false', decide_eq_true_eq, decide_eq_false_iff_not, Bool.or_eq_false_iff, Bool.and_eq_true, List.length_cons, List.length_nil, List.length_append, List.length_cons, List.length_nil, List.length_map, signs_len, rngI_len, enumI_len, keysD_len, pre_check_letters, post_check_letters, pre_check_word, post_check_word, pre_order_key, post_order_key, pre_in_order, post_in_order, pre_check_words, post_check_words, pre_Sample___init, post_Sample___init, pre_written, post_written, pre_word_of, post_word_of, pre_are_letters, post_are_letters, pre_sample_text, post_sample_text, pre_read_sample, post_read_sample, pre_law_start, pre_law_next, post_law_next, pre_law_integer, post_law_integer, pre_law_alphabet, post_law_alphabet, pre_law_word, post_law_word, pre_law_ordered, post_law_ordered, pre_law_text, post_law_text, pre_law_good_letters, post_law_good_letters, pre_law_read, post_law_read, pre_law_words_are, post_law_words_are, pre_law_reads, post_law_reads, pre_law_word_at, post_law_word_at, pre_law_climbing, post_law_climbing, pre_law_spoilt, post_law_spoilt, pre_law_large, post_law_large, pre_law, post_law] at *; first | omega | assumption | (refine ⟨?_, ?_⟩ <;> first | omega | assumption) | (refine ⟨?_, ?_, ?_⟩ <;> first | omega | assumption)) | (have hl_ := congrArg List.length hs_; simp only [List.length_append, List.length_cons, List.length_nil, List.length_map, signs_len, rngI_len, enumI_len, keysD_len] at hl_; omega) | (have hr_ := rng_split hs_; omega) | exact (by decide : 1 ≤ (" " : Str).length) | exact (by decide : 1 ≤ ("\n" : Str).length) | exact rfl)
local macro_rules | `(tactic| walk_at "fvc") => `(tactic| first | rfl | exact True.intro | assumption | omega)
local macro_rules | `(tactic| walk_at "fxp") => `(tactic| first | exact hx_ | assumption)
local macro_rules | `(tactic| walk_at "frs") => `(tactic| first | assumption)

section
variable {P : Program} {w : World} {K : PySem.W.Frag} {mg : Str → Option Value} {base : Heap} {A : Ad}
abbrev s_law_large : Stmt := topS 40
abbrev N_law_large : List Str := ["state", "letters", "yes", "no"]
theorem sc_law_large : FnScope N_law_large ["state", "letters"] (defScope s_law_large) := ⟨rfl, rfl, rfl, by decide +kernel, rfl, by decide +kernel, by decide +kernel⟩
set_option maxHeartbeats 4000000 in
theorem ok_law_large (T : Tx K mg A) (h_law_climbing : Cal P w K mg base 3 A.law_climbing "_law_climbing" ["state", "letters", "many", "last"] (sp_law_climbing K)) (h_law_next : Cal P w K mg base 1 A.law_next "_law_next" ["state", "many"] (sp_law_next K)) (h_law_text : Cal P w K mg base 1 A.law_text "_law_text" ["letters", "yes", "no"] (sp_law_text K)) {fd : FuncData} (F : Fun K "_law_large" "_law_large" s_law_large A.law_large fd) : FnOk P w K mg base (L2N.CX P w) 4 A.law_large fd ["state", "letters"] (sp_law_large K) := by
  refine okN F sc_law_large (fun us H Q E ⟨state, letters, hpre, h⟩ => h.len) (fun cdv A_ outer s_ H us Q E hr ⟨state, letters, hpre, h⟩ => ?_)
  refine ⟨_, (pss_cons (ps_if (pt_cmpR op_lt (pe_callB cr_lenT (by rfl) T.m_len bb_len (pa_cons (pv 1) pa_nil)) pe_int (nomark _)) (pss_one (ps_set (i := 1) sc_law_large.nd rfl (by first | exact Or.inl rfl | exact Or.inr rfl) pe_str)) pss_nil) (pss_cons (ps_set (i := 2) sc_law_large.nd rfl (by first | exact Or.inl rfl | exact Or.inr rfl) (pe_cal (W := (fun _ _ _ _ => False)) h_law_climbing (hr.mono (by decide)) takes0N (pa_cons (pv 0) (pa_cons (pv 1) (pa_cons (pe_op op_add pe_int (pe_cal (W := (fun _ _ _ _ => False)) h_law_next (hr.mono (by decide)) takes0N (pa_cons (pv 0) (pa_cons pe_int pa_nil)))) (pa_cons (pe_op op_add pe_int (pe_cal (W := (fun _ _ _ _ => False)) h_law_next (hr.mono (by decide)) takes0N (pa_cons (pv 0) (pa_cons pe_int pa_nil)))) pa_nil)))))) (pss_cons (ps_set (i := 3) sc_law_large.nd rfl (by first | exact Or.inl rfl | exact Or.inr rfl) (pe_cal (W := (fun _ _ _ _ => False)) h_law_climbing (hr.mono (by decide)) takes0N (pa_cons (pv 0) (pa_cons (pv 1) (pa_cons (pe_ix ix_list (pe_lst (pa_cons pe_int (pa_cons pe_int (pa_cons pe_int (pa_cons pe_int (pa_cons pe_int pa_nil)))))) (pe_cal (W := (fun _ _ _ _ => False)) h_law_next (hr.mono (by decide)) takes0N (pa_cons (pv 0) (pa_cons pe_int pa_nil))) (fun _ _ => rfl)) (pa_cons (pe_op op_add pe_int (pe_cal (W := (fun _ _ _ _ => False)) h_law_next (hr.mono (by decide)) takes0N (pa_cons (pv 0) (pa_cons pe_int pa_nil)))) pa_nil)))))) (pss_one (ps_ret (pe_cal (W := (fun _ _ _ _ => False)) h_law_text (hr.mono (by decide)) takes0N (pa_cons (pv 1) (pa_cons (pv 2) (pa_cons (pv 3) pa_nil))))))))), ?_⟩
  refine Call.body h rfl fun G0_ H0_ => ?_
  have hpre_ := hpre; unfold pre_law_large at hpre_
  show Do _ _ ⟨[va (Adr.mk state), va letters, none, none], [(state, stC false)]⟩ _
  refine do_seqJ (fun e_ => ∃ (le : Str), (1 ≤ le.length ∧ le.length ≤ 4) ∧ e_ = ⟨[va (Adr.mk state), va le, none, none], [(state, stC false)]⟩) ?_ ?_
  ·
    refine do_ifD (et_test (ev_opD (ev_cbD (ea_consD (ev_var (i := 1) rfl) ea_nil) (rc_lenT (by walk_at "fsc"))) ev_int r2_lt)) (fun h_if => ?_) (fun h_if => ?_)
    ·
      refine do_asg (i := 1) ev_str fun (letters1 : Str) h_letters1 => ?_
      refine ⟨⟨[va (Adr.mk state), va _, none, none], [(state, stC false)]⟩, ⟨⟨Or.inr rfl, ⟨Or.inr rfl, ⟨Or.inl rfl, ⟨Or.inl rfl, trivial⟩⟩⟩⟩, (.cons₂ _ .slnil)⟩, _, ?_, rfl⟩
      · -- vc 0
        rw [h_letters1]; decide +kernel
    ·
      refine do_next ?_
      refine ⟨⟨[va (Adr.mk state), va _, none, none], [(state, stC false)]⟩, ⟨⟨Or.inr rfl, ⟨Or.inr rfl, ⟨Or.inl rfl, ⟨Or.inl rfl, trivial⟩⟩⟩⟩, (.cons₂ _ .slnil)⟩, _, ?_, rfl⟩
      · walk_at "fvc"
  ·
    rintro e_ ⟨le, hL, rfl⟩
    show Do _ _ ⟨[va (Adr.mk state), va le, none, none], [(state, stC false)]⟩ _
    refine do_seq (do_asg (i := 2) (Ev.mono (P' := (fun (z_ : (List Str)) => ∃ (r : Int) (r1 : Int) (r2 : (List Str)), post_law_next state (4 : Int) r ∧ post_law_next state (6 : Int) r1 ∧ post_law_climbing state le ((62 : Int) + r) ((20 : Int) + r1) r2 ∧ z_ = r2)) (ev_call1 (W := (fun _ _ _ _ => False)) (k := 0) (c := stC false) (P' := (fun (z_ : (List Str)) => ∃ (r : Int) (r1 : Int), post_law_next state (4 : Int) r ∧ post_law_next state (6 : Int) r1 ∧ post_law_climbing state le ((62 : Int) + r) ((20 : Int) + r1) z_)) rfl rfl rfl (fun _ => False) (EvA.mono (P' := (fun ss_ => ∃ (r : Int) (r1 : Int), post_law_next state (4 : Int) r ∧ post_law_next state (6 : Int) r1 ∧ ss_ = [vs (Adr.mk state), vs le, vs ((62 : Int) + r), vs ((20 : Int) + r1)])) (ea_cons (ev_var (i := 0) rfl) (fun x_ hx_ => (EvA.mono (P' := (fun ss_ => ∃ (r : Int) (r1 : Int), post_law_next state (4 : Int) r ∧ post_law_next state (6 : Int) r1 ∧ ss_ = [vs le, vs ((62 : Int) + r), vs ((20 : Int) + r1)])) (ea_cons (ev_var (i := 1) rfl) (fun x_ hx_ => (EvA.mono (P' := (fun ss_ => ∃ (r : Int) (r1 : Int), post_law_next state (4 : Int) r ∧ post_law_next state (6 : Int) r1 ∧ ss_ = [vs ((62 : Int) + r), vs ((20 : Int) + r1)])) (ea_cons (ev_op (P'' := (fun (z_ : Int) => ∃ (r : Int), post_law_next state (4 : Int) r ∧ z_ = ((62 : Int) + r))) ev_int (fun x_ hx_ => (Ev.mono (P' := (fun (z_ : Int) => ∃ (r : Int), post_law_next state (4 : Int) r ∧ z_ = r)) (ev_call1 (W := (fun _ _ _ _ => False)) (k := 0) (c := stC false) (P' := (fun (z_ : Int) => post_law_next state (4 : Int) z_)) rfl rfl rfl (fun _ => False) (ea_consD (ev_var (i := 0) rfl) (ea_consD ev_int ea_nil)) (fun ss_ hs_ us_ H_ Q_ E_ h_ => by obtain rfl := hs_; exact ⟨state, (4 : Int), (by walk_at "fsc"), Call.imp h_ (fun r_ c_ hq_ => hq_) (fun x_ c_ hq_ => hq_)⟩) (fun x_ hx_ => hx_.elim)) (fun z_ hz_ => ⟨z_, hz_, rfl⟩))) (fun x_ y_ hx_ hy_ => by rw [hx_]; obtain ⟨r, hc_r, hy_⟩ := hy_; rw [hy_]; exact R2V.mono r2_add fun z_ hz_ => ⟨r, hc_r, hz_⟩)) (fun x_ hx_ => (EvA.mono (P' := (fun ss_ => ∃ (r1 : Int), post_law_next state (6 : Int) r1 ∧ ss_ = [vs ((20 : Int) + r1)])) (ea_cons (ev_op (P'' := (fun (z_ : Int) => ∃ (r1 : Int), post_law_next state (6 : Int) r1 ∧ z_ = ((20 : Int) + r1))) ev_int (fun x_ hx_ => (Ev.mono (P' := (fun (z_ : Int) => ∃ (r1 : Int), post_law_next state (6 : Int) r1 ∧ z_ = r1)) (ev_call1 (W := (fun _ _ _ _ => False)) (k := 0) (c := stC false) (P' := (fun (z_ : Int) => post_law_next state (6 : Int) z_)) rfl rfl rfl (fun _ => False) (ea_consD (ev_var (i := 0) rfl) (ea_consD ev_int ea_nil)) (fun ss_ hs_ us_ H_ Q_ E_ h_ => by obtain rfl := hs_; exact ⟨state, (6 : Int), (by walk_at "fsc"), Call.imp h_ (fun r_ c_ hq_ => hq_) (fun x_ c_ hq_ => hq_)⟩) (fun x_ hx_ => hx_.elim)) (fun z_ hz_ => ⟨z_, hz_, rfl⟩))) (fun x_ y_ hx_ hy_ => by rw [hx_]; obtain ⟨r1, hc_r1, hy_⟩ := hy_; rw [hy_]; exact R2V.mono r2_add fun z_ hz_ => ⟨r1, hc_r1, hz_⟩)) (fun x_ hx_ => ea_nil)) (fun ss_ h_ => by obtain ⟨x_, r_, hx_, hr_, rfl⟩ := h_; obtain ⟨r1, hc_r1, hx_⟩ := hx_; rw [hx_]; obtain rfl := hr_; exact ⟨r1, hc_r1, rfl⟩)))) (fun ss_ h_ => by obtain ⟨x_, r_, hx_, hr_, rfl⟩ := h_; obtain ⟨r, hc_r, hx_⟩ := hx_; rw [hx_]; obtain ⟨r1, hc_r1, rfl⟩ := hr_; exact ⟨r, r1, hc_r, hc_r1, rfl⟩)))) (fun ss_ h_ => by obtain ⟨x_, r_, hx_, hr_, rfl⟩ := h_; rw [hx_]; obtain ⟨r, r1, hc_r, hc_r1, rfl⟩ := hr_; exact ⟨r, r1, hc_r, hc_r1, rfl⟩)))) (fun ss_ h_ => by obtain ⟨x_, r_, hx_, hr_, rfl⟩ := h_; rw [hx_]; obtain ⟨r, r1, hc_r, hc_r1, rfl⟩ := hr_; exact ⟨r, r1, hc_r, hc_r1, rfl⟩)) (fun ss_ hs_ us_ H_ Q_ E_ h_ => by obtain ⟨r, r1, hc_r, hc_r1, rfl⟩ := hs_; exact ⟨state, le, ((62 : Int) + r), ((20 : Int) + r1), (by walk_at "fsc"), Call.imp h_ (fun r_ c_ hq_ => ⟨hq_.1, ⟨r, r1, hc_r, hc_r1, hq_.2⟩⟩) (fun x_ c_ hq_ => hq_)⟩) (fun x_ hx_ => hx_.elim)) (fun z_ hz_ => by obtain ⟨r, r1, hc_r, hc_r1, hz_⟩ := hz_; exact ⟨r, r1, z_, hc_r, hc_r1, hz_, rfl⟩)) fun (yes : (List Str)) h_yes => ?_)
    obtain ⟨r, r1, r2, hc_r, hc_r1, hc_r2, h_yes⟩ := h_yes
    rw [← h_yes] at hc_r2
    show Do _ _ ⟨[va (Adr.mk state), va le, va yes, none], [(state, stC false)]⟩ _
    refine do_seq (do_asg (i := 3) (Ev.mono (P' := (fun (z_ : (List Str)) => ∃ (r3 : Int) (r4 : Int) (r5 : (List Str)), post_law_next state (5 : Int) r3 ∧ post_law_next state (6 : Int) r4 ∧ post_law_climbing state le (([(0 : Int), (62 : Int), (63 : Int), (64 : Int), (65 : Int)] : List Int).getD (r3).toNat (0 : Int)) ((20 : Int) + r4) r5 ∧ z_ = r5)) (ev_call1 (W := (fun _ _ _ _ => False)) (k := 0) (c := stC false) (P' := (fun (z_ : (List Str)) => ∃ (r3 : Int) (r4 : Int), post_law_next state (5 : Int) r3 ∧ post_law_next state (6 : Int) r4 ∧ post_law_climbing state le (([(0 : Int), (62 : Int), (63 : Int), (64 : Int), (65 : Int)] : List Int).getD (r3).toNat (0 : Int)) ((20 : Int) + r4) z_)) rfl rfl rfl (fun _ => False) (EvA.mono (P' := (fun ss_ => ∃ (r3 : Int) (r4 : Int), post_law_next state (5 : Int) r3 ∧ post_law_next state (6 : Int) r4 ∧ ss_ = [vs (Adr.mk state), vs le, vs (([(0 : Int), (62 : Int), (63 : Int), (64 : Int), (65 : Int)] : List Int).getD (r3).toNat (0 : Int)), vs ((20 : Int) + r4)])) (ea_cons (ev_var (i := 0) rfl) (fun x_ hx_ => (EvA.mono (P' := (fun ss_ => ∃ (r3 : Int) (r4 : Int), post_law_next state (5 : Int) r3 ∧ post_law_next state (6 : Int) r4 ∧ ss_ = [vs le, vs (([(0 : Int), (62 : Int), (63 : Int), (64 : Int), (65 : Int)] : List Int).getD (r3).toNat (0 : Int)), vs ((20 : Int) + r4)])) (ea_cons (ev_var (i := 1) rfl) (fun x_ hx_ => (EvA.mono (P' := (fun ss_ => ∃ (r3 : Int) (r4 : Int), post_law_next state (5 : Int) r3 ∧ post_law_next state (6 : Int) r4 ∧ ss_ = [vs (([(0 : Int), (62 : Int), (63 : Int), (64 : Int), (65 : Int)] : List Int).getD (r3).toNat (0 : Int)), vs ((20 : Int) + r4)])) (ea_cons (ev_op (P'' := (fun (z_ : Int) => ∃ (r3 : Int), post_law_next state (5 : Int) r3 ∧ z_ = (([(0 : Int), (62 : Int), (63 : Int), (64 : Int), (65 : Int)] : List Int).getD (r3).toNat (0 : Int)))) (evl_val (evl_lstD (xs := ([(0 : Int), (62 : Int), (63 : Int), (64 : Int), (65 : Int)] : List Int)) (ea_consD ev_int (ea_consD ev_int (ea_consD ev_int (ea_consD ev_int (ea_consD ev_int ea_nil))))) (by simp))) (fun x_ hx_ => (Ev.mono (P' := (fun (z_ : Int) => ∃ (r3 : Int), post_law_next state (5 : Int) r3 ∧ z_ = r3)) (ev_call1 (W := (fun _ _ _ _ => False)) (k := 0) (c := stC false) (P' := (fun (z_ : Int) => post_law_next state (5 : Int) z_)) rfl rfl rfl (fun _ => False) (ea_consD (ev_var (i := 0) rfl) (ea_consD ev_int ea_nil)) (fun ss_ hs_ us_ H_ Q_ E_ h_ => by obtain rfl := hs_; exact ⟨state, (5 : Int), (by walk_at "fsc"), Call.imp h_ (fun r_ c_ hq_ => hq_) (fun x_ c_ hq_ => hq_)⟩) (fun x_ hx_ => hx_.elim)) (fun z_ hz_ => ⟨z_, hz_, rfl⟩))) (fun x_ y_ hx_ hy_ => by rw [hx_]; obtain ⟨r3, hc_r3, hy_⟩ := hy_; rw [hy_]; exact R2V.mono (r2_ixLp (d := (0 : Int)) (by walk_at "fsc")) fun z_ hz_ => ⟨r3, hc_r3, hz_⟩)) (fun x_ hx_ => (EvA.mono (P' := (fun ss_ => ∃ (r4 : Int), post_law_next state (6 : Int) r4 ∧ ss_ = [vs ((20 : Int) + r4)])) (ea_cons (ev_op (P'' := (fun (z_ : Int) => ∃ (r4 : Int), post_law_next state (6 : Int) r4 ∧ z_ = ((20 : Int) + r4))) ev_int (fun x_ hx_ => (Ev.mono (P' := (fun (z_ : Int) => ∃ (r4 : Int), post_law_next state (6 : Int) r4 ∧ z_ = r4)) (ev_call1 (W := (fun _ _ _ _ => False)) (k := 0) (c := stC false) (P' := (fun (z_ : Int) => post_law_next state (6 : Int) z_)) rfl rfl rfl (fun _ => False) (ea_consD (ev_var (i := 0) rfl) (ea_consD ev_int ea_nil)) (fun ss_ hs_ us_ H_ Q_ E_ h_ => by obtain rfl := hs_; exact ⟨state, (6 : Int), (by walk_at "fsc"), Call.imp h_ (fun r_ c_ hq_ => hq_) (fun x_ c_ hq_ => hq_)⟩) (fun x_ hx_ => hx_.elim)) (fun z_ hz_ => ⟨z_, hz_, rfl⟩))) (fun x_ y_ hx_ hy_ => by rw [hx_]; obtain ⟨r4, hc_r4, hy_⟩ := hy_; rw [hy_]; exact R2V.mono r2_add fun z_ hz_ => ⟨r4, hc_r4, hz_⟩)) (fun x_ hx_ => ea_nil)) (fun ss_ h_ => by obtain ⟨x_, r_, hx_, hr_, rfl⟩ := h_; obtain ⟨r4, hc_r4, hx_⟩ := hx_; rw [hx_]; obtain rfl := hr_; exact ⟨r4, hc_r4, rfl⟩)))) (fun ss_ h_ => by obtain ⟨x_, r_, hx_, hr_, rfl⟩ := h_; obtain ⟨r3, hc_r3, hx_⟩ := hx_; rw [hx_]; obtain ⟨r4, hc_r4, rfl⟩ := hr_; exact ⟨r3, r4, hc_r3, hc_r4, rfl⟩)))) (fun ss_ h_ => by obtain ⟨x_, r_, hx_, hr_, rfl⟩ := h_; rw [hx_]; obtain ⟨r3, r4, hc_r3, hc_r4, rfl⟩ := hr_; exact ⟨r3, r4, hc_r3, hc_r4, rfl⟩)))) (fun ss_ h_ => by obtain ⟨x_, r_, hx_, hr_, rfl⟩ := h_; rw [hx_]; obtain ⟨r3, r4, hc_r3, hc_r4, rfl⟩ := hr_; exact ⟨r3, r4, hc_r3, hc_r4, rfl⟩)) (fun ss_ hs_ us_ H_ Q_ E_ h_ => by obtain ⟨r3, r4, hc_r3, hc_r4, rfl⟩ := hs_; exact ⟨state, le, (([(0 : Int), (62 : Int), (63 : Int), (64 : Int), (65 : Int)] : List Int).getD (r3).toNat (0 : Int)), ((20 : Int) + r4), (by have h1 := big5' r3.toNat (by have h1 := hc_r3.1; have h2 := hc_r3.2; omega); have h3 := hc_r4.1; have h4 := hc_r4.2; exact ⟨hL.1, hL.2, h1.1, h1.2, by omega, by omega⟩), Call.imp h_ (fun r_ c_ hq_ => ⟨hq_.1, ⟨r3, r4, hc_r3, hc_r4, hq_.2⟩⟩) (fun x_ c_ hq_ => hq_)⟩) (fun x_ hx_ => hx_.elim)) (fun z_ hz_ => by obtain ⟨r3, r4, hc_r3, hc_r4, hz_⟩ := hz_; exact ⟨r3, r4, z_, hc_r3, hc_r4, hz_, rfl⟩)) fun (no : (List Str)) h_no => ?_)
    obtain ⟨r3, r4, r5, hc_r3, hc_r4, hc_r5, h_no⟩ := h_no
    rw [← h_no] at hc_r5
    show Do _ _ ⟨[va (Adr.mk state), va le, va yes, va no], [(state, stC false)]⟩ _
    refine do_ret (ev_callP (W := (fun _ _ _ _ => False)) (P' := (fun (z_ : Str) => post_law_text le yes no z_)) (fun _ => False) (ea_consD (ev_var (i := 1) rfl) (ea_consD (ev_var (i := 2) rfl) (ea_consD (ev_var (i := 3) rfl) ea_nil))) (fun ss_ hs_ us_ H_ Q_ E_ h_ => by obtain rfl := hs_; exact ⟨le, yes, no, (by exact ⟨by omega, by have h1 := hc_r2.1; omega, by have h1 := hc_r5.1; omega, fun w hw => by have h1 := hc_r2.2 w hw; omega, fun w hw => by have h1 := hc_r5.2 w hw; omega⟩), Call.imp h_ (fun r_ c_ hq_ => hq_) (fun x_ c_ hq_ => hq_)⟩) (fun x_ hx_ => hx_.elim)) fun z h_ret => ?_
    refine ⟨_, (.cons₂ _ .slnil), rfl, ?_⟩
    · -- vc 2
      have h1 : z = sText le yes no := h_ret
      rw [h1]; exact sText_len (by omega) (by have h1 := hc_r2.1; omega) (by have h1 := hc_r5.1; omega) (fun w hw => by have h1 := hc_r2.2 w hw; omega) (fun w hw => by have h1 := hc_r5.2 w hw; omega)

end
end LL

namespace LL
open PySem L2 Fw Lm
local macro_rules | `(tactic| walk_at "fsc") => `(tactic| first | omega | assumption | exact True.intro | exact sgn_split (by assumption) | exact sgn_split2 (by assumption) | (intros; omega) | (with_reducible exact emod_both (by omega)) | (simp only [Bool.not_eq_true', Bool.not_eq_false', decide_eq_true_eq, decide_eq_false_iff_not, Bool.or_eq_false_iff, Bool.and_eq_true, List.length_cons, List.length_nil, List.length_append, List.length_cons, List.length_nil, List.length_map, signs_len, rngI_len, enumI_len, keysD_len, pre_check_letters, post_check_letters, pre_check_word, post_check_word, pre_order_key, post_order_key, pre_in_order, post_in_order, pre_check_words, post_check_words, pre_Sample___init, post_Sample___init, pre_written, post_written, pre_word_of, post_word_of, pre_are_letters, post_are_letters, pre_sample_text, post_sample_text, pre_read_sample, post_read_sample, pre_law_start, pre_law_next, post_law_next, pre_law_integer, post_law_integer, pre_law_alphabet, post_law_alphabet, pre_law_word, post_law_word, pre_law_ordered, post_law_ordered, pre_law_text, post_law_text, pre_law_good_letters, post_law_good_letters, pre_law_read, post_law_read, pre_law_words_are, post_law_words_are, pre_law_reads, post_law_reads, pre_law_word_at, post_law_word_at, pre_law_climbing, post_law_climbing, pre_law_spoilt, post_law_spoilt, pre_law_large, post_law_large, pre_law, post_law] at *; first | omega | assumption | (refine ⟨?_, ?_⟩ <;> first | omega | assumption) | (refine ⟨?_, ?_, ?_⟩ <;> first | omega | assumption)) | (have hl_ := congrArg List.length hs_; simp only [List.length_append, List.length_cons, List.length_nil, List.length_map, signs_len, rngI_len, enumI_len, keysD_len] at hl_; omega) | (have hr_ := rng_split hs_; omega) | exact (by decide : 1 ≤ (" " : Str).length) | exact (by decide : 1 ≤ ("\n" : Str).length) | exact rfl)
local macro_rules | `(tactic| walk_at "fvc") => `(tactic| first | rfl | exact True.intro | assumption | omega)
local macro_rules | `(tactic| walk_at "fxp") => `(tactic| first | exact hx_ | assumption)
local macro_rules | `(tactic| walk_at "frs") => `(tactic| first | assumption)

section
variable {P : Program} {w : World} {K : PySem.W.Frag} {mg : Str → Option Value} {base : Heap} {A : Ad}
abbrev s_law_next : Stmt := topS 27
abbrev N_law_next : List Str := ["state", "many", "cells", "cell", "turn", "mixed", "told"]
theorem sc_law_next : FnScope N_law_next ["state", "many"] (defScope s_law_next) := ⟨rfl, rfl, rfl, by decide +kernel, rfl, by decide +kernel, by decide +kernel⟩
set_option maxHeartbeats 4000000 in
theorem ok_law_next (T : Tx K mg A)  {fd : FuncData} (F : Fun K "_law_next" "_law_next" s_law_next A.law_next fd) : FnOk P w K mg base (L2N.CX P w) 1 A.law_next fd ["state", "many"] (sp_law_next K) := by
  refine okN F sc_law_next (fun us H Q E ⟨state, many, hpre, h⟩ => h.len) (fun cdv A_ outer s_ H us Q E hr ⟨state, many, hpre, h⟩ => ?_)
  refine ⟨_, (pss_cons (ps_set (i := 2) sc_law_next.nd rfl (by first | exact Or.inl rfl | exact Or.inr rfl) (pe_ix ix_list (pv 0) pe_int (fun _ _ => rfl))) (pss_cons (ps_set (i := 3) sc_law_next.nd rfl (by first | exact Or.inl rfl | exact Or.inr rfl) (pe_ix ix_list (pv 2) (pe_op op_mod (pe_callTy cr_int1 (by rfl) T.m_int bb_int (pa_cons (pe_ix ix_list (pv 0) pe_int (fun _ _ => rfl)) pa_nil)) (pe_callB cr_lenQ (by rfl) T.m_len bb_len (pa_cons (pv 2) pa_nil))) (fun _ _ => rfl))) (pss_cons (ps_if (PW.pt (pw_and (pt_cmpR op_ge (pv 3) (pe_op op_pow pe_int pe_int) (nomark _)) (pw_and1 (pt_cmpR op_lt (pe_ix ix_list (pv 0) pe_int (fun _ _ => rfl)) (pe_callB cr_lenQ (by rfl) T.m_len bb_len (pa_cons (pv 2) pa_nil)) (nomark _))))) (pss_cons (ps_if (pt_cmpR op_eq (pe_ix ix_list (pv 0) pe_int (fun _ _ => rfl)) pe_int (nomark _)) (pss_one (ps_asg (pv 3) (pg_sub (pv 0) pe_int set_list))) pss_nil) (pss_cons (ps_set (i := 6) sc_law_next.nd rfl (by first | exact Or.inl rfl | exact Or.inr rfl) (pe_op op_mod (pe_callTy cr_int1 (by rfl) T.m_int bb_int (pa_cons (pe_ix ix_list (pv 0) pe_int (fun _ _ => rfl)) pa_nil)) (pv 1))) (pss_cons (ps_asg (pe_op op_fdiv (pe_callTy cr_int1 (by rfl) T.m_int bb_int (pa_cons (pe_ix ix_list (pv 0) pe_int (fun _ _ => rfl)) pa_nil)) (pv 1)) (pg_sub (pv 0) pe_int set_list)) (pss_cons (ps_asg (pe_op op_add (pe_ix ix_list (pv 0) pe_int (fun _ _ => rfl)) pe_int) (pg_sub (pv 0) pe_int set_list)) (pss_cons (ps_if (PW.pt (pw_or (pt_cmpR op_eq (pe_ix ix_list (pv 0) pe_int (fun _ _ => rfl)) pe_int (nomark _)) (pw_or1 (pt_cmpR op_ge (pe_ix ix_list (pv 0) pe_int (fun _ _ => rfl)) pe_int (nomark _))))) (pss_cons (ps_asg (pe_op op_add (pe_ix ix_list (pv 0) pe_int (fun _ _ => rfl)) pe_int) (pg_sub (pv 0) pe_int set_list)) (pss_one (ps_asg pe_int (pg_sub (pv 0) pe_int set_list)))) pss_nil) (pss_one (ps_ret (pv 6)))))))) pss_nil) (pss_cons (ps_set (i := 4) sc_law_next.nd rfl (by first | exact Or.inl rfl | exact Or.inr rfl) (pe_op op_add (pe_ix ix_list (pv 0) pe_int (fun _ _ => rfl)) (pe_op op_mul pe_int (pe_ix ix_list (pv 0) pe_int (fun _ _ => rfl))))) (pss_cons (ps_set (i := 5) sc_law_next.nd rfl (by first | exact Or.inl rfl | exact Or.inr rfl) (pe_op op_mul (pe_op op_add (pe_op op_mod (pe_callTy cr_int1 (by rfl) T.m_int bb_int (pa_cons (pv 3) pa_nil)) pe_int) pe_int) (pe_op op_add pe_int (pe_op op_mul pe_int (pv 4))))) (pss_cons (ps_set (i := 5) sc_law_next.nd rfl (by first | exact Or.inl rfl | exact Or.inr rfl) (pe_op op_mod (pe_callTy cr_int1 (by rfl) T.m_int bb_int (pa_cons (pv 5) pa_nil)) pe_int)) (pss_cons (ps_set (i := 5) sc_law_next.nd rfl (by first | exact Or.inl rfl | exact Or.inr rfl) (pe_op op_mod (pe_callTy cr_int1 (by rfl) T.m_int bb_int (pa_cons (pe_op op_add (pe_op op_add (pe_op op_mul (pv 5) (pv 5)) (pe_op op_mul pe_int (pv 4))) pe_int) pa_nil)) pe_int)) (pss_cons (ps_asg (pe_op op_add (pe_ix ix_list (pv 0) pe_int (fun _ _ => rfl)) pe_int) (pg_sub (pv 0) pe_int set_list)) (pss_cons (ps_if (pt_cmpR op_ge (pe_ix ix_list (pv 0) pe_int (fun _ _ => rfl)) pe_int (nomark _)) (pss_cons (ps_asg (pe_op op_add (pe_ix ix_list (pv 0) pe_int (fun _ _ => rfl)) pe_int) (pg_sub (pv 0) pe_int set_list)) (pss_one (ps_asg pe_int (pg_sub (pv 0) pe_int set_list)))) pss_nil) (pss_one (ps_ret (pe_op op_mod (pe_callTy cr_int1 (by rfl) T.m_int bb_int (pa_cons (pe_op op_fdiv (pv 5) pe_int) pa_nil)) (pv 1))))))))))))), ?_⟩
  refine Call.body h rfl fun G0_ H0_ => ?_
  have hpre_ := hpre; unfold pre_law_next at hpre_
  refine do_open (c := stC false) (ι := List Int × Int × Int × Int) (R := fun i => i.1 ≠ [] ∧ i.1.length ≤ 1000) (c' := fun i => ownS false [vs i.1, vs i.2.1, vs i.2.2.1, vs i.2.2.2]) (fun K G o h => stC_open h) (fun _ => rfl) fun ⟨cs0, i0, cur0, k0⟩ hR => ?_
  have hcl : 0 < cs0.length := List.length_pos_iff.mpr hR.1
  show Do _ _ ⟨[va (Adr.mk state), va many, none, none, none, none, none], [(state, ownS false [vs cs0, vs i0, vs cur0, vs k0])]⟩ _
  refine do_seq (do_asg (i := 2) (ev_opD (ev_var (i := 0) rfl) ev_int (r2_ixOS (j := 0) (k := 0) (y := cs0) rfl rfl rfl)) fun (cells : (List Int)) h_cells => ?_)
  show Do _ _ ⟨[va (Adr.mk state), va many, va cells, none, none, none, none], [(state, ownS false [vs cs0, vs i0, vs cur0, vs k0])]⟩ _
  refine do_seq (do_asg (i := 3) (ev_opD (ev_var (i := 2) rfl) (ev_opD (ev_cbD (ea_consD (ev_opD (ev_var (i := 0) rfl) ev_int (r2_ixOS (j := 0) (k := 1) (y := i0) rfl rfl rfl)) ea_nil) rc_int1) (ev_cbD (ea_consD (ev_var (i := 2) rfl) ea_nil) rc_lenL) (r2_mod (by rw [h_cells]; omega))) (r2_ixLp (d := (0 : Int)) (by exact emod_both (by rw [h_cells]; omega)))) fun (cell : Int) h_cell => ?_)
  show Do _ _ ⟨[va (Adr.mk state), va many, va cells, va cell, none, none, none], [(state, ownS false [vs cs0, vs i0, vs cur0, vs k0])]⟩ _
  refine do_seq (do_ifD (et_andD (et_test (ev_opD (ev_var (i := 3) rfl) (ev_opD ev_int ev_int (r2_pow (by walk_at "fsc"))) r2_ge)) (fun hb => (et_test (ev_opD (ev_opD (ev_var (i := 0) rfl) ev_int (r2_ixOS (j := 0) (k := 1) (y := i0) rfl rfl rfl)) (ev_cbD (ea_consD (ev_var (i := 2) rfl) ea_nil) rc_lenL) r2_lt)))) (fun h_if => ?_) (fun h_if => ?_))
  ·
    refine do_seq (do_ifD (et_test (ev_opD (ev_opD (ev_var (i := 0) rfl) ev_int (r2_ixOS (j := 0) (k := 3) (y := k0) rfl rfl rfl)) ev_int r2_eqI)) (fun h_if1 => ?_) (fun h_if1 => ?_))
    ·
      refine do_setOS (k := 0) (j := 2) rfl (ev_var (i := 3) rfl) (ev_var (i := 0) rfl) ev_int rfl (by simp) fun (y : Int) h_y => ?_
      show Do _ _ ⟨[va (Adr.mk state), va many, va cells, va cell, none, none, none], [(state, ownS false [vs cs0, vs i0, vs y, vs k0])]⟩ _
      refine do_seq (do_asg (i := 6) (ev_opD (ev_cbD (ea_consD (ev_opD (ev_var (i := 0) rfl) ev_int (r2_ixOS (j := 0) (k := 2) (y := y) rfl rfl rfl)) ea_nil) rc_int1) (ev_var (i := 1) rfl) (r2_mod (by walk_at "fsc"))) fun (told : Int) h_told => ?_)
      show Do _ _ ⟨[va (Adr.mk state), va many, va cells, va cell, none, none, va told], [(state, ownS false [vs cs0, vs i0, vs y, vs k0])]⟩ _
      refine do_seq (do_setOS (k := 0) (j := 2) rfl (ev_opD (ev_cbD (ea_consD (ev_opD (ev_var (i := 0) rfl) ev_int (r2_ixOS (j := 0) (k := 2) (y := y) rfl rfl rfl)) ea_nil) rc_int1) (ev_var (i := 1) rfl) (r2_fdiv (by walk_at "fsc"))) (ev_var (i := 0) rfl) ev_int rfl (by simp) fun (y1 : Int) h_y1 => ?_)
      show Do _ _ ⟨[va (Adr.mk state), va many, va cells, va cell, none, none, va told], [(state, ownS false [vs cs0, vs i0, vs y1, vs k0])]⟩ _
      refine do_seq (do_setOS (k := 0) (j := 3) rfl (ev_opD (ev_opD (ev_var (i := 0) rfl) ev_int (r2_ixOS (j := 0) (k := 3) (y := k0) rfl rfl rfl)) ev_int r2_add) (ev_var (i := 0) rfl) ev_int rfl (by simp) fun (y2 : Int) h_y2 => ?_)
      show Do _ _ ⟨[va (Adr.mk state), va many, va cells, va cell, none, none, va told], [(state, ownS false [vs cs0, vs i0, vs y1, vs y2])]⟩ _
      refine do_seq (do_ifD (et_orD (et_test (ev_opD (ev_opD (ev_var (i := 0) rfl) ev_int (r2_ixOS (j := 0) (k := 2) (y := y1) rfl rfl rfl)) ev_int r2_eqI)) (fun hb2 => (et_test (ev_opD (ev_opD (ev_var (i := 0) rfl) ev_int (r2_ixOS (j := 0) (k := 3) (y := y2) rfl rfl rfl)) ev_int r2_ge)))) (fun h_if2 => ?_) (fun h_if2 => ?_))
      ·
        refine do_seq (do_setOS (k := 0) (j := 1) rfl (ev_opD (ev_opD (ev_var (i := 0) rfl) ev_int (r2_ixOS (j := 0) (k := 1) (y := i0) rfl rfl rfl)) ev_int r2_add) (ev_var (i := 0) rfl) ev_int rfl (by simp) fun (y3 : Int) h_y3 => ?_)
        show Do _ _ ⟨[va (Adr.mk state), va many, va cells, va cell, none, none, va told], [(state, ownS false [vs cs0, vs y3, vs y1, vs y2])]⟩ _
        refine do_setOS (k := 0) (j := 3) rfl ev_int (ev_var (i := 0) rfl) ev_int rfl (by simp) fun (y4 : Int) h_y4 => ?_
        show Do _ _ ⟨[va (Adr.mk state), va many, va cells, va cell, none, none, va told], [(state, ownS false [vs cs0, vs y3, vs y1, vs y4])]⟩ _
        refine do_cells (cl' := [(state, stC false)]) rfl (fun p hp => by obtain rfl := List.mem_singleton.mp hp; exact ⟨_, List.mem_singleton.mpr rfl, rfl, fun K G o h => stC_of hR.1 hR.2 h⟩) ?_
        refine do_ret (ev_var (i := 6) rfl) fun z h_ret => ?_
        refine ⟨_, (.cons₂ _ .slnil), rfl, ?_⟩
        · -- vc 0
          subst h_ret; rw [h_told]; exact emod_both (by omega)
      ·
        refine do_next ?_
        show Do _ _ ⟨[va (Adr.mk state), va many, va cells, va cell, none, none, va told], [(state, ownS false [vs cs0, vs i0, vs y1, vs y2])]⟩ _
        refine do_cells (cl' := [(state, stC false)]) rfl (fun p hp => by obtain rfl := List.mem_singleton.mp hp; exact ⟨_, List.mem_singleton.mpr rfl, rfl, fun K G o h => stC_of hR.1 hR.2 h⟩) ?_
        refine do_ret (ev_var (i := 6) rfl) fun z h_ret => ?_
        refine ⟨_, (.cons₂ _ .slnil), rfl, ?_⟩
        · -- vc 1
          subst h_ret; rw [h_told]; exact emod_both (by omega)
    ·
      refine do_next ?_
      show Do _ _ ⟨[va (Adr.mk state), va many, va cells, va cell, none, none, none], [(state, ownS false [vs cs0, vs i0, vs cur0, vs k0])]⟩ _
      refine do_seq (do_asg (i := 6) (ev_opD (ev_cbD (ea_consD (ev_opD (ev_var (i := 0) rfl) ev_int (r2_ixOS (j := 0) (k := 2) (y := cur0) rfl rfl rfl)) ea_nil) rc_int1) (ev_var (i := 1) rfl) (r2_mod (by walk_at "fsc"))) fun (told1 : Int) h_told1 => ?_)
      show Do _ _ ⟨[va (Adr.mk state), va many, va cells, va cell, none, none, va told1], [(state, ownS false [vs cs0, vs i0, vs cur0, vs k0])]⟩ _
      refine do_seq (do_setOS (k := 0) (j := 2) rfl (ev_opD (ev_cbD (ea_consD (ev_opD (ev_var (i := 0) rfl) ev_int (r2_ixOS (j := 0) (k := 2) (y := cur0) rfl rfl rfl)) ea_nil) rc_int1) (ev_var (i := 1) rfl) (r2_fdiv (by walk_at "fsc"))) (ev_var (i := 0) rfl) ev_int rfl (by simp) fun (y5 : Int) h_y5 => ?_)
      show Do _ _ ⟨[va (Adr.mk state), va many, va cells, va cell, none, none, va told1], [(state, ownS false [vs cs0, vs i0, vs y5, vs k0])]⟩ _
      refine do_seq (do_setOS (k := 0) (j := 3) rfl (ev_opD (ev_opD (ev_var (i := 0) rfl) ev_int (r2_ixOS (j := 0) (k := 3) (y := k0) rfl rfl rfl)) ev_int r2_add) (ev_var (i := 0) rfl) ev_int rfl (by simp) fun (y6 : Int) h_y6 => ?_)
      show Do _ _ ⟨[va (Adr.mk state), va many, va cells, va cell, none, none, va told1], [(state, ownS false [vs cs0, vs i0, vs y5, vs y6])]⟩ _
      refine do_seq (do_ifD (et_orD (et_test (ev_opD (ev_opD (ev_var (i := 0) rfl) ev_int (r2_ixOS (j := 0) (k := 2) (y := y5) rfl rfl rfl)) ev_int r2_eqI)) (fun hb4 => (et_test (ev_opD (ev_opD (ev_var (i := 0) rfl) ev_int (r2_ixOS (j := 0) (k := 3) (y := y6) rfl rfl rfl)) ev_int r2_ge)))) (fun h_if3 => ?_) (fun h_if3 => ?_))
      ·
        refine do_seq (do_setOS (k := 0) (j := 1) rfl (ev_opD (ev_opD (ev_var (i := 0) rfl) ev_int (r2_ixOS (j := 0) (k := 1) (y := i0) rfl rfl rfl)) ev_int r2_add) (ev_var (i := 0) rfl) ev_int rfl (by simp) fun (y7 : Int) h_y7 => ?_)
        show Do _ _ ⟨[va (Adr.mk state), va many, va cells, va cell, none, none, va told1], [(state, ownS false [vs cs0, vs y7, vs y5, vs y6])]⟩ _
        refine do_setOS (k := 0) (j := 3) rfl ev_int (ev_var (i := 0) rfl) ev_int rfl (by simp) fun (y8 : Int) h_y8 => ?_
        show Do _ _ ⟨[va (Adr.mk state), va many, va cells, va cell, none, none, va told1], [(state, ownS false [vs cs0, vs y7, vs y5, vs y8])]⟩ _
        refine do_cells (cl' := [(state, stC false)]) rfl (fun p hp => by obtain rfl := List.mem_singleton.mp hp; exact ⟨_, List.mem_singleton.mpr rfl, rfl, fun K G o h => stC_of hR.1 hR.2 h⟩) ?_
        refine do_ret (ev_var (i := 6) rfl) fun z h_ret => ?_
        refine ⟨_, (.cons₂ _ .slnil), rfl, ?_⟩
        · -- vc 2
          subst h_ret; rw [h_told1]; exact emod_both (by omega)
      ·
        refine do_next ?_
        show Do _ _ ⟨[va (Adr.mk state), va many, va cells, va cell, none, none, va told1], [(state, ownS false [vs cs0, vs i0, vs y5, vs y6])]⟩ _
        refine do_cells (cl' := [(state, stC false)]) rfl (fun p hp => by obtain rfl := List.mem_singleton.mp hp; exact ⟨_, List.mem_singleton.mpr rfl, rfl, fun K G o h => stC_of hR.1 hR.2 h⟩) ?_
        refine do_ret (ev_var (i := 6) rfl) fun z h_ret => ?_
        refine ⟨_, (.cons₂ _ .slnil), rfl, ?_⟩
        · -- vc 3
          subst h_ret; rw [h_told1]; exact emod_both (by omega)
  ·
    refine do_next ?_
    show Do _ _ ⟨[va (Adr.mk state), va many, va cells, va cell, none, none, none], [(state, ownS false [vs cs0, vs i0, vs cur0, vs k0])]⟩ _
    refine do_seq (do_asg (i := 4) (ev_opD (ev_opD (ev_var (i := 0) rfl) ev_int (r2_ixOS (j := 0) (k := 3) (y := k0) rfl rfl rfl)) (ev_opD ev_int (ev_opD (ev_var (i := 0) rfl) ev_int (r2_ixOS (j := 0) (k := 1) (y := i0) rfl rfl rfl)) (r2_mul (by walk_at "fsc"))) r2_add) fun (turn : Int) h_turn => ?_)
    show Do _ _ ⟨[va (Adr.mk state), va many, va cells, va cell, va turn, none, none], [(state, ownS false [vs cs0, vs i0, vs cur0, vs k0])]⟩ _
    refine do_seq (do_asg (i := 5) (ev_opD (ev_opD (ev_opD (ev_cbD (ea_consD (ev_var (i := 3) rfl) ea_nil) rc_int1) ev_int (r2_mod (by walk_at "fsc"))) ev_int r2_add) (ev_opD ev_int (ev_opD ev_int (ev_var (i := 4) rfl) (r2_mul (by walk_at "fsc"))) r2_add) (r2_mul (by walk_at "fsc"))) fun (mixed : Int) h_mixed => ?_)
    show Do _ _ ⟨[va (Adr.mk state), va many, va cells, va cell, va turn, va mixed, none], [(state, ownS false [vs cs0, vs i0, vs cur0, vs k0])]⟩ _
    refine do_seq (do_asg (i := 5) (ev_opD (ev_cbD (ea_consD (ev_var (i := 5) rfl) ea_nil) rc_int1) ev_int (r2_mod (by walk_at "fsc"))) fun (mixed1 : Int) h_mixed1 => ?_)
    show Do _ _ ⟨[va (Adr.mk state), va many, va cells, va cell, va turn, va mixed1, none], [(state, ownS false [vs cs0, vs i0, vs cur0, vs k0])]⟩ _
    refine do_seq (do_asg (i := 5) (ev_opD (ev_cbD (ea_consD (ev_opD (ev_opD (ev_opD (ev_var (i := 5) rfl) (ev_var (i := 5) rfl) (r2_mul (by walk_at "fsc"))) (ev_opD ev_int (ev_var (i := 4) rfl) (r2_mul (by walk_at "fsc"))) r2_add) ev_int r2_add) ea_nil) rc_int1) ev_int (r2_mod (by walk_at "fsc"))) fun (mixed2 : Int) h_mixed2 => ?_)
    show Do _ _ ⟨[va (Adr.mk state), va many, va cells, va cell, va turn, va mixed2, none], [(state, ownS false [vs cs0, vs i0, vs cur0, vs k0])]⟩ _
    refine do_seq (do_setOS (k := 0) (j := 3) rfl (ev_opD (ev_opD (ev_var (i := 0) rfl) ev_int (r2_ixOS (j := 0) (k := 3) (y := k0) rfl rfl rfl)) ev_int r2_add) (ev_var (i := 0) rfl) ev_int rfl (by simp) fun (y9 : Int) h_y9 => ?_)
    show Do _ _ ⟨[va (Adr.mk state), va many, va cells, va cell, va turn, va mixed2, none], [(state, ownS false [vs cs0, vs i0, vs cur0, vs y9])]⟩ _
    refine do_seq (do_ifD (et_test (ev_opD (ev_opD (ev_var (i := 0) rfl) ev_int (r2_ixOS (j := 0) (k := 3) (y := y9) rfl rfl rfl)) ev_int r2_ge)) (fun h_if4 => ?_) (fun h_if4 => ?_))
    ·
      refine do_seq (do_setOS (k := 0) (j := 1) rfl (ev_opD (ev_opD (ev_var (i := 0) rfl) ev_int (r2_ixOS (j := 0) (k := 1) (y := i0) rfl rfl rfl)) ev_int r2_add) (ev_var (i := 0) rfl) ev_int rfl (by simp) fun (y10 : Int) h_y10 => ?_)
      show Do _ _ ⟨[va (Adr.mk state), va many, va cells, va cell, va turn, va mixed2, none], [(state, ownS false [vs cs0, vs y10, vs cur0, vs y9])]⟩ _
      refine do_setOS (k := 0) (j := 3) rfl ev_int (ev_var (i := 0) rfl) ev_int rfl (by simp) fun (y11 : Int) h_y11 => ?_
      show Do _ _ ⟨[va (Adr.mk state), va many, va cells, va cell, va turn, va mixed2, none], [(state, ownS false [vs cs0, vs y10, vs cur0, vs y11])]⟩ _
      refine do_cells (cl' := [(state, stC false)]) rfl (fun p hp => by obtain rfl := List.mem_singleton.mp hp; exact ⟨_, List.mem_singleton.mpr rfl, rfl, fun K G o h => stC_of hR.1 hR.2 h⟩) ?_
      refine do_ret (ev_opD (ev_cbD (ea_consD (ev_opD (ev_var (i := 5) rfl) ev_int (r2_fdiv (by walk_at "fsc"))) ea_nil) rc_int1) (ev_var (i := 1) rfl) (r2_mod (by walk_at "fsc"))) fun z h_ret => ?_
      refine ⟨_, (.cons₂ _ .slnil), rfl, ?_⟩
      · -- vc 4
        subst h_ret; exact emod_both (by omega)
    ·
      refine do_next ?_
      show Do _ _ ⟨[va (Adr.mk state), va many, va cells, va cell, va turn, va mixed2, none], [(state, ownS false [vs cs0, vs i0, vs cur0, vs y9])]⟩ _
      refine do_cells (cl' := [(state, stC false)]) rfl (fun p hp => by obtain rfl := List.mem_singleton.mp hp; exact ⟨_, List.mem_singleton.mpr rfl, rfl, fun K G o h => stC_of hR.1 hR.2 h⟩) ?_
      refine do_ret (ev_opD (ev_cbD (ea_consD (ev_opD (ev_var (i := 5) rfl) ev_int (r2_fdiv (by walk_at "fsc"))) ea_nil) rc_int1) (ev_var (i := 1) rfl) (r2_mod (by walk_at "fsc"))) fun z h_ret => ?_
      refine ⟨_, (.cons₂ _ .slnil), rfl, ?_⟩
      · -- vc 5
        subst h_ret; exact emod_both (by omega)

end
end LL

namespace LL
open PySem L2 Fw Lm
local macro_rules | `(tactic| walk_at "fsc") => `(tactic| first | omega | assumption | exact True.intro | exact sgn_split (by assumption) | exact sgn_split2 (by assumption) | (intros; omega) | (with_reducible exact emod_both (by omega)) | (simp only [Bool.not_eq_true', Bool.not_eq_false', decide_eq_true_eq, decide_eq_false_iff_not, Bool.or_eq_false_iff, Bool.and_eq_true, List.length_cons, List.length_nil, List.length_append, List.length_cons, List.length_nil, List.length_map, signs_len, rngI_len, enumI_len, keysD_len, pre_check_letters, post_check_letters, pre_check_word, post_check_word, pre_order_key, post_order_key, pre_in_order, post_in_order, pre_check_words, post_check_words, pre_Sample___init, post_Sample___init, pre_written, post_written, pre_word_of, post_word_of, pre_are_letters, post_are_letters, pre_sample_text, post_sample_text, pre_read_sample, post_read_sample, pre_law_start, pre_law_next, post_law_next, pre_law_integer, post_law_integer, pre_law_alphabet, post_law_alphabet, pre_law_word, post_law_word, pre_law_ordered, post_law_ordered, pre_law_text, post_law_text, pre_law_good_letters, post_law_good_letters, pre_law_read, post_law_read, pre_law_words_are, post_law_words_are, pre_law_reads, post_law_reads, pre_law_word_at, post_law_word_at, pre_law_climbing, post_law_climbing, pre_law_spoilt, post_law_spoilt, pre_law_large, post_law_large, pre_law, post_law] at *; first | omega | assumption | (refine ⟨?_, ?_⟩ <;> first | omega | assumption) | (refine ⟨?_, ?_, ?_⟩ <;> first | omega | assumption)) | (have hl_ := congrArg List.length hs_; simp only [List.length_append, List.length_cons, List.length_nil, List.length_map, signs_len, rngI_len, enumI_len, keysD_len] at hl_; omega) | (have hr_ := rng_split hs_; omega) | exact (by decide : 1 ≤ (" " : Str).length) | exact (by decide : 1 ≤ ("\n" : Str).length) | exact rfl)
local macro_rules | `(tactic| walk_at "fvc") => `(tactic| first | rfl | exact True.intro | assumption | omega)
local macro_rules | `(tactic| walk_at "fxp") => `(tactic| first | exact hx_ | assumption)
local macro_rules | `(tactic| walk_at "frs") => `(tactic| first | assumption)

section
variable {P : Program} {w : World} {K : PySem.W.Frag} {mg : Str → Option Value} {base : Heap} {A : Ad}
abbrev s_law_ordered : Stmt := topS 31
abbrev N_law_ordered : List Str := ["words", "told", "pair", "word"]
theorem sc_law_ordered : FnScope N_law_ordered ["words"] (defScope s_law_ordered) := ⟨rfl, rfl, rfl, by decide +kernel, rfl, by decide +kernel, by decide +kernel⟩
set_option maxHeartbeats 4000000 in
theorem ok_law_ordered (T : Tx K mg A)  {fd : FuncData} (F : Fun K "_law_ordered" "_law_ordered" s_law_ordered A.law_ordered fd) : FnOk P w K mg base (L2N.CX P w) 1 A.law_ordered fd ["words"] (sp_law_ordered K) := by
  refine okN F sc_law_ordered (fun us H Q E ⟨words, hpre, h⟩ => h.len) (fun cdv A_ outer s_ H us Q E hr ⟨words, hpre, h⟩ => ?_)
  refine ⟨_, (pss_cons (ps_set (i := 1) sc_law_ordered.nd rfl (by first | exact Or.inl rfl | exact Or.inr rfl) (pe_lst pa_nil)) (pss_cons (ps_for (passes_of rfl) rfl (pi_list (pe_callB (cr_sortedPr hr.units) (by rfl) T.m_sorted bb_sorted (pa_cons (pe_lc (own := [("word", 3)]) (g := gName 3) (tt := tYes) rfl sc_law_ordered.nd (pi_list (pv 0)) (blkOk_by (N := N_law_ordered) (sc := defScope s_law_ordered) (by decide +kernel)) (fun _ _ _ _ _ => (pg_name (i := 3) sc_law_ordered.nd rfl (by first | exact Or.inl rfl | exact Or.inr rfl))) (fun _ _ _ _ _ => pts_nil) (fun _ _ _ _ _ => (pe_tup (pa_cons (pe_callB cr_lenT (by rfl) T.m_len bb_len (pa_cons (pv 3) pa_nil)) (pa_cons (pv 3) pa_nil))))) pa_nil))) (pg_name (i := 2) sc_law_ordered.nd rfl (by first | exact Or.inl rfl | exact Or.inr rfl)) (pss_one (ps_if (PW.pt (pw_or (pt_cmpR op_eq (pe_callB cr_lenQ (by rfl) T.m_len bb_len (pa_cons (pv 1) pa_nil)) pe_int (nomark _)) (pw_or1 (pt_cmpR op_ne (pe_ix ix_list (pv 1) (pe_un un_neg pe_int) (fun _ _ => rfl)) (pe_ix ix_tup (pv 2) pe_int (fun _ _ => rfl)) (nomark _))))) (pss_one (ps_expr (pe_bm PySem.F.plainAttrs_list PySem.F.slot_list_append PySem.F.type_list_append mt_append (pv 1) (pa_cons (pe_ix ix_tup (pv 2) pe_int (fun _ _ => rfl)) pa_nil)))) pss_nil))) (pss_one (ps_ret (pv 1))))), ?_⟩
  refine Call.body (sl := [va words, none, none, none]) h rfl fun G0_ H0_ => ?_
  have hpre_ := hpre; unfold pre_law_ordered at hpre_
  show Do _ _ ⟨[va words, none, none, none], []⟩ _
  refine do_seq (do_asgL (i := 1) (evl_lstD (xs := ([] : List Str)) ea_nil (by simp)) fun a_told told h_told => ?_)
  show Do _ _ ⟨[va words, va (Adr.mk a_told), none, none], [(a_told, ownL told)]⟩ _
  refine do_seq (do_forW (ei_list (evl_val (evl_sortedP (ea_consD (evl_val (evl_lcM (h := fun (word : Str) => (((word).length : Int), word)) (ei_list (ev_var (i := 0) rfl)) eg_name (by simp) (by walk_at "fsc") (fun pre_ word post_ hs_ dc_ => (ev_pair (ea_consD (ev_cbD (ea_consD (ev_var (i := 3) rfl) ea_nil) (rc_lenT (by have h1 := hpre_.2 word (mem_mid hs_); omega))) (ea_consD (ev_var (i := 3) rfl) ea_nil)))))) ea_nil) (by walk_at "fsc")))) eg_name (fun (pre : List (Int × Str)) e_ => ∃ (to : List Str), (OrdI pre to) ∧ e_ = ⟨[va words, va (Adr.mk a_told), none, none], [(a_told, ownL to)]⟩) ?_ ?_ ?_)
  ·
    refine ⟨⟨[va words, va (Adr.mk a_told), none, none], [(a_told, ownL _)]⟩, ⟨⟨Or.inr rfl, ⟨Or.inr rfl, ⟨Or.inl rfl, ⟨Or.inl rfl, trivial⟩⟩⟩⟩, (.cons₂ _ .slnil)⟩, _, ?_, rfl⟩
    · -- vc 0
      rw [h_told]; exact ordI_0
  ·
    rintro pre x post e_ hsplit ⟨to, hI, rfl⟩
    have hlen_hsplit := congrArg List.length hsplit; simp only [List.length_append, List.length_cons, List.length_nil, List.length_map, signs_len, rngI_len, enumI_len, keysD_len] at hlen_hsplit
    show Do _ _ ⟨[va words, va (Adr.mk a_told), va x, none], [(a_told, ownL to)]⟩ _
    refine do_ifD (et_orD (et_test (ev_opD (ev_cbD (ea_consD (ev_var (i := 1) rfl) ea_nil) (rc_lenO (k := 0) rfl)) ev_int r2_eqI)) (fun hb => (et_test (ev_opD (ev_opD (ev_var (i := 1) rfl) (ev_neg ev_int) (r2_ixOn (j := 0) (d := dS) rfl (by walk_at "fsc"))) (ev_opD (ev_var (i := 2) rfl) ev_int (r2_snd rfl)) r2_neS)))) (fun h_if => ?_) (fun h_if => ?_)
    ·
      refine do_append (k := 0) rfl (ev_var (i := 1) rfl) (ev_opD (ev_var (i := 2) rfl) ev_int (r2_snd rfl)) (by have h1 := hI.2.2.2; have h2 := hpre_.1; rw [sortP_len, List.length_map] at hlen_hsplit; omega) fun (y : Str) h_y => ?_
      refine ⟨⟨[va words, va (Adr.mk a_told), none, none], [(a_told, ownL _)]⟩, ⟨⟨Or.inr rfl, ⟨Or.inr rfl, ⟨Or.inl rfl, ⟨Or.inl rfl, trivial⟩⟩⟩⟩, (.cons₂ _ .slnil)⟩, _, ?_, rfl⟩
      · -- vc 1
        rw [h_y]; exact ordI_new hsplit hI h_if
    ·
      refine do_next ?_
      refine ⟨⟨[va words, va (Adr.mk a_told), none, none], [(a_told, ownL _)]⟩, ⟨⟨Or.inr rfl, ⟨Or.inr rfl, ⟨Or.inl rfl, ⟨Or.inl rfl, trivial⟩⟩⟩⟩, (.cons₂ _ .slnil)⟩, _, ?_, rfl⟩
      · -- vc 2
        exact ordI_old hI h_if
  ·
    rintro e_ ⟨to, hI, rfl⟩
    show Do _ _ ⟨[va words, va (Adr.mk a_told), none, none], [(a_told, ownL to)]⟩ _
    refine do_freeze (k := 0) (j := 1) rfl rfl ?_
    show Do _ _ ⟨[va words, va to, none, none], []⟩ _
    refine do_ret (ev_var (i := 1) rfl) fun z h_ret => ?_
    refine ⟨_, .slnil, rfl, ?_⟩
    · -- vc 3
      rw [h_ret]; exact ordI_end hI

end
end LL

namespace LL
open PySem L2 Fw Lm
local macro_rules | `(tactic| walk_at "fsc") => `(tactic| first | omega | assumption | exact True.intro | exact sgn_split (by assumption) | exact sgn_split2 (by assumption) | (intros; omega) | (with_reducible exact emod_both (by omega)) | (simp only [Bool.not_eq_true', Bool.not_eq_false', decide_eq_true_eq, decide_eq_false_iff_not, Bool.or_eq_false_iff, Bool.and_eq_true, List.length_cons, List.length_nil, List.length_append, List.length_cons, List.length_nil, List.length_map, signs_len, rngI_len, enumI_len, keysD_len, pre_check_letters, post_check_letters, pre_check_word, post_check_word, pre_order_key, post_order_key, pre_in_order, post_in_order, pre_check_words, post_check_words, pre_Sample___init, post_Sample___init, pre_written, post_written, pre_word_of, post_word_of, pre_are_letters, post_are_letters, pre_sample_text, post_sample_text, pre_read_sample, post_read_sample, pre_law_start, pre_law_next, post_law_next, pre_law_integer, post_law_integer, pre_law_alphabet, post_law_alphabet, pre_law_word, post_law_word, pre_law_ordered, post_law_ordered, pre_law_text, post_law_text, pre_law_good_letters, post_law_good_letters, pre_law_read, post_law_read, pre_law_words_are, post_law_words_are, pre_law_reads, post_law_reads, pre_law_word_at, post_law_word_at, pre_law_climbing, post_law_climbing, pre_law_spoilt, post_law_spoilt, pre_law_large, post_law_large, pre_law, post_law] at *; first | omega | assumption | (refine ⟨?_, ?_⟩ <;> first | omega | assumption) | (refine ⟨?_, ?_, ?_⟩ <;> first | omega | assumption)) | (have hl_ := congrArg List.length hs_; simp only [List.length_append, List.length_cons, List.length_nil, List.length_map, signs_len, rngI_len, enumI_len, keysD_len] at hl_; omega) | (have hr_ := rng_split hs_; omega) | exact (by decide : 1 ≤ (" " : Str).length) | exact (by decide : 1 ≤ ("\n" : Str).length) | exact rfl)
local macro_rules | `(tactic| walk_at "fvc") => `(tactic| first | rfl | exact True.intro | assumption | omega)
local macro_rules | `(tactic| walk_at "fxp") => `(tactic| first | exact hx_ | assumption)
local macro_rules | `(tactic| walk_at "frs") => `(tactic| first | assumption)

section
variable {P : Program} {w : World} {K : PySem.W.Frag} {mg : Str → Option Value} {base : Heap} {A : Ad}
abbrev s_law_read : Stmt := topS 34
abbrev N_law_read : List Str := ["text", "rows", "head", "yes", "no", "k", "parts", "word", "before", "sign"]
theorem sc_law_read : FnScope N_law_read ["text"] (defScope s_law_read) := ⟨rfl, rfl, rfl, by decide +kernel, rfl, by decide +kernel, by decide +kernel⟩
set_option maxHeartbeats 4000000 in
theorem ok_law_read (T : Tx K mg A) (h_law_good_letters : Cal P w K mg base 1 A.law_good_letters "_law_good_letters" ["text"] (sp_law_good_letters K)) {fd : FuncData} (F : Fun K "_law_read" "_law_read" s_law_read A.law_read fd) : FnOk P w K mg base (L2N.CX P w) 2 A.law_read fd ["text"] (sp_law_read K) := by
  refine okN F sc_law_read (fun us H Q E ⟨text, hpre, h⟩ => h.len) (fun cdv A_ outer s_ H us Q E hr ⟨text, hpre, h⟩ => ?_)
  refine ⟨_, (pss_cons (ps_set (i := 1) sc_law_read.nd rfl (by first | exact Or.inl rfl | exact Or.inr rfl) (pe_bm PySem.F.plainAttrs_str PySem.F.slot_str_split PySem.F.type_str_split mt_splitS (pv 0) (pa_cons pe_str pa_nil))) (pss_cons (ps_set (i := 2) sc_law_read.nd rfl (by first | exact Or.inl rfl | exact Or.inr rfl) (pe_bm PySem.F.plainAttrs_str PySem.F.slot_str_split PySem.F.type_str_split mt_splitS (pe_ix ix_list (pv 1) pe_int (fun _ _ => rfl)) (pa_cons pe_str pa_nil))) (pss_cons (ps_if (PW.pt (pw_or (pt_cmpR op_ne (pe_callB cr_lenQ (by rfl) T.m_len bb_len (pa_cons (pv 2) pa_nil)) pe_int (nomark _)) (pw_or (pt_cmpR op_ne (pe_ix ix_list (pv 2) pe_int (fun _ _ => rfl)) pe_str (nomark _)) (pw_or1 (pt_not (pt_val (pe_cal (W := (fun _ _ _ _ => False)) h_law_good_letters (hr.mono (by decide)) takes0N (pa_cons (pe_ix ix_list (pv 2) pe_int (fun _ _ => rfl)) pa_nil)))))))) (pss_one (ps_ret (pe_tup (pa_cons pe_int (pa_cons pe_str (pa_cons (pe_lst pa_nil) (pa_cons (pe_lst pa_nil) pa_nil))))))) pss_nil) (pss_cons (ps_set (i := 3) sc_law_read.nd rfl (by first | exact Or.inl rfl | exact Or.inr rfl) (pe_lst pa_nil)) (pss_cons (ps_set (i := 4) sc_law_read.nd rfl (by first | exact Or.inl rfl | exact Or.inr rfl) (pe_lst pa_nil)) (pss_cons (ps_for (passes_of rfl) rfl (pi_range2 (by rfl) T.m_range (pa_cons pe_int (pa_cons (pe_callB cr_lenQ (by rfl) T.m_len bb_len (pa_cons (pv 1) pa_nil)) pa_nil))) (pg_name (i := 5) sc_law_read.nd rfl (by first | exact Or.inl rfl | exact Or.inr rfl)) (pss_cons (ps_set (i := 6) sc_law_read.nd rfl (by first | exact Or.inl rfl | exact Or.inr rfl) (pe_bm PySem.F.plainAttrs_str PySem.F.slot_str_split PySem.F.type_str_split mt_splitS (pe_ix ix_list (pv 1) (pv 5) (fun _ _ => rfl)) (pa_cons pe_str pa_nil))) (pss_cons (ps_if (PW.pt (pw_or (pt_cmpR op_ne (pe_callB cr_lenQ (by rfl) T.m_len bb_len (pa_cons (pv 6) pa_nil)) pe_int (nomark _)) (pw_or (pt_cmpR op_notIn_seq (pe_ix ix_list (pv 6) pe_int (fun _ _ => rfl)) (pe_lst (pa_cons pe_str (pa_cons pe_str pa_nil))) rfl) (pw_or1 (PW.pt (pw_and (pt_cmpR op_eq (pe_ix ix_list (pv 6) pe_int (fun _ _ => rfl)) pe_str (nomark _)) (pw_and1 (pt_cmpR op_gt (pe_callB cr_lenQ (by rfl) T.m_len bb_len (pa_cons (pv 4) pa_nil)) pe_int (nomark _))))))))) (pss_one (ps_ret (pe_tup (pa_cons (pe_op op_add (pv 5) pe_int) (pa_cons pe_str (pa_cons (pe_lst pa_nil) (pa_cons (pe_lst pa_nil) pa_nil))))))) pss_nil) (pss_cons (ps_set (i := 7) sc_law_read.nd rfl (by first | exact Or.inl rfl | exact Or.inr rfl) (pe_ix ix_list (pv 6) pe_int (fun _ _ => rfl))) (pss_cons (ps_if (pt_cmpR op_eq (pv 7) pe_str (nomark _)) (pss_one (ps_set (i := 7) sc_law_read.nd rfl (by first | exact Or.inl rfl | exact Or.inr rfl) pe_str)) (pss_one (ps_if (PW.pt (pw_or (pt_cmpR op_eq (pv 7) pe_str (nomark _)) (pw_or (pt_cmpR op_gt (pe_callB cr_lenT (by rfl) T.m_len bb_len (pa_cons (pv 7) pa_nil)) pe_int (nomark _)) (pw_or1 (pt_val (pe_callB (cr_any rfl) (by rfl) T.m_any bb_any (pa_cons (pe_lc (own := [("sign", 9)]) (g := gName 9) (tt := tYes) rfl sc_law_read.nd (pi_str (pv 7)) (blkOk_by (N := N_law_read) (sc := defScope s_law_read) (by decide +kernel)) (fun _ _ _ _ _ => (pg_name (i := 9) sc_law_read.nd rfl (by first | exact Or.inl rfl | exact Or.inr rfl))) (fun _ _ _ _ _ => pts_nil) (fun _ _ _ _ _ => (pe_cmpR op_niG (pv 9) (pe_ix (ix_listK (K := K) rfl) (pv 2) pe_int (fun _ _ => rfl)) rfl))) pa_nil))))))) (pss_one (ps_ret (pe_tup (pa_cons (pe_op op_add (pv 5) pe_int) (pa_cons pe_str (pa_cons (pe_lst pa_nil) (pa_cons (pe_lst pa_nil) pa_nil))))))) pss_nil))) (pss_cons (ps_set (i := 8) sc_law_read.nd rfl (by first | exact Or.inl rfl | exact Or.inr rfl) (pv 4)) (pss_cons (ps_if (pt_cmpR op_eq (pe_ix ix_list (pv 6) pe_int (fun _ _ => rfl)) pe_str (nomark _)) (pss_one (ps_set (i := 8) sc_law_read.nd rfl (by first | exact Or.inl rfl | exact Or.inr rfl) (pv 3))) pss_nil) (pss_cons (ps_if (PW.pt (pw_or (pt_cmpR op_gt (pe_callB cr_lenQ (by rfl) T.m_len bb_len (pa_cons (pv 8) pa_nil)) pe_int (nomark _)) (pw_or1 (PW.pt (pw_and (pt_cmpR op_gt (pe_callB cr_lenQ (by rfl) T.m_len bb_len (pa_cons (pv 8) pa_nil)) pe_int (nomark _)) (pw_and1 (pt_cmpR (op_leP (Nat.lt_of_le_of_lt (Nat.le_add_right _ _) hr.units)) (pe_tup (pa_cons (pe_callB cr_lenT (by rfl) T.m_len bb_len (pa_cons (pv 7) pa_nil)) (pa_cons (pv 7) pa_nil))) (pe_tup (pa_cons (pe_callB cr_lenT (by rfl) T.m_len bb_len (pa_cons (pe_ix ix_list (pv 8) (pe_un un_neg pe_int) (fun _ _ => rfl)) pa_nil)) (pa_cons (pe_ix ix_list (pv 8) (pe_un un_neg pe_int) (fun _ _ => rfl)) pa_nil))) (nomark _)))))))) (pss_one (ps_ret (pe_tup (pa_cons (pe_op op_add (pv 5) pe_int) (pa_cons pe_str (pa_cons (pe_lst pa_nil) (pa_cons (pe_lst pa_nil) pa_nil))))))) pss_nil) (pss_one (ps_if (pt_cmpR op_eq (pe_ix ix_list (pv 6) pe_int (fun _ _ => rfl)) pe_str (nomark _)) (pss_one (ps_set (i := 3) sc_law_read.nd rfl (by first | exact Or.inl rfl | exact Or.inr rfl) (pe_op op_cat (pv 3) (pe_lst (pa_cons (pv 7) pa_nil))))) (pss_one (ps_set (i := 4) sc_law_read.nd rfl (by first | exact Or.inl rfl | exact Or.inr rfl) (pe_op op_cat (pv 4) (pe_lst (pa_cons (pv 7) pa_nil))))))))))))))) (pss_one (ps_ret (pe_tup (pa_cons pe_int (pa_cons (pe_ix ix_list (pv 2) pe_int (fun _ _ => rfl)) (pa_cons (pv 3) (pa_cons (pv 4) pa_nil))))))))))))), ?_⟩
  refine Call.body (sl := [va text, none, none, none, none, none, none, none, none, none]) h rfl fun G0_ H0_ => ?_
  have hpre_ := hpre; unfold pre_law_read at hpre_
  show Do _ _ ⟨[va text, none, none, none, none, none, none, none, none, none], []⟩ _
  refine do_seq (do_asg (i := 1) (evl_val (evl_split (ev_var (i := 0) rfl) (ea_consD ev_str ea_nil) (by walk_at "fsc") (by walk_at "fsc"))) fun (rows : (List Str)) h_rows => ?_)
  have hLf := lines_facts h_rows hpre_
  show Do _ _ ⟨[va text, va rows, none, none, none, none, none, none, none, none], []⟩ _
  refine do_seq (do_asg (i := 2) (evl_val (evl_split (ev_opD (ev_var (i := 1) rfl) ev_int (r2_ixLp (d := dS) (by have h1 := hLf.1; omega))) (ea_consD ev_str ea_nil) (by walk_at "fsc") (by exact Nat.le_trans (hLf.2.2 _) (by decide)))) fun (head : (List Str)) h_head => ?_)
  have hH := head_is (text := text) (head := head) (by rw [h_head, h_rows]; rfl)
  have hPf := parts_facts h_head (hLf.2.2 _)
  show Do _ _ ⟨[va text, va rows, va head, none, none, none, none, none, none, none], []⟩ _
  refine do_seq (do_ifD (et_orD (et_test (ev_opD (ev_cbD (ea_consD (ev_var (i := 2) rfl) ea_nil) rc_lenL) ev_int r2_neI)) (fun hb => (et_orD (et_test (ev_opD (ev_opD (ev_var (i := 2) rfl) ev_int (r2_ixLp (d := dS) (by walk_at "fsc"))) ev_str r2_neS)) (fun hb1 => (et_notD (et_B (ev_callP (W := (fun _ _ _ _ => False)) (P' := (· = (decide (goodL (head.getD ((1 : Int)).toNat dS))))) (fun _ => False) (ea_consD (ev_opD (ev_var (i := 2) rfl) ev_int (r2_ixLp (d := dS) (by walk_at "fsc"))) ea_nil) (fun ss_ hs_ us_ H_ Q_ E_ h_ => by obtain rfl := hs_; exact ⟨(head.getD ((1 : Int)).toNat dS), (by exact Nat.le_trans (hPf.2.2 _) (by decide)), Call.imp h_ (fun r_ c_ hq_ => hq_) (fun x_ c_ hq_ => hq_)⟩) (fun x_ hx_ => hx_.elim)))))))) (fun h_if => ?_) (fun h_if => ?_))
  ·
    refine do_ret (ev_tupS (by simp) (ea_consD ev_int (ea_consD ev_str (ea_consD (evl_val (evl_lstD (xs := ([] : List Str)) ea_nil (by simp))) (ea_consD (evl_val (evl_lstD (xs := ([] : List Str)) ea_nil (by simp))) ea_nil))))) fun z h_ret => ?_
    refine ⟨_, .slnil, rfl, ?_⟩
    · -- vc 0
      rw [h_ret]; exact ⟨1, "", [], [], rfl, .inr ⟨by decide, rdS_no (by rw [hH] at h_if; simpa using h_if)⟩⟩
  ·
    refine do_next ?_
    show Do _ _ ⟨[va text, va rows, va head, none, none, none, none, none, none, none], []⟩ _
    refine do_seq (do_asg (i := 3) (evl_val (evl_lstD (xs := ([] : List Str)) ea_nil (by simp))) fun (yes : (List Str)) h_yes => ?_)
    show Do _ _ ⟨[va text, va rows, va head, va yes, none, none, none, none, none, none], []⟩ _
    refine do_seq (do_asg (i := 4) (evl_val (evl_lstD (xs := ([] : List Str)) ea_nil (by simp))) fun (no : (List Str)) h_no => ?_)
    show Do _ _ ⟨[va text, va rows, va head, va yes, va no, none, none, none, none, none], []⟩ _
    refine do_seq (do_forW (ei_rng2 (ea_consD ev_int (ea_consD (ev_cbD (ea_consD (ev_var (i := 1) rfl) ea_nil) rc_lenL) ea_nil)) (by have h1 := hLf.2.1; omega)) eg_name (fun (pre : List Int) e_ => ∃ (ys : List Str) (ns : List Str), (RdS text pre.length ys ns) ∧ e_ = ⟨[va text, va rows, va head, va ys, va ns, none, none, none, none, none], []⟩) ?_ ?_ ?_)
    ·
      refine ⟨⟨[va text, va rows, va head, va _, va _, none, none, none, none, none], []⟩, ⟨⟨Or.inr rfl, ⟨Or.inr rfl, ⟨Or.inr rfl, ⟨Or.inr rfl, ⟨Or.inr rfl, ⟨Or.inl rfl, ⟨Or.inl rfl, ⟨Or.inl rfl, ⟨Or.inl rfl, ⟨Or.inl rfl, trivial⟩⟩⟩⟩⟩⟩⟩⟩⟩⟩, .slnil⟩, _, _, ?_, rfl⟩
      · -- vc 1
        rw [h_yes, h_no]; exact rdS_0
    ·
      rintro pre k post e_ hsplit ⟨ys, ns, hI, rfl⟩
      have hlen_hsplit := congrArg List.length hsplit; simp only [List.length_append, List.length_cons, List.length_nil, List.length_map, signs_len, rngI_len, enumI_len, keysD_len] at hlen_hsplit
      have hrng_hsplit := rng_split hsplit
      show Do _ _ ⟨[va text, va rows, va head, va ys, va ns, va k, none, none, none, none], []⟩ _
      refine do_seq (do_asg (i := 6) (evl_val (evl_split (ev_opD (ev_var (i := 1) rfl) (ev_var (i := 5) rfl) (r2_ixLp (d := dS) (by walk_at "fsc"))) (ea_consD ev_str ea_nil) (by walk_at "fsc") (by exact Nat.le_trans (hLf.2.2 _) (by decide)))) fun (parts : (List Str)) h_parts => ?_)
      have hk : headOk text := (by rw [hH] at h_if; simpa using h_if)
      have hhd : head.getD (1 : Int).toNat dS = headL text := (by rw [h_head, h_rows]; rfl)
      have hhd1 : head.getD 1 dS = headL text := hhd
      have hg := rdS_good hI
      have hPl := parts_facts h_parts (hLf.2.2 _)
      show Do _ _ ⟨[va text, va rows, va head, va ys, va ns, va k, va parts, none, none, none], []⟩ _
      refine do_seq (do_ifD (et_orD (et_test (ev_opD (ev_cbD (ea_consD (ev_var (i := 6) rfl) ea_nil) rc_lenL) ev_int r2_neI)) (fun hb3 => (et_orD (et_test (ev_opD (ev_opD (ev_var (i := 6) rfl) ev_int (r2_ixLp (d := dS) (by walk_at "fsc"))) (evl_val (evl_lstD (xs := ([("yes" : Str), ("no" : Str)] : List Str)) (ea_consD ev_str (ea_consD ev_str ea_nil)) (by simp))) r2_niLS)) (fun hb4 => (et_andD (et_test (ev_opD (ev_opD (ev_var (i := 6) rfl) ev_int (r2_ixLp (d := dS) (by walk_at "fsc"))) ev_str r2_eqS)) (fun hb6 => (et_test (ev_opD (ev_cbD (ea_consD (ev_var (i := 4) rfl) ea_nil) rc_lenL) ev_int r2_gt)))))))) (fun h_if1 => ?_) (fun h_if1 => ?_))
      ·
        refine do_ret (ev_tupS (by simp) (ea_consD (ev_opD (ev_var (i := 5) rfl) ev_int r2_add) (ea_consD ev_str (ea_consD (evl_val (evl_lstD (xs := ([] : List Str)) ea_nil (by simp))) (ea_consD (evl_val (evl_lstD (xs := ([] : List Str)) ea_nil (by simp))) ea_nil))))) fun z h_ret => ?_
        refine ⟨_, .slnil, rfl, ?_⟩
        · -- vc 2
          rw [h_ret]; exact ⟨k + 1, "", [], [], rfl, .inr (lw_err h_rows hk hrng_hsplit.1 hrng_hsplit.2 hI (lw_1 h_parts h_if1))⟩
      ·
        refine do_next ?_
        show Do _ _ ⟨[va text, va rows, va head, va ys, va ns, va k, va parts, none, none, none], []⟩ _
        refine do_seq (do_asg (i := 7) (ev_opD (ev_var (i := 6) rfl) ev_int (r2_ixLp (d := dS) (by walk_at "fsc"))) fun (word : Str) h_word => ?_)
        show Do _ _ ⟨[va text, va rows, va head, va ys, va ns, va k, va parts, va word, none, none], []⟩ _
        refine do_seqJ (fun e_ => ∃ (wo : Str), (wordO (head.getD 1 dS) (parts.getD 1 dS) = some wo) ∧ (wo.length ≤ 24) ∧ e_ = ⟨[va text, va rows, va head, va ys, va ns, va k, va parts, va wo, none, none], []⟩) ?_ ?_
        ·
          refine do_ifD (et_test (ev_opD (ev_var (i := 7) rfl) ev_str r2_eqS)) (fun h_if2 => ?_) (fun h_if2 => ?_)
          ·
            refine do_asg (i := 7) ev_str fun (word1 : Str) h_word1 => ?_
            refine ⟨⟨[va text, va rows, va head, va ys, va ns, va k, va parts, va _, none, none], []⟩, ⟨⟨Or.inr rfl, ⟨Or.inr rfl, ⟨Or.inr rfl, ⟨Or.inr rfl, ⟨Or.inr rfl, ⟨Or.inr rfl, ⟨Or.inr rfl, ⟨Or.inr rfl, ⟨Or.inl rfl, ⟨Or.inl rfl, trivial⟩⟩⟩⟩⟩⟩⟩⟩⟩⟩, .slnil⟩, _, ?_, ?_, rfl⟩
            · -- vc 3
              rw [h_word1]; exact lw_3 h_word h_if2
            · -- vc 4
              rw [h_word1]; exact Nat.zero_le _
          ·
            refine do_ifD (et_orD (et_test (ev_opD (ev_var (i := 7) rfl) ev_str r2_eqS)) (fun hb8 => (et_orD (et_test (ev_opD (ev_cbD (ea_consD (ev_var (i := 7) rfl) ea_nil) (rc_lenT (by rw [h_word]; exact Nat.le_trans (hPl.2.2 _) (by decide)))) ev_int r2_gt)) (fun hb9 => (et_B (ev_cbD (ea_consD (evl_val (evl_lcM (h := fun (sign : Str) => (!decide (sgn sign ∈ tl (head.getD ((1 : Int)).toNat dS)))) (ei_str (ev_var (i := 7) rfl)) eg_name (by simp) (by walk_at "fsc") (fun pre_ sign post_ hs_ dc_ => (ev_opD (ev_var (i := 9) rfl) (ev_opD (ev_var (i := 2) rfl) ev_int (r2_ixLp (d := dS) (by walk_at "fsc"))) (r2_niG (by walk_at "fsc")))))) ea_nil) rc_any)))))) (fun h_if3 => ?_) (fun h_if3 => ?_)
            ·
              refine do_ret (ev_tupS (by simp) (ea_consD (ev_opD (ev_var (i := 5) rfl) ev_int r2_add) (ea_consD ev_str (ea_consD (evl_val (evl_lstD (xs := ([] : List Str)) ea_nil (by simp))) (ea_consD (evl_val (evl_lstD (xs := ([] : List Str)) ea_nil (by simp))) ea_nil))))) fun z h_ret => ?_
              refine ⟨_, .slnil, rfl, ?_⟩
              · -- vc 5
                have h2 := lw_2 h_if1
                rw [hhd] at h_if3
                rw [h_ret]; exact ⟨k + 1, "", [], [], rfl, .inr (lw_err h_rows hk hrng_hsplit.1 hrng_hsplit.2 hI (lw_5 h_parts h2.1 h2.2.1 h_word h_if2 h_if3))⟩
            ·
              refine do_next ?_
              refine ⟨⟨[va text, va rows, va head, va ys, va ns, va k, va parts, va _, none, none], []⟩, ⟨⟨Or.inr rfl, ⟨Or.inr rfl, ⟨Or.inr rfl, ⟨Or.inr rfl, ⟨Or.inr rfl, ⟨Or.inr rfl, ⟨Or.inr rfl, ⟨Or.inr rfl, ⟨Or.inl rfl, ⟨Or.inl rfl, trivial⟩⟩⟩⟩⟩⟩⟩⟩⟩⟩, .slnil⟩, _, ?_, ?_, rfl⟩
              · -- vc 6
                rw [hhd] at h_if3; rw [hhd1]; exact (lw_6 h_word h_if2 h_if3).1
              · -- vc 7
                rw [hhd] at h_if3; exact (lw_6 h_word h_if2 h_if3).2
        ·
          rintro e_ ⟨wo, hW, hWl, rfl⟩
          show Do _ _ ⟨[va text, va rows, va head, va ys, va ns, va k, va parts, va wo, none, none], []⟩ _
          refine do_seq (do_asg (i := 8) (ev_var (i := 4) rfl) fun (before : (List Str)) h_before => ?_)
          show Do _ _ ⟨[va text, va rows, va head, va ys, va ns, va k, va parts, va wo, va before, none], []⟩ _
          refine do_seqJ (fun e_ => ∃ (be : List Str), (be = if parts.getD 0 dS = "yes" then ys else ns) ∧ e_ = ⟨[va text, va rows, va head, va ys, va ns, va k, va parts, va wo, va be, none], []⟩) ?_ ?_
          ·
            refine do_ifD (et_test (ev_opD (ev_opD (ev_var (i := 6) rfl) ev_int (r2_ixLp (d := dS) (by walk_at "fsc"))) ev_str r2_eqS)) (fun h_if4 => ?_) (fun h_if4 => ?_)
            ·
              refine do_asg (i := 8) (ev_var (i := 3) rfl) fun (before1 : (List Str)) h_before1 => ?_
              refine ⟨⟨[va text, va rows, va head, va ys, va ns, va k, va parts, va wo, va _, none], []⟩, ⟨⟨Or.inr rfl, ⟨Or.inr rfl, ⟨Or.inr rfl, ⟨Or.inr rfl, ⟨Or.inr rfl, ⟨Or.inr rfl, ⟨Or.inr rfl, ⟨Or.inr rfl, ⟨Or.inr rfl, ⟨Or.inl rfl, trivial⟩⟩⟩⟩⟩⟩⟩⟩⟩⟩, .slnil⟩, _, ?_, rfl⟩
              · -- vc 8
                rw [h_before1]; exact (if_pos (of_decide_eq_true h_if4)).symm
            ·
              refine do_next ?_
              refine ⟨⟨[va text, va rows, va head, va ys, va ns, va k, va parts, va wo, va _, none], []⟩, ⟨⟨Or.inr rfl, ⟨Or.inr rfl, ⟨Or.inr rfl, ⟨Or.inr rfl, ⟨Or.inr rfl, ⟨Or.inr rfl, ⟨Or.inr rfl, ⟨Or.inr rfl, ⟨Or.inr rfl, ⟨Or.inl rfl, trivial⟩⟩⟩⟩⟩⟩⟩⟩⟩⟩, .slnil⟩, _, ?_, rfl⟩
              · -- vc 9
                rw [h_before]; exact (if_neg (of_decide_eq_false h_if4)).symm
          ·
            rintro e_ ⟨be, hB, rfl⟩
            show Do _ _ ⟨[va text, va rows, va head, va ys, va ns, va k, va parts, va wo, va be, none], []⟩ _
            refine do_seq (do_ifD (et_orD (et_test (ev_opD (ev_cbD (ea_consD (ev_var (i := 8) rfl) ea_nil) rc_lenL) ev_int r2_gt)) (fun hb11 => (et_andD (et_test (ev_opD (ev_cbD (ea_consD (ev_var (i := 8) rfl) ea_nil) rc_lenL) ev_int r2_gt)) (fun hb13 => (et_test (ev_opD (ev_pair (ea_consD (ev_cbD (ea_consD (ev_var (i := 7) rfl) ea_nil) (rc_lenT (by walk_at "fsc"))) (ea_consD (ev_var (i := 7) rfl) ea_nil))) (ev_pair (ea_consD (ev_cbD (ea_consD (ev_opD (ev_var (i := 8) rfl) (ev_neg ev_int) (r2_ixLn (d := dS) (by walk_at "fsc"))) ea_nil) (rc_lenT (by rw [hB]; split; exact Nat.le_trans (good_at hg.1 _) (by decide); exact Nat.le_trans (good_at hg.2 _) (by decide)))) (ea_consD (ev_opD (ev_var (i := 8) rfl) (ev_neg ev_int) (r2_ixLn (d := dS) (by walk_at "fsc"))) ea_nil))) r2_leP)))))) (fun h_if5 => ?_) (fun h_if5 => ?_))
            ·
              refine do_ret (ev_tupS (by simp) (ea_consD (ev_opD (ev_var (i := 5) rfl) ev_int r2_add) (ea_consD ev_str (ea_consD (evl_val (evl_lstD (xs := ([] : List Str)) ea_nil (by simp))) (ea_consD (evl_val (evl_lstD (xs := ([] : List Str)) ea_nil (by simp))) ea_nil))))) fun z h_ret => ?_
              refine ⟨_, .slnil, rfl, ?_⟩
              · -- vc 10
                have h2 := lw_2 h_if1
                rw [hhd1] at hW
                rw [h_ret]; exact ⟨k + 1, "", [], [], rfl, .inr (lw_err h_rows hk hrng_hsplit.1 hrng_hsplit.2 hI (lw_10 h_parts h2.1 h2.2.1 hW hB (lw_no h_if5)))⟩
            ·
              refine do_next ?_
              show Do _ _ ⟨[va text, va rows, va head, va ys, va ns, va k, va parts, va wo, va be, none], []⟩ _
              refine do_ifD (et_test (ev_opD (ev_opD (ev_var (i := 6) rfl) ev_int (r2_ixLp (d := dS) (by walk_at "fsc"))) ev_str r2_eqS)) (fun h_if6 => ?_) (fun h_if6 => ?_)
              ·
                refine do_asg (i := 3) (evl_val (evl_cat (ev_var (i := 3) rfl) (evl_val (evl_lstD (xs := ([wo] : List Str)) (ea_consD (ev_var (i := 7) rfl) ea_nil) (by simp))) (by have h5 := hg.1.1; simp; omega))) fun (yes1 : (List Str)) h_yes1 => ?_
                refine ⟨⟨[va text, va rows, va head, va _, va _, none, none, none, none, none], []⟩, ⟨⟨Or.inr rfl, ⟨Or.inr rfl, ⟨Or.inr rfl, ⟨Or.inr rfl, ⟨Or.inr rfl, ⟨Or.inl rfl, ⟨Or.inl rfl, ⟨Or.inl rfl, ⟨Or.inl rfl, ⟨Or.inl rfl, trivial⟩⟩⟩⟩⟩⟩⟩⟩⟩⟩, .slnil⟩, _, _, ?_, rfl⟩
                · -- vc 11
                  have h2 := lw_2 h_if1
                  rw [hhd1] at hW
                  have hy := of_decide_eq_true h_if6
                  rw [if_pos (show parts.getD 0 dS = "yes" from hy)] at hB
                  rw [hB] at h_if5
                  rw [h_yes1, List.length_append, List.length_singleton]
                  exact lw_stp h_rows hrng_hsplit.1 hrng_hsplit.2 hI (yes_ok h_parts h2.1 hy (word := some wo) hW.symm rfl ⟨h2.2.2 hy, lw_yes hWl h_if5⟩)
              ·
                refine do_asg (i := 4) (evl_val (evl_cat (ev_var (i := 4) rfl) (evl_val (evl_lstD (xs := ([wo] : List Str)) (ea_consD (ev_var (i := 7) rfl) ea_nil) (by simp))) (by have h5 := hg.2.1; simp; omega))) fun (no1 : (List Str)) h_no1 => ?_
                refine ⟨⟨[va text, va rows, va head, va _, va _, none, none, none, none, none], []⟩, ⟨⟨Or.inr rfl, ⟨Or.inr rfl, ⟨Or.inr rfl, ⟨Or.inr rfl, ⟨Or.inr rfl, ⟨Or.inl rfl, ⟨Or.inl rfl, ⟨Or.inl rfl, ⟨Or.inl rfl, ⟨Or.inl rfl, trivial⟩⟩⟩⟩⟩⟩⟩⟩⟩⟩, .slnil⟩, _, _, ?_, rfl⟩
                · -- vc 12
                  have h2 := lw_2 h_if1
                  rw [hhd1] at hW
                  have hn := h2.2.1.resolve_left (of_decide_eq_false h_if6)
                  rw [if_neg (show ¬ parts.getD 0 dS = "yes" from of_decide_eq_false h_if6)] at hB
                  rw [hB] at h_if5
                  rw [h_no1, List.length_append, List.length_singleton]
                  exact lw_stp h_rows hrng_hsplit.1 hrng_hsplit.2 hI (no_ok h_parts h2.1 hn (word := some wo) hW.symm rfl (lw_yes hWl h_if5))
    ·
      rintro e_ ⟨ys, ns, hI, rfl⟩
      show Do _ _ ⟨[va text, va rows, va head, va ys, va ns, none, none, none, none, none], []⟩ _
      refine do_ret (ev_tupS (by simp) (ea_consD ev_int (ea_consD (ev_opD (ev_var (i := 2) rfl) ev_int (r2_ixLp (d := dS) (by walk_at "fsc"))) (ea_consD (ev_var (i := 3) rfl) (ea_consD (ev_var (i := 4) rfl) ea_nil))))) fun z h_ret => ?_
      refine ⟨_, .slnil, rfl, ?_⟩
      · -- vc 13
        have hk : headOk text := (by rw [hH] at h_if; simpa using h_if)
        have hhd : head.getD (1 : Int).toNat dS = headL text := (by rw [h_head, h_rows]; rfl)
        rw [h_ret, hhd]; refine ⟨0, headL text, ys, ns, rfl, .inl ⟨rfl, rdS_end hk ?_⟩⟩
        have hl : linesOf text = rows := h_rows.symm
        rw [rngI_len, show ((rows.length : Int) - 1).toNat = (linesOf text).length - 1 by (rw [hl]; omega)] at hI
        exact hI

end
end LL

namespace LL
open PySem L2 Fw Lm
local macro_rules | `(tactic| walk_at "fsc") => `(tactic| first | omega | assumption | exact True.intro | exact sgn_split (by assumption) | exact sgn_split2 (by assumption) | (intros; omega) | (with_reducible exact emod_both (by omega)) | (simp only [Bool.not_eq_true', Bool.not_eq_false', decide_eq_true_eq, decide_eq_false_iff_not, Bool.or_eq_false_iff, Bool.and_eq_true, List.length_cons, List.length_nil, List.length_append, List.length_cons, List.length_nil, List.length_map, signs_len, rngI_len, enumI_len, keysD_len, pre_check_letters, post_check_letters, pre_check_word, post_check_word, pre_order_key, post_order_key, pre_in_order, post_in_order, pre_check_words, post_check_words, pre_Sample___init, post_Sample___init, pre_written, post_written, pre_word_of, post_word_of, pre_are_letters, post_are_letters, pre_sample_text, post_sample_text, pre_read_sample, post_read_sample, pre_law_start, pre_law_next, post_law_next, pre_law_integer, post_law_integer, pre_law_alphabet, post_law_alphabet, pre_law_word, post_law_word, pre_law_ordered, post_law_ordered, pre_law_text, post_law_text, pre_law_good_letters, post_law_good_letters, pre_law_read, post_law_read, pre_law_words_are, post_law_words_are, pre_law_reads, post_law_reads, pre_law_word_at, post_law_word_at, pre_law_climbing, post_law_climbing, pre_law_spoilt, post_law_spoilt, pre_law_large, post_law_large, pre_law, post_law] at *; first | omega | assumption | (refine ⟨?_, ?_⟩ <;> first | omega | assumption) | (refine ⟨?_, ?_, ?_⟩ <;> first | omega | assumption)) | (have hl_ := congrArg List.length hs_; simp only [List.length_append, List.length_cons, List.length_nil, List.length_map, signs_len, rngI_len, enumI_len, keysD_len] at hl_; omega) | (have hr_ := rng_split hs_; omega) | exact (by decide : 1 ≤ (" " : Str).length) | exact (by decide : 1 ≤ ("\n" : Str).length) | exact rfl)
local macro_rules | `(tactic| walk_at "fvc") => `(tactic| first | rfl | exact True.intro | assumption | omega)
local macro_rules | `(tactic| walk_at "fxp") => `(tactic| first | exact hx_ | assumption)
local macro_rules | `(tactic| walk_at "frs") => `(tactic| first | assumption)

section
variable {P : Program} {w : World} {K : PySem.W.Frag} {mg : Str → Option Value} {base : Heap} {A : Ad}
abbrev s_law_reads : Stmt := topS 36
abbrev N_law_reads : List Str := ["text", "due", "e", "again", "sample"]
theorem sc_law_reads : FnScope N_law_reads ["text"] (defScope s_law_reads) := ⟨rfl, rfl, rfl, by decide +kernel, rfl, by decide +kernel, by decide +kernel⟩
set_option maxHeartbeats 4000000 in
theorem ok_law_reads (T : Tx K mg A) (e_law_integer : CalE P w K mg base 1 A.law_integer "_law_integer" ["actual"] (fun _ _ _ => sp_law_integer K)) (h_law_read : Cal P w K mg base 2 A.law_read "_law_read" ["text"] (sp_law_read K)) (h_law_words_are : Cal P w K mg base 1 A.law_words_are "_law_words_are" ["actual", "due"] (sp_law_words_are K)) (h_read_sample : Cal P w K mg base 8 A.read_sample "read_sample" ["text"] (sp_read_sample K A)) (h_sample_text : Cal P w K mg base 2 A.sample_text "sample_text" ["sample"] (sp_sample_text K A)) {fd : FuncData} (F : Fun K "_law_reads" "_law_reads" s_law_reads A.law_reads fd) : FnOk P w K mg base (L2N.CX P w) 9 A.law_reads fd ["text"] (sp_law_reads K) := by
  refine okN F sc_law_reads (fun us H Q E ⟨text, hpre, h⟩ => h.len) (fun cdv A_ outer s_ H us Q E hr ⟨text, hpre, h⟩ => ?_)
  refine ⟨_, (pss_cons (ps_set (i := 1) sc_law_reads.nd rfl (by first | exact Or.inl rfl | exact Or.inr rfl) (pe_cal (W := (fun _ _ _ _ => False)) h_law_read (hr.mono (by decide)) takes0N (pa_cons (pv 0) pa_nil))) (pss_cons (ps_tryA (i := 2) rfl rfl sc_law_reads.nd rfl rfl ⟨rfl, by decide, .inl T.k_LanguageError⟩ takes0N (fun W pn xe tk po => (pss_one (ps_set (i := 4) sc_law_reads.nd rfl (by first | exact Or.inl rfl | exact Or.inr rfl) (pe_cal (W := W) h_read_sample (hr.mono (by decide)) tk (pa_cons (pv 0) pa_nil))))) (fun a oe cls d pn hz hf => (pss_cons (ps_if (PW.pt (pw_or (pt_not (pt_val (pe_callB (Fw.call_isC hz.zc hf) (by rfl) T.m_isinstance bb_isinstance (pa_cons (pv 2) (pa_cons (pe_glob (v := .ref A.BadText) (by rfl) T.k_BadText rfl) pa_nil))))) (pw_or1 (pt_val (pe_callB (Fw.call_isCT hz.zc hf) (by rfl) T.m_isinstance bb_isinstance (pa_cons (pv 2) (pa_cons (pe_tup (pa_cons (pe_glob (v := .ref A.BadLetters) (by rfl) T.k_BadLetters rfl) (pa_cons (pe_glob (v := .ref A.BadWord) (by rfl) T.k_BadWord rfl) (pa_cons (pe_glob (v := .ref A.TooMany) (by rfl) T.k_TooMany rfl) pa_nil)))) pa_nil))))))) (pss_one (ps_ret pe_bl)) pss_nil) (pss_one (ps_ret (pe_and (pe_calE (a := a) (oe := oe) (W := (fun _ _ _ _ => False)) e_law_integer (by exact roomH_s hr (by decide : 1 ≤ 8)) (by exact List.mem_cons_self) (by exact hot_suite hz hf) hz.zc takes0N (pa_cons (pe_xf T.xf_BadText T.xna_BadText__line hz.zc hf (pv 2)) pa_nil)) (pe_and (pe_cmpR op_gt (pe_ix (ix_tupK (K := K) rfl) (pv 1) pe_int (fun _ _ => rfl)) pe_int (nomark _)) (pe_one (pe_cmpR op_eq (pe_xf T.xf_BadText T.xna_BadText__line hz.zc hf (pv 2)) (pe_ix (ix_tupK (K := K) rfl) (pv 1) pe_int (fun _ _ => rfl)) (nomark _)))))))))) (pss_cons (ps_if (PW.pt (pw_or (pt_cmpR op_gt (pe_ix ix_tup (pv 1) pe_int (fun _ _ => rfl)) pe_int (nomark _)) (pw_or1 (pt_not (pt_val (pe_callB (C8.call_isC T.ic_Sample) (by rfl) T.m_isinstance bb_isinstance (pa_cons (pv 4) (pa_cons (pe_glob (v := .ref A.Sample) (by rfl) T.g_Sample rfl) pa_nil)))))))) (pss_one (ps_ret pe_bl)) pss_nil) (pss_cons (ps_if (PW.pt (pw_or (pt_not (pt_val (pe_callB call_isi (by rfl) T.m_isinstance bb_isinstance (pa_cons (pe_fld (pv 4) rfl) (pa_cons (pe_bltn (v := .ty "str") (by rfl) T.m_str bb_str rfl) pa_nil))))) (pw_or1 (pt_cmpR op_ne (pe_fld (pv 4) rfl) (pe_ix ix_tup (pv 1) pe_int (fun _ _ => rfl)) (nomark _))))) (pss_one (ps_ret pe_bl)) pss_nil) (pss_cons (ps_if (PW.pt (pw_or (pt_not (pt_val (pe_cal (W := (fun _ _ _ _ => False)) h_law_words_are (hr.mono (by decide)) takes0N (pa_cons (pe_fld (pv 4) rfl) (pa_cons (pe_ix ix_tup (pv 1) pe_int (fun _ _ => rfl)) pa_nil))))) (pw_or1 (pt_not (pt_val (pe_cal (W := (fun _ _ _ _ => False)) h_law_words_are (hr.mono (by decide)) takes0N (pa_cons (pe_fld (pv 4) rfl) (pa_cons (pe_ix ix_tup (pv 1) pe_int (fun _ _ => rfl)) pa_nil)))))))) (pss_one (ps_ret pe_bl)) pss_nil) (pss_cons (ps_set (i := 3) sc_law_reads.nd rfl (by first | exact Or.inl rfl | exact Or.inr rfl) (pe_cal (W := (fun _ _ _ _ => False)) h_sample_text (hr.mono (by decide)) takes0N (pa_cons (pv 4) pa_nil))) (pss_one (ps_ret (pe_and (pe_callB call_isi (by rfl) T.m_isinstance bb_isinstance (pa_cons (pv 3) (pa_cons (pe_bltn (v := .ty "str") (by rfl) T.m_str bb_str rfl) pa_nil))) (pe_one (pe_cmpR op_eq (pv 3) (pv 0) (nomark _)))))))))))), ?_⟩
  refine Call.body (sl := [va text, none, none, none, none]) h rfl fun G0_ H0_ => ?_
  have hpre_ := hpre; unfold pre_law_reads at hpre_
  show Do _ _ ⟨[va text, none, none, none, none], []⟩ _
  refine do_seq (do_asg (i := 1) (ev_callP (W := (fun _ _ _ _ => False)) (P' := (fun (z_ : TupS) => post_law_read text z_)) (fun _ => False) (ea_consD (ev_var (i := 0) rfl) ea_nil) (fun ss_ hs_ us_ H_ Q_ E_ h_ => by obtain rfl := hs_; exact ⟨text, (by walk_at "fsc"), Call.imp h_ (fun r_ c_ hq_ => hq_) (fun x_ c_ hq_ => hq_)⟩) (fun x_ hx_ => hx_.elim)) fun (due : TupS) h_due => ?_)
  rcases h_due with ⟨n_, l_, ys_, ns_, rfl, hd_⟩
  ·
    show Do _ _ ⟨[va text, va (TupS.mk [vs n_, vs l_, vs ys_, vs ns_]), none, none, none], []⟩ _
    show Do _ _ ⟨[va text, va (TupS.mk [vs n_, vs l_, vs ys_, vs ns_]), none, none, none], []⟩ _
    refine do_seq (do_tryA (c := .ref A.LanguageError) (i := 2) (fun x_ e_ => ((∃ (line_ : Int), x_ = xdF A.BadText [("line", vs line_)] ∧ rdS text = .error line_)) ∧ e_ = ⟨[va text, va (TupS.mk [vs n_, vs l_, vs ys_, vs ns_]), none, none, none], []⟩) (fun W => ?_) ?_)
    ·
      show Do _ _ ⟨[va text, va (TupS.mk [vs n_, vs l_, vs ys_, vs ns_]), none, none, none], []⟩ _
      refine do_asg (i := 4) (ev_callP (W := W) (P' := (fun (z_ : (Mc_Sample A.Sample)) => post_read_sample text z_)) (fun x_ => xp_read_sample A text x_) (ea_consD (ev_var (i := 0) rfl) ea_nil) (fun ss_ hs_ us_ H_ Q_ E_ h_ => by obtain rfl := hs_; exact ⟨text, (by walk_at "fsc"), Call.imp h_ (fun r_ c_ hq_ => hq_) (fun x_ c_ hq_ => hq_)⟩) (fun x_ hx_ => ⟨rfl, ⟨by walk_at "fxp", rfl⟩⟩)) fun (sample : (Mc_Sample A.Sample)) h_sample => ?_
      show Do _ _ ⟨[va text, va (TupS.mk [vs n_, vs l_, vs ys_, vs ns_]), none, none, va sample], []⟩ _
      refine do_seq (do_ifD (et_orD (et_test (ev_opD (ev_opD (ev_var (i := 1) rfl) ev_int (r2_ixTS (y := n_) (k := 0) rfl rfl)) ev_int r2_gt)) (fun hb => (et_notD (et_B (ev_isI (ev_var (i := 4) rfl)))))) (fun h_if => ?_) (fun h_if => ?_))
      ·
        refine do_ret ev_bl fun z h_ret => ?_
        refine ⟨_, .slnil, rfl, ?_⟩
        · -- vc 0
          exfalso; simp at h_if; rcases hd_ with h9 | h9
          · omega
          · have h10 := h_sample.symm.trans h9.2; cases h10
      ·
        refine do_next ?_
        show Do _ _ ⟨[va text, va (TupS.mk [vs n_, vs l_, vs ys_, vs ns_]), none, none, va sample], []⟩ _
        refine do_seq (do_ifD (et_orD (et_notD (et_B (isi_F (ty := "str") (c := "str") (b := true) (ev_fld (y := (sample).letters) (ev_var (i := 4) rfl) T.o_Sample T.na_Sample__letters rfl) (fun _ => TyOf.str _) (by decide +kernel)))) (fun hb2 => (et_test (ev_opD (ev_fld (y := (sample).letters) (ev_var (i := 4) rfl) T.o_Sample T.na_Sample__letters rfl) (ev_opD (ev_var (i := 1) rfl) ev_int (r2_ixTS (y := l_) (k := 1) rfl rfl)) r2_neS)))) (fun h_if1 => ?_) (fun h_if1 => ?_))
        ·
          refine do_ret ev_bl fun z h_ret => ?_
          refine ⟨_, .slnil, rfl, ?_⟩
          · -- vc 1
            have h0 : n_ = 0 := (by simp at h_if; have h9 := hd_; rcases h9 with h9 | h9; exact h9.1; omega)
            have h7 : rdS text = .ok (l_, ys_, ns_) := (hd_.resolve_right (fun z => by omega)).2
            have h8 := h_sample.symm.trans h7
            have h8 := Except.ok.inj h8
            obtain ⟨e1, h8⟩ := Prod.mk.inj h8
            obtain ⟨e2, e3⟩ := Prod.mk.inj h8
            have hT := rdS_text h7
            exfalso; rw [e1] at h_if1; simp at h_if1
        ·
          refine do_next ?_
          show Do _ _ ⟨[va text, va (TupS.mk [vs n_, vs l_, vs ys_, vs ns_]), none, none, va sample], []⟩ _
          refine do_seq (do_ifD (et_orD (et_notD (et_B (ev_callP (W := (fun _ _ _ _ => False)) (P' := (· = true)) (fun _ => False) (ea_consD (ev_fld (y := (sample).yes) (ev_var (i := 4) rfl) T.o_Sample T.na_Sample__yes rfl) (ea_consD (ev_opD (ev_var (i := 1) rfl) ev_int (r2_ixTS (y := ys_) (k := 2) rfl rfl)) ea_nil)) (fun ss_ hs_ us_ H_ Q_ E_ h_ => by obtain rfl := hs_; exact ⟨(sample).yes, ys_, (by have h0 : n_ = 0 := (by simp at h_if; have h9 := hd_; rcases h9 with h9 | h9; exact h9.1; omega); have h7 : rdS text = .ok (l_, ys_, ns_) := (hd_.resolve_right (fun z => by omega)).2; have h8 := h_sample.symm.trans h7; have h8 := Except.ok.inj h8; obtain ⟨e1, h8⟩ := Prod.mk.inj h8; obtain ⟨e2, e3⟩ := Prod.mk.inj h8; have hT := rdS_text h7; exact ⟨e2, by have h11 := hT.2.2.1.1; omega⟩), Call.imp h_ (fun r_ c_ hq_ => hq_) (fun x_ c_ hq_ => hq_)⟩) (fun x_ hx_ => hx_.elim)))) (fun hb4 => (et_notD (et_B (ev_callP (W := (fun _ _ _ _ => False)) (P' := (· = true)) (fun _ => False) (ea_consD (ev_fld (y := (sample).no) (ev_var (i := 4) rfl) T.o_Sample T.na_Sample__no rfl) (ea_consD (ev_opD (ev_var (i := 1) rfl) ev_int (r2_ixTS (y := ns_) (k := 3) rfl rfl)) ea_nil)) (fun ss_ hs_ us_ H_ Q_ E_ h_ => by obtain rfl := hs_; exact ⟨(sample).no, ns_, (by have h0 : n_ = 0 := (by simp at h_if; have h9 := hd_; rcases h9 with h9 | h9; exact h9.1; omega); have h7 : rdS text = .ok (l_, ys_, ns_) := (hd_.resolve_right (fun z => by omega)).2; have h8 := h_sample.symm.trans h7; have h8 := Except.ok.inj h8; obtain ⟨e1, h8⟩ := Prod.mk.inj h8; obtain ⟨e2, e3⟩ := Prod.mk.inj h8; have hT := rdS_text h7; exact ⟨e3, by have h11 := hT.2.2.2.1; omega⟩), Call.imp h_ (fun r_ c_ hq_ => hq_) (fun x_ c_ hq_ => hq_)⟩) (fun x_ hx_ => hx_.elim)))))) (fun h_if2 => ?_) (fun h_if2 => ?_))
          ·
            refine do_ret ev_bl fun z h_ret => ?_
            refine ⟨_, .slnil, rfl, ?_⟩
            · -- vc 2
              simp at h_if2
          ·
            refine do_next ?_
            show Do _ _ ⟨[va text, va (TupS.mk [vs n_, vs l_, vs ys_, vs ns_]), none, none, va sample], []⟩ _
            refine do_seq (do_asg (i := 3) (ev_callP (W := (fun _ _ _ _ => False)) (P' := (fun (z_ : Str) => post_sample_text sample z_)) (fun _ => False) (ea_consD (ev_var (i := 4) rfl) ea_nil) (fun ss_ hs_ us_ H_ Q_ E_ h_ => by obtain rfl := hs_; exact ⟨sample, (by have h0 : n_ = 0 := (by simp at h_if; have h9 := hd_; rcases h9 with h9 | h9; exact h9.1; omega); have h7 : rdS text = .ok (l_, ys_, ns_) := (hd_.resolve_right (fun z => by omega)).2; have h8 := h_sample.symm.trans h7; have h8 := Except.ok.inj h8; obtain ⟨e1, h8⟩ := Prod.mk.inj h8; obtain ⟨e2, e3⟩ := Prod.mk.inj h8; have hT := rdS_text h7; rw [show pre_sample_text sample = _ from rfl]; unfold pre_sample_text; rw [e1, e2, e3]; exact ⟨hT.2.1.2.1, hT.2.2.1.1, hT.2.2.2.1, fun w hw => (hT.2.2.1.2.2 w hw).1, fun w hw => (hT.2.2.2.2.2 w hw).1⟩), Call.imp h_ (fun r_ c_ hq_ => hq_) (fun x_ c_ hq_ => hq_)⟩) (fun x_ hx_ => hx_.elim)) fun (again : Str) h_again => ?_)
            show Do _ _ ⟨[va text, va (TupS.mk [vs n_, vs l_, vs ys_, vs ns_]), none, va again, va sample], []⟩ _
            refine do_ret (ev_andD (isi_F (ty := "str") (c := "str") (b := true) (ev_var (i := 3) rfl) (fun _ => TyOf.str _) (by decide +kernel)) (fun hb6 => (ev_opD (ev_var (i := 3) rfl) (ev_var (i := 0) rfl) r2_eqS))) fun z h_ret => ?_
            refine ⟨_, .slnil, rfl, ?_⟩
            · -- vc 3
              have h0 : n_ = 0 := (by simp at h_if; have h9 := hd_; rcases h9 with h9 | h9; exact h9.1; omega)
              have h7 : rdS text = .ok (l_, ys_, ns_) := (hd_.resolve_right (fun z => by omega)).2
              have h8 := h_sample.symm.trans h7
              have h8 := Except.ok.inj h8
              obtain ⟨e1, h8⟩ := Prod.mk.inj h8
              obtain ⟨e2, e3⟩ := Prod.mk.inj h8
              have hT := rdS_text h7
              rw [h_ret]; have h10 : again = _ := h_again
              rw [h10, e1, e2, e3, hT.1]; show (true && decide _) = true
              rw [decide_eq_true rfl]; rfl
    ·
      rintro x_ e_ ⟨hx_, rfl⟩
      ·
        obtain ⟨line_, rfl, hxp_⟩ := hx_
        refine ⟨true, T.ex_BadText__LanguageError, fun _ a_ d_ => ?_, fun z => nomatch z⟩
        show Do _ _ ⟨[va text, va (TupS.mk [vs n_, vs l_, vs ys_, vs ns_]), va (Exn.mk a_ d_ (xdF A.BadText [("line", vs line_)])), none, none], []⟩ _
        refine do_seq (do_ifD (et_orD (et_notD (et_B (ev_isC (b := true) T.xk_BadText (ev_var (i := 2) rfl) T.kk_BadText__BadText (.inr ⟨_, rfl⟩)))) (fun hb7 => (et_B (ev_isCT (cs := [A.BadLetters, A.BadWord, A.TooMany]) (b := false) T.xk_BadText (ev_var (i := 2) rfl) (by simp) (by simp only [List.map_cons, List.map_nil, PySem.W.kitAny, T.kk_BadText__BadLetters, T.kk_BadText__BadWord, T.kk_BadText__TooMany]) (.inr ⟨_, rfl⟩))))) (fun h_if3 => ?_) (fun h_if3 => ?_))
        ·
          refine do_ret ev_bl fun z h_ret => ?_
          refine ⟨_, .slnil, rfl, ?_⟩
          · -- vc 4
            simp at h_if3
        ·
          refine do_next ?_
          show Do _ _ ⟨[va text, va (TupS.mk [vs n_, vs l_, vs ys_, vs ns_]), va (Exn.mk a_ d_ (xdF A.BadText [("line", vs line_)])), none, none], []⟩ _
          refine do_ret (ev_andD (ev_callP (W := (fun _ _ _ _ => False)) (P' := (· = true)) (fun _ => False) (ea_consD (ev_xfC (y := line_) rfl (ev_var (i := 2) rfl) rfl) ea_nil) (fun ss_ hs_ us_ H_ Q_ E_ h_ => by obtain rfl := hs_; exact ⟨line_, (by walk_at "fsc"), Call.imp h_ (fun r_ c_ hq_ => hq_) (fun x_ c_ hq_ => hq_)⟩) (fun x_ hx_ => hx_.elim)) (fun hb9 => (ev_andD (ev_opD (ev_opD (ev_var (i := 1) rfl) ev_int (r2_ixTS (y := n_) (k := 0) rfl rfl)) ev_int r2_gt) (fun hb9 => (ev_opD (ev_xfC (y := line_) rfl (ev_var (i := 2) rfl) rfl) (ev_opD (ev_var (i := 1) rfl) ev_int (r2_ixTS (y := n_) (k := 0) rfl rfl)) r2_eqI))))) fun z h_ret => ?_
          refine ⟨_, .slnil, rfl, ?_⟩
          · -- vc 5
            rw [h_ret]; rcases hd_ with h9 | h9
            · have h10 := hxp_.symm.trans h9.2; cases h10
            · have h10 := Except.error.inj (hxp_.symm.trans h9.2); show _ = true; rw [h10, decide_eq_true h9.1, decide_eq_true rfl]; rfl

end
end LL

namespace LL
open PySem L2 Fw Lm
local macro_rules | `(tactic| walk_at "fsc") => `(tactic| first | omega | assumption | exact True.intro | exact sgn_split (by assumption) | exact sgn_split2 (by assumption) | (intros; omega) | (with_reducible exact emod_both (by omega)) | (simp only [Bool.not_eq_true', Bool.not_eq_false', decide_eq_true_eq, decide_eq_false_iff_not, Bool.or_eq_false_iff, Bool.and_eq_true, List.length_cons, List.length_nil, List.length_append, List.length_cons, List.length_nil, List.length_map, signs_len, rngI_len, enumI_len, keysD_len, pre_check_letters, post_check_letters, pre_check_word, post_check_word, pre_order_key, post_order_key, pre_in_order, post_in_order, pre_check_words, post_check_words, pre_Sample___init, post_Sample___init, pre_written, post_written, pre_word_of, post_word_of, pre_are_letters, post_are_letters, pre_sample_text, post_sample_text, pre_read_sample, post_read_sample, pre_law_start, pre_law_next, post_law_next, pre_law_integer, post_law_integer, pre_law_alphabet, post_law_alphabet, pre_law_word, post_law_word, pre_law_ordered, post_law_ordered, pre_law_text, post_law_text, pre_law_good_letters, post_law_good_letters, pre_law_read, post_law_read, pre_law_words_are, post_law_words_are, pre_law_reads, post_law_reads, pre_law_word_at, post_law_word_at, pre_law_climbing, post_law_climbing, pre_law_spoilt, post_law_spoilt, pre_law_large, post_law_large, pre_law, post_law] at *; first | omega | assumption | (refine ⟨?_, ?_⟩ <;> first | omega | assumption) | (refine ⟨?_, ?_, ?_⟩ <;> first | omega | assumption)) | (have hl_ := congrArg List.length hs_; simp only [List.length_append, List.length_cons, List.length_nil, List.length_map, signs_len, rngI_len, enumI_len, keysD_len] at hl_; omega) | (have hr_ := rng_split hs_; omega) | exact (by decide : 1 ≤ (" " : Str).length) | exact (by decide : 1 ≤ ("\n" : Str).length) | exact rfl)
local macro_rules | `(tactic| walk_at "fvc") => `(tactic| first | rfl | exact True.intro | assumption | omega)
local macro_rules | `(tactic| walk_at "fxp") => `(tactic| first | exact hx_ | assumption)
local macro_rules | `(tactic| walk_at "frs") => `(tactic| first | assumption)

section
variable {P : Program} {w : World} {K : PySem.W.Frag} {mg : Str → Option Value} {base : Heap} {A : Ad}
abbrev s_law_spoilt : Stmt := topS 39
abbrev N_law_spoilt : List Str := ["state", "text", "signs", "rows", "flaw", "place", "one", "told", "cut", "sign", "other"]
theorem sc_law_spoilt : FnScope N_law_spoilt ["state", "text"] (defScope s_law_spoilt) := ⟨rfl, rfl, rfl, by decide +kernel, rfl, by decide +kernel, by decide +kernel⟩
set_option maxHeartbeats 4000000 in
theorem ok_law_spoilt (T : Tx K mg A) (h_law_next : Cal P w K mg base 1 A.law_next "_law_next" ["state", "many"] (sp_law_next K)) {fd : FuncData} (F : Fun K "_law_spoilt" "_law_spoilt" s_law_spoilt A.law_spoilt fd) : FnOk P w K mg base (L2N.CX P w) 2 A.law_spoilt fd ["state", "text"] (sp_law_spoilt K) := by
  refine okN F sc_law_spoilt (fun us H Q E ⟨state, text, hpre, h⟩ => h.len) (fun cdv A_ outer s_ H us Q E hr ⟨state, text, hpre, h⟩ => ?_)
  refine ⟨_, (pss_cons (ps_set (i := 2) sc_law_spoilt.nd rfl (by first | exact Or.inl rfl | exact Or.inr rfl) (pe_op op_addS pe_str (pv 1))) (pss_cons (ps_set (i := 3) sc_law_spoilt.nd rfl (by first | exact Or.inl rfl | exact Or.inr rfl) (pe_bm PySem.F.plainAttrs_str PySem.F.slot_str_split PySem.F.type_str_split mt_splitS (pv 1) (pa_cons pe_str pa_nil))) (pss_cons (ps_set (i := 4) sc_law_spoilt.nd rfl (by first | exact Or.inl rfl | exact Or.inr rfl) (pe_cal (W := (fun _ _ _ _ => False)) h_law_next (hr.mono (by decide)) takes0N (pa_cons (pv 0) (pa_cons pe_int pa_nil)))) (pss_cons (ps_set (i := 5) sc_law_spoilt.nd rfl (by first | exact Or.inl rfl | exact Or.inr rfl) (pe_cal (W := (fun _ _ _ _ => False)) h_law_next (hr.mono (by decide)) takes0N (pa_cons (pv 0) (pa_cons (pe_callB cr_lenQ (by rfl) T.m_len bb_len (pa_cons (pv 3) pa_nil)) pa_nil)))) (pss_cons (ps_set (i := 6) sc_law_spoilt.nd rfl (by first | exact Or.inl rfl | exact Or.inr rfl) (pe_ix ix_list (pv 3) (pv 5) (fun _ _ => rfl))) (pss_cons (ps_if (pt_cmpR op_eq (pv 4) pe_int (nomark _)) (pss_one (ps_expr (pe_bm PySem.F.plainAttrs_list PySem.F.slot_list_pop PySem.F.type_list_pop mt_popAt (pv 3) (pa_cons (pv 5) pa_nil)))) (pss_one (ps_if (pt_cmpR op_eq (pv 4) pe_int (nomark _)) (pss_one (ps_expr (pe_bm PySem.F.plainAttrs_list PySem.F.slot_list_insert PySem.F.type_list_insert mt_insert (pv 3) (pa_cons (pe_cal (W := (fun _ _ _ _ => False)) h_law_next (hr.mono (by decide)) takes0N (pa_cons (pv 0) (pa_cons (pe_op op_add (pe_callB cr_lenQ (by rfl) T.m_len bb_len (pa_cons (pv 3) pa_nil)) pe_int) pa_nil))) (pa_cons (pv 6) pa_nil))))) (pss_one (ps_if (pt_cmpR op_eq (pv 4) pe_int (nomark _)) (pss_cons (ps_set (i := 10) sc_law_spoilt.nd rfl (by first | exact Or.inl rfl | exact Or.inr rfl) (pe_cal (W := (fun _ _ _ _ => False)) h_law_next (hr.mono (by decide)) takes0N (pa_cons (pv 0) (pa_cons (pe_callB cr_lenQ (by rfl) T.m_len bb_len (pa_cons (pv 3) pa_nil)) pa_nil)))) (pss_cons (ps_asg (pe_ix ix_list (pv 3) (pv 10) (fun _ _ => rfl)) (pg_sub (pv 3) (pv 5) set_list)) (pss_one (ps_asg (pv 6) (pg_sub (pv 3) (pv 10) set_list))))) (pss_one (ps_if (PW.pt (pw_and (pt_cmpR op_eq (pv 4) pe_int (nomark _)) (pw_and1 (pt_cmpR op_eq (pe_slice sl_str (pv 6) po_none (po_some pe_int)) pe_str (nomark _))))) (pss_one (ps_asg (pe_op op_addS pe_str (pe_slice sl_str (pv 6) (po_some pe_int) po_none)) (pg_sub (pv 3) (pv 5) set_list))) (pss_one (ps_if (PW.pt (pw_and (pt_cmpR op_eq (pv 4) pe_int (nomark _)) (pw_and1 (pt_cmpR op_eq (pe_slice sl_str (pv 6) po_none (po_some pe_int)) pe_str (nomark _))))) (pss_one (ps_asg (pe_op op_addS pe_str (pe_slice sl_str (pv 6) (po_some pe_int) po_none)) (pg_sub (pv 3) (pv 5) set_list))) (pss_one (ps_if (pt_cmpR op_eq (pv 4) pe_int (nomark _)) (pss_one (ps_asg (pe_op op_addS (pv 6) (pe_ix ix_list (pe_lst (pa_cons pe_str (pa_cons pe_str (pa_cons pe_str (pa_cons pe_str (pa_cons pe_str pa_nil)))))) (pe_cal (W := (fun _ _ _ _ => False)) h_law_next (hr.mono (by decide)) takes0N (pa_cons (pv 0) (pa_cons pe_int pa_nil))) (fun _ _ => rfl))) (pg_sub (pv 3) (pv 5) set_list))) pss_nil))))))))))) (pss_cons (ps_set (i := 7) sc_law_spoilt.nd rfl (by first | exact Or.inl rfl | exact Or.inr rfl) (pe_bm PySem.F.plainAttrs_str PySem.F.slot_str_join PySem.F.type_str_join mt_joinS pe_str (pa_cons (pv 3) pa_nil))) (pss_cons (ps_if (pt_cmpR op_lt (pv 4) pe_int (nomark _)) (pss_one (ps_ret (pv 7))) pss_nil) (pss_cons (ps_set (i := 8) sc_law_spoilt.nd rfl (by first | exact Or.inl rfl | exact Or.inr rfl) (pe_cal (W := (fun _ _ _ _ => False)) h_law_next (hr.mono (by decide)) takes0N (pa_cons (pv 0) (pa_cons (pe_op op_add (pe_callB cr_lenT (by rfl) T.m_len bb_len (pa_cons (pv 7) pa_nil)) pe_int) pa_nil)))) (pss_cons (ps_set (i := 9) sc_law_spoilt.nd rfl (by first | exact Or.inl rfl | exact Or.inr rfl) (pe_ix ix_str (pv 2) (pe_cal (W := (fun _ _ _ _ => False)) h_law_next (hr.mono (by decide)) takes0N (pa_cons (pv 0) (pa_cons (pe_callB cr_lenT (by rfl) T.m_len bb_len (pa_cons (pv 2) pa_nil)) pa_nil))) (fun _ _ => rfl))) (pss_cons (ps_if (pt_cmpR op_eq (pv 4) pe_int (nomark _)) (pss_one (ps_ret (pe_op op_addS (pe_slice sl_str (pv 7) po_none (po_some (pv 8))) (pe_slice sl_str (pv 7) (po_some (pe_op op_add (pv 8) pe_int)) po_none)))) pss_nil) (pss_cons (ps_if (pt_cmpR op_lt (pv 4) pe_int (nomark _)) (pss_one (ps_ret (pe_op op_addS (pe_op op_addS (pe_slice sl_str (pv 7) po_none (po_some (pv 8))) (pv 9)) (pe_slice sl_str (pv 7) (po_some (pe_op op_add (pv 8) pe_int)) po_none)))) pss_nil) (pss_one (ps_ret (pe_op op_addS (pe_op op_addS (pe_slice sl_str (pv 7) po_none (po_some (pv 8))) (pv 9)) (pe_slice sl_str (pv 7) (po_some (pv 8)) po_none)))))))))))))))), ?_⟩
  refine Call.body h rfl fun G0_ H0_ => ?_
  have hpre_ := hpre; unfold pre_law_spoilt at hpre_
  show Do _ _ ⟨[va (Adr.mk state), va text, none, none, none, none, none, none, none, none, none], [(state, stC false)]⟩ _
  refine do_seq (do_asg (i := 2) (ev_opD ev_str (ev_var (i := 1) rfl) (r2_addS (by rw [lit_len]; omega))) fun (signs : Str) h_signs => ?_)
  have hsg : signs.length = 78 + text.length := (by rw [h_signs, len_app, lit_len])
  show Do _ _ ⟨[va (Adr.mk state), va text, va signs, none, none, none, none, none, none, none, none], [(state, stC false)]⟩ _
  refine do_seq (do_asgL (i := 3) (evl_split (ev_var (i := 1) rfl) (ea_consD ev_str ea_nil) (by walk_at "fsc") (by walk_at "fsc")) fun a_rows rows h_rows => ?_)
  have hr0 := sumL_split text
  rw [← h_rows] at hr0
  have hr1 := sumL_ge rows
  have hr2 : 1 ≤ rows.length := (by rw [h_rows]; exact List.length_pos_iff.mpr (split_ne _ _))
  show Do _ _ ⟨[va (Adr.mk state), va text, va signs, va (Adr.mk a_rows), none, none, none, none, none, none, none], [(a_rows, ownL rows), (state, stC false)]⟩ _
  refine do_seq (do_asg (i := 4) (ev_call1 (W := (fun _ _ _ _ => False)) (k := 1) (c := stC false) (P' := (fun (z_ : Int) => post_law_next state (10 : Int) z_)) rfl rfl rfl (fun _ => False) (ea_consD (ev_var (i := 0) rfl) (ea_consD ev_int ea_nil)) (fun ss_ hs_ us_ H_ Q_ E_ h_ => by obtain rfl := hs_; exact ⟨state, (10 : Int), (by walk_at "fsc"), Call.imp h_ (fun r_ c_ hq_ => hq_) (fun x_ c_ hq_ => hq_)⟩) (fun x_ hx_ => hx_.elim)) fun (flaw : Int) h_flaw => ?_)
  show Do _ _ ⟨[va (Adr.mk state), va text, va signs, va (Adr.mk a_rows), va flaw, none, none, none, none, none, none], [(a_rows, ownL rows), (state, stC false)]⟩ _
  refine do_seq (do_asg (i := 5) (ev_call1 (W := (fun _ _ _ _ => False)) (k := 1) (c := stC false) (P' := (fun (z_ : Int) => post_law_next state ((rows).length : Int) z_)) rfl rfl rfl (fun _ => False) (ea_consD (ev_var (i := 0) rfl) (ea_consD (ev_cbD (ea_consD (ev_var (i := 3) rfl) ea_nil) (rc_lenO (k := 0) rfl)) ea_nil)) (fun ss_ hs_ us_ H_ Q_ E_ h_ => by obtain rfl := hs_; exact ⟨state, ((rows).length : Int), (by exact ⟨by omega, by omega⟩), Call.imp h_ (fun r_ c_ hq_ => hq_) (fun x_ c_ hq_ => hq_)⟩) (fun x_ hx_ => hx_.elim)) fun (place : Int) h_place => ?_)
  show Do _ _ ⟨[va (Adr.mk state), va text, va signs, va (Adr.mk a_rows), va flaw, va place, none, none, none, none, none], [(a_rows, ownL rows), (state, stC false)]⟩ _
  refine do_seq (do_asg (i := 6) (ev_opD (ev_var (i := 3) rfl) (ev_var (i := 5) rfl) (r2_ixOp (j := 0) (d := dS) rfl (by walk_at "fsc"))) fun (one : Str) h_one => ?_)
  have ho : one.length ≤ text.length + 1 := (by rw [h_one]; have h9 := sumL_at (rs := rows) (n := place.toNat); omega)
  show Do _ _ ⟨[va (Adr.mk state), va text, va signs, va (Adr.mk a_rows), va flaw, va place, va one, none, none, none, none], [(a_rows, ownL rows), (state, stC false)]⟩ _
  refine do_seqJ (fun e_ => ∃ (rs : List Str), (sumL rs ≤ 3 * text.length + 10) ∧ e_ = ⟨[va (Adr.mk state), va text, va signs, va (Adr.mk a_rows), va flaw, va place, va one, none, none, none, none], [(a_rows, ownL rs), (state, stC false)]⟩) ?_ ?_
  ·
    refine do_ifD (et_test (ev_opD (ev_var (i := 4) rfl) ev_int r2_eqI)) (fun h_if => ?_) (fun h_if => ?_)
    ·
      refine do_popAt (k := 0) rfl (ev_var (i := 3) rfl) (ev_var (i := 5) rfl) (by exact ⟨h_place.1, h_place.2, by omega⟩) ?_
      refine ⟨⟨[va (Adr.mk state), va text, va signs, va (Adr.mk a_rows), va flaw, va place, va one, none, none, none, none], [(a_rows, ownL _), (state, stC false)]⟩, ⟨⟨Or.inr rfl, ⟨Or.inr rfl, ⟨Or.inr rfl, ⟨Or.inr rfl, ⟨Or.inr rfl, ⟨Or.inr rfl, ⟨Or.inr rfl, ⟨Or.inl rfl, ⟨Or.inl rfl, ⟨Or.inl rfl, ⟨Or.inl rfl, trivial⟩⟩⟩⟩⟩⟩⟩⟩⟩⟩⟩, (.cons₂ _ (.cons₂ _ .slnil))⟩, _, ?_, rfl⟩
      · -- vc 0
        have h9 := sumL_erase rows place.toNat; omega
    ·
      refine do_ifD (et_test (ev_opD (ev_var (i := 4) rfl) ev_int r2_eqI)) (fun h_if1 => ?_) (fun h_if1 => ?_)
      ·
        refine do_insert (k := 0) rfl (ev_var (i := 3) rfl) (EvA.mono (P' := (fun ss_ => ∃ (r2 : Int), post_law_next state (((rows).length : Int) + (1 : Int)) r2 ∧ ss_ = [vs r2, vs one])) (ea_cons (Ev.mono (P' := (fun (z_ : Int) => ∃ (r2 : Int), post_law_next state (((rows).length : Int) + (1 : Int)) r2 ∧ z_ = r2)) (ev_call1 (W := (fun _ _ _ _ => False)) (k := 1) (c := stC false) (P' := (fun (z_ : Int) => post_law_next state (((rows).length : Int) + (1 : Int)) z_)) rfl rfl rfl (fun _ => False) (ea_consD (ev_var (i := 0) rfl) (ea_consD (ev_opD (ev_cbD (ea_consD (ev_var (i := 3) rfl) ea_nil) (rc_lenO (k := 0) rfl)) ev_int r2_add) ea_nil)) (fun ss_ hs_ us_ H_ Q_ E_ h_ => by obtain rfl := hs_; exact ⟨state, (((rows).length : Int) + (1 : Int)), (by exact ⟨by omega, by omega⟩), Call.imp h_ (fun r_ c_ hq_ => hq_) (fun x_ c_ hq_ => hq_)⟩) (fun x_ hx_ => hx_.elim)) (fun z_ hz_ => ⟨z_, hz_, rfl⟩)) (fun x_ hx_ => (ea_consD (ev_var (i := 6) rfl) ea_nil))) (fun ss_ h_ => by obtain ⟨x_, r_, hx_, hr_, rfl⟩ := h_; obtain ⟨r2, hc_r2, hx_⟩ := hx_; rw [hx_]; obtain rfl := hr_; exact ⟨r2, hc_r2, rfl⟩)) fun ss_ hs_ => ?_
        obtain ⟨r2, hc_r2, rfl⟩ := hs_
        refine ⟨r2, one, rfl, (by have h1 := hc_r2.1; have h2 := hc_r2.2; exact ⟨by omega, by omega, by omega⟩), ?_⟩
        refine ⟨⟨[va (Adr.mk state), va text, va signs, va (Adr.mk a_rows), va flaw, va place, va one, none, none, none, none], [(a_rows, ownL _), (state, stC false)]⟩, ⟨⟨Or.inr rfl, ⟨Or.inr rfl, ⟨Or.inr rfl, ⟨Or.inr rfl, ⟨Or.inr rfl, ⟨Or.inr rfl, ⟨Or.inr rfl, ⟨Or.inl rfl, ⟨Or.inl rfl, ⟨Or.inl rfl, ⟨Or.inl rfl, trivial⟩⟩⟩⟩⟩⟩⟩⟩⟩⟩⟩, (.cons₂ _ (.cons₂ _ .slnil))⟩, _, ?_, rfl⟩
        · -- vc 1
          rw [sumL_ins]; omega
      ·
        refine do_ifD (et_test (ev_opD (ev_var (i := 4) rfl) ev_int r2_eqI)) (fun h_if2 => ?_) (fun h_if2 => ?_)
        ·
          refine do_seq (do_asg (i := 10) (ev_call1 (W := (fun _ _ _ _ => False)) (k := 1) (c := stC false) (P' := (fun (z_ : Int) => post_law_next state ((rows).length : Int) z_)) rfl rfl rfl (fun _ => False) (ea_consD (ev_var (i := 0) rfl) (ea_consD (ev_cbD (ea_consD (ev_var (i := 3) rfl) ea_nil) (rc_lenO (k := 0) rfl)) ea_nil)) (fun ss_ hs_ us_ H_ Q_ E_ h_ => by obtain rfl := hs_; exact ⟨state, ((rows).length : Int), (by exact ⟨by omega, by omega⟩), Call.imp h_ (fun r_ c_ hq_ => hq_) (fun x_ c_ hq_ => hq_)⟩) (fun x_ hx_ => hx_.elim)) fun (other : Int) h_other => ?_)
          show Do _ _ ⟨[va (Adr.mk state), va text, va signs, va (Adr.mk a_rows), va flaw, va place, va one, none, none, none, va other], [(a_rows, ownL rows), (state, stC false)]⟩ _
          refine do_seq (do_setLp (k := 0) rfl (ev_opD (ev_var (i := 3) rfl) (ev_var (i := 10) rfl) (r2_ixOp (j := 0) (d := dS) rfl (by walk_at "fsc"))) (ev_var (i := 3) rfl) (ev_var (i := 5) rfl) (by walk_at "fsc") fun (y : Str) h_y => ?_)
          show Do _ _ ⟨[va (Adr.mk state), va text, va signs, va (Adr.mk a_rows), va flaw, va place, va one, none, none, none, va other], [(a_rows, ownL (rows.set (place).toNat y)), (state, stC false)]⟩ _
          refine do_setLp (k := 0) rfl (ev_var (i := 6) rfl) (ev_var (i := 3) rfl) (ev_var (i := 10) rfl) (by rw [List.length_set]; exact h_other) fun (y1 : Str) h_y1 => ?_
          refine ⟨⟨[va (Adr.mk state), va text, va signs, va (Adr.mk a_rows), va flaw, va place, va one, none, none, none, none], [(a_rows, ownL _), (state, stC false)]⟩, ⟨⟨Or.inr rfl, ⟨Or.inr rfl, ⟨Or.inr rfl, ⟨Or.inr rfl, ⟨Or.inr rfl, ⟨Or.inr rfl, ⟨Or.inr rfl, ⟨Or.inl rfl, ⟨Or.inl rfl, ⟨Or.inl rfl, ⟨Or.inl rfl, trivial⟩⟩⟩⟩⟩⟩⟩⟩⟩⟩⟩, (.cons₂ _ (.cons₂ _ .slnil))⟩, _, ?_, rfl⟩
          · -- vc 2
            have h9 := sumL_set rows place.toNat y; have h8 := sumL_set (rows.set place.toNat y) other.toNat y1; have h7 : y.length ≤ text.length + 1 := (by rw [h_y]; have h6 := sumL_at (rs := rows) (n := other.toNat); omega)
            rw [h_y1] at h8 ⊢; omega
        ·
          refine do_ifD (et_andD (et_test (ev_opD (ev_var (i := 4) rfl) ev_int r2_eqI)) (fun hb => (et_test (ev_opD (ev_slS (ev_var (i := 6) rfl) eo_none (eo_some ev_int) (by omega)) ev_str r2_eqS)))) (fun h_if3 => ?_) (fun h_if3 => ?_)
          ·
            refine do_setLp (k := 0) rfl (ev_opD ev_str (ev_slS (ev_var (i := 6) rfl) (eo_some ev_int) eo_none (by omega)) (r2_addS (by have h8 := spo_len (z := one) (p := 3) (by decide); have h7 : ("no" : Str).length = 2 := (by decide); omega))) (ev_var (i := 3) rfl) (ev_var (i := 5) rfl) (by walk_at "fsc") fun (y2 : Str) h_y2 => ?_
            refine ⟨⟨[va (Adr.mk state), va text, va signs, va (Adr.mk a_rows), va flaw, va place, va one, none, none, none, none], [(a_rows, ownL _), (state, stC false)]⟩, ⟨⟨Or.inr rfl, ⟨Or.inr rfl, ⟨Or.inr rfl, ⟨Or.inr rfl, ⟨Or.inr rfl, ⟨Or.inr rfl, ⟨Or.inr rfl, ⟨Or.inl rfl, ⟨Or.inl rfl, ⟨Or.inl rfl, ⟨Or.inl rfl, trivial⟩⟩⟩⟩⟩⟩⟩⟩⟩⟩⟩, (.cons₂ _ (.cons₂ _ .slnil))⟩, _, ?_, rfl⟩
            · -- vc 3
              have h8 := spo_len (z := one) (p := 3) (by decide); have h9 := sumL_set rows place.toNat y2; have h7 : ("no" : Str).length = 2 := (by decide)
              have h6 : y2.length ≤ text.length + 3 := (by rw [h_y2, len_app]; omega)
              omega
          ·
            refine do_ifD (et_andD (et_test (ev_opD (ev_var (i := 4) rfl) ev_int r2_eqI)) (fun hb2 => (et_test (ev_opD (ev_slS (ev_var (i := 6) rfl) eo_none (eo_some ev_int) (by omega)) ev_str r2_eqS)))) (fun h_if4 => ?_) (fun h_if4 => ?_)
            ·
              refine do_setLp (k := 0) rfl (ev_opD ev_str (ev_slS (ev_var (i := 6) rfl) (eo_some ev_int) eo_none (by omega)) (r2_addS (by have h8 := spo_len (z := one) (p := 2) (by decide); have h7 : ("yes" : Str).length = 3 := (by decide); omega))) (ev_var (i := 3) rfl) (ev_var (i := 5) rfl) (by walk_at "fsc") fun (y3 : Str) h_y3 => ?_
              refine ⟨⟨[va (Adr.mk state), va text, va signs, va (Adr.mk a_rows), va flaw, va place, va one, none, none, none, none], [(a_rows, ownL _), (state, stC false)]⟩, ⟨⟨Or.inr rfl, ⟨Or.inr rfl, ⟨Or.inr rfl, ⟨Or.inr rfl, ⟨Or.inr rfl, ⟨Or.inr rfl, ⟨Or.inr rfl, ⟨Or.inl rfl, ⟨Or.inl rfl, ⟨Or.inl rfl, ⟨Or.inl rfl, trivial⟩⟩⟩⟩⟩⟩⟩⟩⟩⟩⟩, (.cons₂ _ (.cons₂ _ .slnil))⟩, _, ?_, rfl⟩
              · -- vc 4
                have h8 := spo_len (z := one) (p := 2) (by decide); have h9 := sumL_set rows place.toNat y3; have h7 : ("yes" : Str).length = 3 := (by decide)
                have h6 : y3.length ≤ text.length + 4 := (by rw [h_y3, len_app]; omega)
                omega
            ·
              refine do_ifD (et_test (ev_opD (ev_var (i := 4) rfl) ev_int r2_eqI)) (fun h_if5 => ?_) (fun h_if5 => ?_)
              ·
                refine do_setLp (k := 0) rfl (ev_op (P'' := (fun (z_ : Str) => ∃ (r4 : Int), post_law_next state (5 : Int) r4 ∧ z_ = (one ++ (([(" " : Str), ("-" : Str), (" -" : Str), ("a" : Str), ("  " : Str)] : List Str).getD (r4).toNat dS)))) (ev_var (i := 6) rfl) (fun x_ hx_ => (ev_op (P'' := (fun (z_ : Str) => ∃ (r4 : Int), post_law_next state (5 : Int) r4 ∧ z_ = (([(" " : Str), ("-" : Str), (" -" : Str), ("a" : Str), ("  " : Str)] : List Str).getD (r4).toNat dS))) (evl_val (evl_lstD (xs := ([(" " : Str), ("-" : Str), (" -" : Str), ("a" : Str), ("  " : Str)] : List Str)) (ea_consD ev_str (ea_consD ev_str (ea_consD ev_str (ea_consD ev_str (ea_consD ev_str ea_nil))))) (by simp))) (fun x_ hx_ => (Ev.mono (P' := (fun (z_ : Int) => ∃ (r4 : Int), post_law_next state (5 : Int) r4 ∧ z_ = r4)) (ev_call1 (W := (fun _ _ _ _ => False)) (k := 1) (c := stC false) (P' := (fun (z_ : Int) => post_law_next state (5 : Int) z_)) rfl rfl rfl (fun _ => False) (ea_consD (ev_var (i := 0) rfl) (ea_consD ev_int ea_nil)) (fun ss_ hs_ us_ H_ Q_ E_ h_ => by obtain rfl := hs_; exact ⟨state, (5 : Int), (by walk_at "fsc"), Call.imp h_ (fun r_ c_ hq_ => hq_) (fun x_ c_ hq_ => hq_)⟩) (fun x_ hx_ => hx_.elim)) (fun z_ hz_ => ⟨z_, hz_, rfl⟩))) (fun x_ y_ hx_ hy_ => by rw [hx_]; obtain ⟨r4, hc_r4, hy_⟩ := hy_; rw [hy_]; exact R2V.mono (r2_ixLp (d := dS) (by walk_at "fsc")) fun z_ hz_ => ⟨r4, hc_r4, hz_⟩))) (fun x_ y_ hx_ hy_ => by rw [hx_]; obtain ⟨r4, hc_r4, hy_⟩ := hy_; rw [hy_]; exact R2V.mono (r2_addS (by have h7 := lit5' r4.toNat (by have h1 := hc_r4.1; have h2 := hc_r4.2; omega); omega)) fun z_ hz_ => ⟨r4, hc_r4, hz_⟩)) (ev_var (i := 3) rfl) (ev_var (i := 5) rfl) (by walk_at "fsc") fun (y4 : Str) h_y4 => ?_
                obtain ⟨r4, hc_r4, h_y4⟩ := h_y4
                refine ⟨⟨[va (Adr.mk state), va text, va signs, va (Adr.mk a_rows), va flaw, va place, va one, none, none, none, none], [(a_rows, ownL _), (state, stC false)]⟩, ⟨⟨Or.inr rfl, ⟨Or.inr rfl, ⟨Or.inr rfl, ⟨Or.inr rfl, ⟨Or.inr rfl, ⟨Or.inr rfl, ⟨Or.inr rfl, ⟨Or.inl rfl, ⟨Or.inl rfl, ⟨Or.inl rfl, ⟨Or.inl rfl, trivial⟩⟩⟩⟩⟩⟩⟩⟩⟩⟩⟩, (.cons₂ _ (.cons₂ _ .slnil))⟩, _, ?_, rfl⟩
                · -- vc 5
                  have h9 := sumL_set rows place.toNat y4; have h7 := lit5' r4.toNat (by have h1 := hc_r4.1; have h2 := hc_r4.2; omega)
                  have h6 : y4.length ≤ text.length + 3 := (by rw [h_y4, len_app]; omega)
                  omega
              ·
                refine do_next ?_
                refine ⟨⟨[va (Adr.mk state), va text, va signs, va (Adr.mk a_rows), va flaw, va place, va one, none, none, none, none], [(a_rows, ownL _), (state, stC false)]⟩, ⟨⟨Or.inr rfl, ⟨Or.inr rfl, ⟨Or.inr rfl, ⟨Or.inr rfl, ⟨Or.inr rfl, ⟨Or.inr rfl, ⟨Or.inr rfl, ⟨Or.inl rfl, ⟨Or.inl rfl, ⟨Or.inl rfl, ⟨Or.inl rfl, trivial⟩⟩⟩⟩⟩⟩⟩⟩⟩⟩⟩, (.cons₂ _ (.cons₂ _ .slnil))⟩, _, ?_, rfl⟩
                · -- vc 6
                  omega
  ·
    rintro e_ ⟨rs, hR, rfl⟩
    show Do _ _ ⟨[va (Adr.mk state), va text, va signs, va (Adr.mk a_rows), va flaw, va place, va one, none, none, none, none], [(a_rows, ownL rs), (state, stC false)]⟩ _
    refine do_freeze (k := 0) (j := 3) rfl rfl ?_
    show Do _ _ ⟨[va (Adr.mk state), va text, va signs, va rs, va flaw, va place, va one, none, none, none, none], [(state, stC false)]⟩ _
    refine do_seq (do_asg (i := 7) (ev_join ev_str (ea_consD (ev_var (i := 3) rfl) ea_nil) (by exact sumL_fit (by omega))) fun (told : Str) h_told => ?_)
    have htl : told.length ≤ 3 * text.length + 10 := (by rw [h_told]; exact Nat.le_trans (sumL_join rs) hR)
    show Do _ _ ⟨[va (Adr.mk state), va text, va signs, va rs, va flaw, va place, va one, va told, none, none, none], [(state, stC false)]⟩ _
    refine do_seq (do_ifD (et_test (ev_opD (ev_var (i := 4) rfl) ev_int r2_lt)) (fun h_if6 => ?_) (fun h_if6 => ?_))
    ·
      refine do_ret (ev_var (i := 7) rfl) fun z h_ret => ?_
      refine ⟨_, (.cons₂ _ .slnil), rfl, ?_⟩
      · -- vc 7
        rw [h_ret]; show told.length ≤ _; omega
    ·
      refine do_next ?_
      show Do _ _ ⟨[va (Adr.mk state), va text, va signs, va rs, va flaw, va place, va one, va told, none, none, none], [(state, stC false)]⟩ _
      refine do_seq (do_asg (i := 8) (ev_call1 (W := (fun _ _ _ _ => False)) (k := 0) (c := stC false) (P' := (fun (z_ : Int) => post_law_next state (((told).length : Int) + (1 : Int)) z_)) rfl rfl rfl (fun _ => False) (ea_consD (ev_var (i := 0) rfl) (ea_consD (ev_opD (ev_cbD (ea_consD (ev_var (i := 7) rfl) ea_nil) (rc_lenT (by omega))) ev_int r2_add) ea_nil)) (fun ss_ hs_ us_ H_ Q_ E_ h_ => by obtain rfl := hs_; exact ⟨state, (((told).length : Int) + (1 : Int)), (by exact ⟨by omega, by omega⟩), Call.imp h_ (fun r_ c_ hq_ => hq_) (fun x_ c_ hq_ => hq_)⟩) (fun x_ hx_ => hx_.elim)) fun (cut : Int) h_cut => ?_)
      show Do _ _ ⟨[va (Adr.mk state), va text, va signs, va rs, va flaw, va place, va one, va told, va cut, none, none], [(state, stC false)]⟩ _
      refine do_seq (do_asg (i := 9) (ev_op (P'' := (fun (z_ : Str) => ∃ (r6 : Int), post_law_next state ((signs).length : Int) r6 ∧ z_ = (sgnAt signs (r6).toNat))) (ev_var (i := 2) rfl) (fun x_ hx_ => (Ev.mono (P' := (fun (z_ : Int) => ∃ (r6 : Int), post_law_next state ((signs).length : Int) r6 ∧ z_ = r6)) (ev_call1 (W := (fun _ _ _ _ => False)) (k := 0) (c := stC false) (P' := (fun (z_ : Int) => post_law_next state ((signs).length : Int) z_)) rfl rfl rfl (fun _ => False) (ea_consD (ev_var (i := 0) rfl) (ea_consD (ev_cbD (ea_consD (ev_var (i := 2) rfl) ea_nil) (rc_lenT (by omega))) ea_nil)) (fun ss_ hs_ us_ H_ Q_ E_ h_ => by obtain rfl := hs_; exact ⟨state, ((signs).length : Int), (by exact ⟨by omega, by omega⟩), Call.imp h_ (fun r_ c_ hq_ => hq_) (fun x_ c_ hq_ => hq_)⟩) (fun x_ hx_ => hx_.elim)) (fun z_ hz_ => ⟨z_, hz_, rfl⟩))) (fun x_ y_ hx_ hy_ => by rw [hx_]; obtain ⟨r6, hc_r6, hy_⟩ := hy_; rw [hy_]; exact R2V.mono (r2_ixSp (by omega) (by walk_at "fsc")) fun z_ hz_ => ⟨r6, hc_r6, hz_⟩)) fun (sign : Str) h_sign => ?_)
      obtain ⟨r6, hc_r6, h_sign⟩ := h_sign
      have hsl : sign.length = 1 := (by rw [h_sign, sgnAt_len])
      show Do _ _ ⟨[va (Adr.mk state), va text, va signs, va rs, va flaw, va place, va one, va told, va cut, va sign, none], [(state, stC false)]⟩ _
      refine do_seq (do_ifD (et_test (ev_opD (ev_var (i := 4) rfl) ev_int r2_eqI)) (fun h_if7 => ?_) (fun h_if7 => ?_))
      ·
        refine do_ret (ev_opD (ev_slS (ev_var (i := 7) rfl) eo_none (eo_some (ev_var (i := 8) rfl)) (by omega)) (ev_slS (ev_var (i := 7) rfl) (eo_some (ev_opD (ev_var (i := 8) rfl) ev_int r2_add)) eo_none (by omega)) (r2_addS (by have h8 := h_cut.1; have h9 := cut_sum (z := told) (p := cut) (q := (cut + 1)) h8 (by omega); omega))) fun z h_ret => ?_
        refine ⟨_, (.cons₂ _ .slnil), rfl, ?_⟩
        · -- vc 8
          have h8 := h_cut.1; have h9 := cut_sum (z := told) (p := cut) (q := (cut + 1)) h8 (by omega); rw [h_ret]; show (_ ++ _ : Str).length ≤ _; rw [len_app]; omega
      ·
        refine do_next ?_
        show Do _ _ ⟨[va (Adr.mk state), va text, va signs, va rs, va flaw, va place, va one, va told, va cut, va sign, none], [(state, stC false)]⟩ _
        refine do_seq (do_ifD (et_test (ev_opD (ev_var (i := 4) rfl) ev_int r2_lt)) (fun h_if8 => ?_) (fun h_if8 => ?_))
        ·
          refine do_ret (ev_opD (ev_opD (ev_slS (ev_var (i := 7) rfl) eo_none (eo_some (ev_var (i := 8) rfl)) (by omega)) (ev_var (i := 9) rfl) (r2_addS (by have h8 := h_cut.1; have h9 := cut_sum (z := told) (p := cut) (q := (cut + 1)) h8 (by omega); omega))) (ev_slS (ev_var (i := 7) rfl) (eo_some (ev_opD (ev_var (i := 8) rfl) ev_int r2_add)) eo_none (by omega)) (r2_addS (by rw [len_app]; have h8 := h_cut.1; have h9 := cut_sum (z := told) (p := cut) (q := (cut + 1)) h8 (by omega); omega))) fun z h_ret => ?_
          refine ⟨_, (.cons₂ _ .slnil), rfl, ?_⟩
          · -- vc 9
            have h8 := h_cut.1; have h9 := cut_sum (z := told) (p := cut) (q := (cut + 1)) h8 (by omega); rw [h_ret]; show (_ ++ _ : Str).length ≤ _; rw [len_app, len_app]; omega
        ·
          refine do_next ?_
          show Do _ _ ⟨[va (Adr.mk state), va text, va signs, va rs, va flaw, va place, va one, va told, va cut, va sign, none], [(state, stC false)]⟩ _
          refine do_ret (ev_opD (ev_opD (ev_slS (ev_var (i := 7) rfl) eo_none (eo_some (ev_var (i := 8) rfl)) (by omega)) (ev_var (i := 9) rfl) (r2_addS (by have h8 := h_cut.1; have h9 := cut_sum (z := told) (p := cut) (q := cut) h8 (by omega); omega))) (ev_slS (ev_var (i := 7) rfl) (eo_some (ev_var (i := 8) rfl)) eo_none (by omega)) (r2_addS (by rw [len_app]; have h8 := h_cut.1; have h9 := cut_sum (z := told) (p := cut) (q := cut) h8 (by omega); omega))) fun z h_ret => ?_
          refine ⟨_, (.cons₂ _ .slnil), rfl, ?_⟩
          · -- vc 10
            have h8 := h_cut.1; have h9 := cut_sum (z := told) (p := cut) (q := cut) h8 (by omega); rw [h_ret]; show (_ ++ _ : Str).length ≤ _; rw [len_app, len_app]; omega

end
end LL

namespace LL
open PySem L2 Fw Lm
local macro_rules | `(tactic| walk_at "fsc") => `(tactic| first | omega | assumption | exact True.intro | exact sgn_split (by assumption) | exact sgn_split2 (by assumption) | (intros; omega) | (with_reducible exact emod_both (by omega)) | (simp only [Bool.not_eq_true', Bool.not_eq_false', decide_eq_true_eq, decide_eq_false_iff_not, Bool.or_eq_false_iff, Bool.and_eq_true, List.length_cons, List.length_nil, List.length_append, List.length_cons, List.length_nil, List.length_map, signs_len, rngI_len, enumI_len, keysD_len, pre_check_letters, post_check_letters, pre_check_word, post_check_word, pre_order_key, post_order_key, pre_in_order, post_in_order, pre_check_words, post_check_words, pre_Sample___init, post_Sample___init, pre_written, post_written, pre_word_of, post_word_of, pre_are_letters, post_are_letters, pre_sample_text, post_sample_text, pre_read_sample, post_read_sample, pre_law_start, pre_law_next, post_law_next, pre_law_integer, post_law_integer, pre_law_alphabet, post_law_alphabet, pre_law_word, post_law_word, pre_law_ordered, post_law_ordered, pre_law_text, post_law_text, pre_law_good_letters, post_law_good_letters, pre_law_read, post_law_read, pre_law_words_are, post_law_words_are, pre_law_reads, post_law_reads, pre_law_word_at, post_law_word_at, pre_law_climbing, post_law_climbing, pre_law_spoilt, post_law_spoilt, pre_law_large, post_law_large, pre_law, post_law] at *; first | omega | assumption | (refine ⟨?_, ?_⟩ <;> first | omega | assumption) | (refine ⟨?_, ?_, ?_⟩ <;> first | omega | assumption)) | (have hl_ := congrArg List.length hs_; simp only [List.length_append, List.length_cons, List.length_nil, List.length_map, signs_len, rngI_len, enumI_len, keysD_len] at hl_; omega) | (have hr_ := rng_split hs_; omega) | exact (by decide : 1 ≤ (" " : Str).length) | exact (by decide : 1 ≤ ("\n" : Str).length) | exact rfl)
local macro_rules | `(tactic| walk_at "fvc") => `(tactic| first | rfl | exact True.intro | assumption | omega)
local macro_rules | `(tactic| walk_at "fxp") => `(tactic| first | exact hx_ | assumption)
local macro_rules | `(tactic| walk_at "frs") => `(tactic| first | assumption)

section
variable {P : Program} {w : World} {K : PySem.W.Frag} {mg : Str → Option Value} {base : Heap} {A : Ad}
abbrev s_law_start : Stmt := topS 26
abbrev N_law_start : List Str := ["script", "cells", "cell"]
theorem sc_law_start : FnScope N_law_start ["script"] (defScope s_law_start) := ⟨rfl, rfl, rfl, by decide +kernel, rfl, by decide +kernel, by decide +kernel⟩
set_option maxHeartbeats 4000000 in
theorem ok_law_start (T : Tx K mg A)  {fd : FuncData} (F : Fun K "_law_start" "_law_start" s_law_start A.law_start fd) : FnOk P w K mg base (L2N.CX P w) 1 A.law_start fd ["script"] (sp_law_start K) := by
  refine okN F sc_law_start (fun us H Q E ⟨script, hpre, h⟩ => h.len) (fun cdv A_ outer s_ H us Q E hr ⟨script, hpre, h⟩ => ?_)
  refine ⟨_, (pss_cons (ps_setLc (i := 1) (own := [("cell", 2)]) (g := gName 2) (tt := tYes) rfl sc_law_start.nd rfl rfl (sw_true rfl rfl rfl (by decide +kernel)) (pi_list (pv 0)) (blkOk_by (N := N_law_start) (sc := defScope s_law_start) (by decide +kernel)) (fun _ _ _ _ _ => (pg_name (i := 2) sc_law_start.nd rfl (by first | exact Or.inl rfl | exact Or.inr rfl))) (fun _ _ _ _ _ => pts_nil) (fun _ _ _ _ _ => (pe_callB cr_abs (by rfl) T.m_abs bb_abs (pa_cons (pv 2) pa_nil)))) (pss_cons (ps_if (pt_cmpR op_eq (pe_callB cr_lenQ (by rfl) T.m_len bb_len (pa_cons (pv 1) pa_nil)) pe_int (nomark _)) (pss_one (ps_set (i := 1) sc_law_start.nd rfl (by first | exact Or.inl rfl | exact Or.inr rfl) (pe_lst (pa_cons pe_int pa_nil)))) pss_nil) (pss_one (ps_ret (pe_lst (pa_cons (pv 1) (pa_cons pe_int (pa_cons pe_int (pa_cons pe_int pa_nil))))))))), ?_⟩
  refine Call.body (sl := [va script, none, none]) h rfl fun G0_ H0_ => ?_
  have hpre_ := hpre; unfold pre_law_start at hpre_
  show Do _ _ ⟨[va script, none, none], []⟩ _
  refine do_seq (do_asg (i := 1) (evl_val (evl_lcM (h := fun (cell : Int) => (if cell < 0 then -cell else cell)) (ei_scr (ev_var (i := 0) rfl)) eg_name (by simp) (by walk_at "fsc") (fun pre_ cell post_ hs_ dc_ => (ev_cbD (ea_consD (ev_var (i := 2) rfl) ea_nil) rc_abs)))) fun (cells : (List Int)) h_cells => ?_)
  show Do _ _ ⟨[va script, va cells, none], []⟩ _
  refine do_seq (do_ifD (et_test (ev_opD (ev_cbD (ea_consD (ev_var (i := 1) rfl) ea_nil) rc_lenL) ev_int r2_eqI)) (fun h_if => ?_) (fun h_if => ?_))
  ·
    refine do_asg (i := 1) (evl_val (evl_lstD (xs := ([(0 : Int)] : List Int)) (ea_consD ev_int ea_nil) (by simp))) fun (cells1 : (List Int)) h_cells1 => ?_
    show Do _ _ ⟨[va script, va cells1, none], []⟩ _
    refine do_retS (c' := stC true) (ea_consD (ev_var (i := 1) rfl) (ea_consD ev_int (ea_consD ev_int (ea_consD ev_int ea_nil)))) (by simp) rfl ?_ fun p_ => ⟨_, .cons₂ _ .slnil, rfl⟩
    · -- vc 0
      exact fun K G o h => stC_of (by rw [h_cells1]; simp) (by rw [h_cells1]; simp) h
  ·
    refine do_next ?_
    show Do _ _ ⟨[va script, va cells, none], []⟩ _
    refine do_retS (c' := stC true) (ea_consD (ev_var (i := 1) rfl) (ea_consD ev_int (ea_consD ev_int (ea_consD ev_int ea_nil)))) (by simp) rfl ?_ fun p_ => ⟨_, .cons₂ _ .slnil, rfl⟩
    · -- vc 1
      exact fun K G o h => stC_of (by intro z; rw [z] at h_if; simp at h_if) (by rw [h_cells, List.length_map]; omega) h

end
end LL

namespace LL
open PySem L2 Fw Lm
local macro_rules | `(tactic| walk_at "fsc") => `(tactic| first | omega | assumption | exact True.intro | exact sgn_split (by assumption) | exact sgn_split2 (by assumption) | (intros; omega) | (with_reducible exact emod_both (by omega)) | (simp only [Bool.not_eq_true', Bool.not_eq_false', decide_eq_true_eq, decide_eq_false_iff_not, Bool.or_eq_false_iff, Bool.and_eq_true, List.length_cons, List.length_nil, List.length_append, List.length_cons, List.length_nil, List.length_map, signs_len, rngI_len, enumI_len, keysD_len, pre_check_letters, post_check_letters, pre_check_word, post_check_word, pre_order_key, post_order_key, pre_in_order, post_in_order, pre_check_words, post_check_words, pre_Sample___init, post_Sample___init, pre_written, post_written, pre_word_of, post_word_of, pre_are_letters, post_are_letters, pre_sample_text, post_sample_text, pre_read_sample, post_read_sample, pre_law_start, pre_law_next, post_law_next, pre_law_integer, post_law_integer, pre_law_alphabet, post_law_alphabet, pre_law_word, post_law_word, pre_law_ordered, post_law_ordered, pre_law_text, post_law_text, pre_law_good_letters, post_law_good_letters, pre_law_read, post_law_read, pre_law_words_are, post_law_words_are, pre_law_reads, post_law_reads, pre_law_word_at, post_law_word_at, pre_law_climbing, post_law_climbing, pre_law_spoilt, post_law_spoilt, pre_law_large, post_law_large, pre_law, post_law] at *; first | omega | assumption | (refine ⟨?_, ?_⟩ <;> first | omega | assumption) | (refine ⟨?_, ?_, ?_⟩ <;> first | omega | assumption)) | (have hl_ := congrArg List.length hs_; simp only [List.length_append, List.length_cons, List.length_nil, List.length_map, signs_len, rngI_len, enumI_len, keysD_len] at hl_; omega) | (have hr_ := rng_split hs_; omega) | exact (by decide : 1 ≤ (" " : Str).length) | exact (by decide : 1 ≤ ("\n" : Str).length) | exact rfl)
local macro_rules | `(tactic| walk_at "fvc") => `(tactic| first | rfl | exact True.intro | assumption | omega)
local macro_rules | `(tactic| walk_at "fxp") => `(tactic| first | exact hx_ | assumption)
local macro_rules | `(tactic| walk_at "frs") => `(tactic| first | assumption)

section
variable {P : Program} {w : World} {K : PySem.W.Frag} {mg : Str → Option Value} {base : Heap} {A : Ad}
abbrev s_law_text : Stmt := topS 32
abbrev N_law_text : List Str := ["letters", "yes", "no", "rows", "word"]
theorem sc_law_text : FnScope N_law_text ["letters", "yes", "no"] (defScope s_law_text) := ⟨rfl, rfl, rfl, by decide +kernel, rfl, by decide +kernel, by decide +kernel⟩
set_option maxHeartbeats 4000000 in
theorem ok_law_text (T : Tx K mg A)  {fd : FuncData} (F : Fun K "_law_text" "_law_text" s_law_text A.law_text fd) : FnOk P w K mg base (L2N.CX P w) 1 A.law_text fd ["letters", "yes", "no"] (sp_law_text K) := by
  refine okN F sc_law_text (fun us H Q E ⟨letters, yes, no, hpre, h⟩ => h.len) (fun cdv A_ outer s_ H us Q E hr ⟨letters, yes, no, hpre, h⟩ => ?_)
  refine ⟨_, (pss_cons (ps_set (i := 3) sc_law_text.nd rfl (by first | exact Or.inl rfl | exact Or.inr rfl) (pe_lst (pa_cons (pe_op op_addS pe_str (pv 0)) pa_nil))) (pss_cons (ps_for (passes_of rfl) rfl (pi_list (pv 1)) (pg_name (i := 4) sc_law_text.nd rfl (by first | exact Or.inl rfl | exact Or.inr rfl)) (pss_cons (ps_if (pt_cmpR op_eq (pv 4) pe_str (nomark _)) (pss_one (ps_set (i := 4) sc_law_text.nd rfl (by first | exact Or.inl rfl | exact Or.inr rfl) pe_str)) pss_nil) (pss_one (ps_expr (pe_bm PySem.F.plainAttrs_list PySem.F.slot_list_append PySem.F.type_list_append mt_append (pv 3) (pa_cons (pe_op op_addS pe_str (pv 4)) pa_nil)))))) (pss_cons (ps_for (passes_of rfl) rfl (pi_list (pv 2)) (pg_name (i := 4) sc_law_text.nd rfl (by first | exact Or.inl rfl | exact Or.inr rfl)) (pss_cons (ps_if (pt_cmpR op_eq (pv 4) pe_str (nomark _)) (pss_one (ps_set (i := 4) sc_law_text.nd rfl (by first | exact Or.inl rfl | exact Or.inr rfl) pe_str)) pss_nil) (pss_one (ps_expr (pe_bm PySem.F.plainAttrs_list PySem.F.slot_list_append PySem.F.type_list_append mt_append (pv 3) (pa_cons (pe_op op_addS pe_str (pv 4)) pa_nil)))))) (pss_one (ps_ret (pe_bm PySem.F.plainAttrs_str PySem.F.slot_str_join PySem.F.type_str_join mt_joinS pe_str (pa_cons (pv 3) pa_nil))))))), ?_⟩
  refine Call.body (sl := [va letters, va yes, va no, none, none]) h rfl fun G0_ H0_ => ?_
  have hpre_ := hpre; unfold pre_law_text at hpre_
  show Do _ _ ⟨[va letters, va yes, va no, none, none], []⟩ _
  refine do_seq (do_asgL (i := 3) (evl_lstD (xs := ([(("sample " : Str) ++ letters)] : List Str)) (ea_consD (ev_opD ev_str (ev_var (i := 0) rfl) (r2_addS (by rw [len_s]; have h1 := hpre_.1; omega))) ea_nil) (by simp)) fun a_rows rows h_rows => ?_)
  show Do _ _ ⟨[va letters, va yes, va no, va (Adr.mk a_rows), none], [(a_rows, ownL rows)]⟩ _
  refine do_seq (do_forW (ei_list (ev_var (i := 1) rfl)) eg_name (fun (pre : List Str) e_ => ∃ (t : List Str), (t = sLines letters pre []) ∧ e_ = ⟨[va letters, va yes, va no, va (Adr.mk a_rows), none], [(a_rows, ownL t)]⟩) ?_ ?_ ?_)
  ·
    refine ⟨⟨[va letters, va yes, va no, va (Adr.mk a_rows), none], [(a_rows, ownL _)]⟩, ⟨⟨Or.inr rfl, ⟨Or.inr rfl, ⟨Or.inr rfl, ⟨Or.inr rfl, ⟨Or.inl rfl, trivial⟩⟩⟩⟩⟩, (.cons₂ _ .slnil)⟩, _, ?_, rfl⟩
    · walk_at "fvc"
  ·
    rintro pre x post e_ hsplit ⟨t, hT, rfl⟩
    have hlen_hsplit := congrArg List.length hsplit; simp only [List.length_append, List.length_cons, List.length_nil, List.length_map, signs_len, rngI_len, enumI_len, keysD_len] at hlen_hsplit
    show Do _ _ ⟨[va letters, va yes, va no, va (Adr.mk a_rows), va x], [(a_rows, ownL t)]⟩ _
    refine do_seqJ (fun e_ => ∃ (wo : Str), (wo = wr x) ∧ e_ = ⟨[va letters, va yes, va no, va (Adr.mk a_rows), va wo], [(a_rows, ownL t)]⟩) ?_ ?_
    ·
      refine do_ifD (et_test (ev_opD (ev_var (i := 4) rfl) ev_str r2_eqS)) (fun h_if => ?_) (fun h_if => ?_)
      ·
        refine do_asg (i := 4) ev_str fun (word1 : Str) h_word1 => ?_
        refine ⟨⟨[va letters, va yes, va no, va (Adr.mk a_rows), va _], [(a_rows, ownL t)]⟩, ⟨⟨Or.inr rfl, ⟨Or.inr rfl, ⟨Or.inr rfl, ⟨Or.inr rfl, ⟨Or.inr rfl, trivial⟩⟩⟩⟩⟩, (.cons₂ _ .slnil)⟩, _, ?_, rfl⟩
        · -- vc 1
          rw [h_word1]; exact (wr_1 h_if).symm
      ·
        refine do_next ?_
        refine ⟨⟨[va letters, va yes, va no, va (Adr.mk a_rows), va _], [(a_rows, ownL t)]⟩, ⟨⟨Or.inr rfl, ⟨Or.inr rfl, ⟨Or.inr rfl, ⟨Or.inr rfl, ⟨Or.inr rfl, trivial⟩⟩⟩⟩⟩, (.cons₂ _ .slnil)⟩, _, ?_, rfl⟩
        · -- vc 2
          exact (wr_2 h_if).symm
    ·
      rintro e_ ⟨wo, hW, rfl⟩
      show Do _ _ ⟨[va letters, va yes, va no, va (Adr.mk a_rows), va wo], [(a_rows, ownL t)]⟩ _
      refine do_append (k := 0) rfl (ev_var (i := 3) rfl) (ev_opD ev_str (ev_var (i := 4) rfl) (r2_addS (by rw [hW, len_y]; have h1 := wr_len x; have h2 := hpre_.2.2.2.1 x (mem_mid hsplit); omega))) (by rw [hT, sLines_len]; have h1 := hpre_.2.1; simp; omega) fun (y : Str) h_y => ?_
      refine ⟨⟨[va letters, va yes, va no, va (Adr.mk a_rows), none], [(a_rows, ownL _)]⟩, ⟨⟨Or.inr rfl, ⟨Or.inr rfl, ⟨Or.inr rfl, ⟨Or.inr rfl, ⟨Or.inl rfl, trivial⟩⟩⟩⟩⟩, (.cons₂ _ .slnil)⟩, _, ?_, rfl⟩
      · -- vc 3
        rw [hT, h_y, hW, sLines_snocY]
  ·
    rintro e_ ⟨t, hT, rfl⟩
    show Do _ _ ⟨[va letters, va yes, va no, va (Adr.mk a_rows), none], [(a_rows, ownL t)]⟩ _
    refine do_seq (do_forW (ei_list (ev_var (i := 2) rfl)) eg_name (fun (pre : List Str) e_ => ∃ (t : List Str), (t = sLines letters yes pre) ∧ e_ = ⟨[va letters, va yes, va no, va (Adr.mk a_rows), none], [(a_rows, ownL t)]⟩) ?_ ?_ ?_)
    ·
      refine ⟨⟨[va letters, va yes, va no, va (Adr.mk a_rows), none], [(a_rows, ownL _)]⟩, ⟨⟨Or.inr rfl, ⟨Or.inr rfl, ⟨Or.inr rfl, ⟨Or.inr rfl, ⟨Or.inl rfl, trivial⟩⟩⟩⟩⟩, (.cons₂ _ .slnil)⟩, _, ?_, rfl⟩
      · walk_at "fvc"
    ·
      rintro pre x post e_ hsplit ⟨t, hT, rfl⟩
      have hlen_hsplit := congrArg List.length hsplit; simp only [List.length_append, List.length_cons, List.length_nil, List.length_map, signs_len, rngI_len, enumI_len, keysD_len] at hlen_hsplit
      show Do _ _ ⟨[va letters, va yes, va no, va (Adr.mk a_rows), va x], [(a_rows, ownL t)]⟩ _
      refine do_seqJ (fun e_ => ∃ (wo : Str), (wo = wr x) ∧ e_ = ⟨[va letters, va yes, va no, va (Adr.mk a_rows), va wo], [(a_rows, ownL t)]⟩) ?_ ?_
      ·
        refine do_ifD (et_test (ev_opD (ev_var (i := 4) rfl) ev_str r2_eqS)) (fun h_if1 => ?_) (fun h_if1 => ?_)
        ·
          refine do_asg (i := 4) ev_str fun (word3 : Str) h_word3 => ?_
          refine ⟨⟨[va letters, va yes, va no, va (Adr.mk a_rows), va _], [(a_rows, ownL t)]⟩, ⟨⟨Or.inr rfl, ⟨Or.inr rfl, ⟨Or.inr rfl, ⟨Or.inr rfl, ⟨Or.inr rfl, trivial⟩⟩⟩⟩⟩, (.cons₂ _ .slnil)⟩, _, ?_, rfl⟩
          · -- vc 5
            rw [h_word3]; exact (wr_1 h_if1).symm
        ·
          refine do_next ?_
          refine ⟨⟨[va letters, va yes, va no, va (Adr.mk a_rows), va _], [(a_rows, ownL t)]⟩, ⟨⟨Or.inr rfl, ⟨Or.inr rfl, ⟨Or.inr rfl, ⟨Or.inr rfl, ⟨Or.inr rfl, trivial⟩⟩⟩⟩⟩, (.cons₂ _ .slnil)⟩, _, ?_, rfl⟩
          · -- vc 6
            exact (wr_2 h_if1).symm
      ·
        rintro e_ ⟨wo, hW, rfl⟩
        show Do _ _ ⟨[va letters, va yes, va no, va (Adr.mk a_rows), va wo], [(a_rows, ownL t)]⟩ _
        refine do_append (k := 0) rfl (ev_var (i := 3) rfl) (ev_opD ev_str (ev_var (i := 4) rfl) (r2_addS (by rw [hW, len_n]; have h1 := wr_len x; have h2 := hpre_.2.2.2.2 x (mem_mid hsplit); omega))) (by rw [hT, sLines_len]; have h1 := hpre_.2.1; have h2 := hpre_.2.2.1; omega) fun (y1 : Str) h_y1 => ?_
        refine ⟨⟨[va letters, va yes, va no, va (Adr.mk a_rows), none], [(a_rows, ownL _)]⟩, ⟨⟨Or.inr rfl, ⟨Or.inr rfl, ⟨Or.inr rfl, ⟨Or.inr rfl, ⟨Or.inl rfl, trivial⟩⟩⟩⟩⟩, (.cons₂ _ .slnil)⟩, _, ?_, rfl⟩
        · -- vc 7
          rw [hT, h_y1, hW, sLines_snocN]
    ·
      rintro e_ ⟨t, hT, rfl⟩
      show Do _ _ ⟨[va letters, va yes, va no, va (Adr.mk a_rows), none], [(a_rows, ownL t)]⟩ _
      refine do_freeze (k := 0) (j := 3) rfl rfl ?_
      show Do _ _ ⟨[va letters, va yes, va no, va t, none], []⟩ _
      refine do_ret (ev_join ev_str (ea_consD (ev_var (i := 3) rfl) ea_nil) (by rw [hT]; exact sLines_fit hpre_.1 hpre_.2.1 hpre_.2.2.1 hpre_.2.2.2.1 hpre_.2.2.2.2)) fun z h_ret => ?_
      refine ⟨_, .slnil, rfl, ?_⟩
      · -- vc 8
        rw [h_ret, hT]; rfl

end
end LL

namespace LL
open PySem L2 Fw Lm
local macro_rules | `(tactic| walk_at "fsc") => `(tactic| first | omega | assumption | exact True.intro | exact sgn_split (by assumption) | exact sgn_split2 (by assumption) | (intros; omega) | (with_reducible exact emod_both (by omega)) | (simp only [Bool.not_eq_true', Bool.not_eq_false', decide_eq_true_eq, decide_eq_false_iff_not, Bool.or_eq_false_iff, Bool.and_eq_true, List.length_cons, List.length_nil, List.length_append, List.length_cons, List.length_nil, List.length_map, signs_len, rngI_len, enumI_len, keysD_len, pre_check_letters, post_check_letters, pre_check_word, post_check_word, pre_order_key, post_order_key, pre_in_order, post_in_order, pre_check_words, post_check_words, pre_Sample___init, post_Sample___init, pre_written, post_written, pre_word_of, post_word_of, pre_are_letters, post_are_letters, pre_sample_text, post_sample_text, pre_read_sample, post_read_sample, pre_law_start, pre_law_next, post_law_next, pre_law_integer, post_law_integer, pre_law_alphabet, post_law_alphabet, pre_law_word, post_law_word, pre_law_ordered, post_law_ordered, pre_law_text, post_law_text, pre_law_good_letters, post_law_good_letters, pre_law_read, post_law_read, pre_law_words_are, post_law_words_are, pre_law_reads, post_law_reads, pre_law_word_at, post_law_word_at, pre_law_climbing, post_law_climbing, pre_law_spoilt, post_law_spoilt, pre_law_large, post_law_large, pre_law, post_law] at *; first | omega | assumption | (refine ⟨?_, ?_⟩ <;> first | omega | assumption) | (refine ⟨?_, ?_, ?_⟩ <;> first | omega | assumption)) | (have hl_ := congrArg List.length hs_; simp only [List.length_append, List.length_cons, List.length_nil, List.length_map, signs_len, rngI_len, enumI_len, keysD_len] at hl_; omega) | (have hr_ := rng_split hs_; omega) | exact (by decide : 1 ≤ (" " : Str).length) | exact (by decide : 1 ≤ ("\n" : Str).length) | exact rfl)
local macro_rules | `(tactic| walk_at "fvc") => `(tactic| first | rfl | exact True.intro | assumption | omega)
local macro_rules | `(tactic| walk_at "fxp") => `(tactic| first | exact hx_ | assumption)
local macro_rules | `(tactic| walk_at "frs") => `(tactic| first | assumption)

section
variable {P : Program} {w : World} {K : PySem.W.Frag} {mg : Str → Option Value} {base : Heap} {A : Ad}
abbrev s_law_word : Stmt := topS 30
abbrev N_law_word : List Str := ["state", "letters", "size", "word", "k"]
theorem sc_law_word : FnScope N_law_word ["state", "letters", "size"] (defScope s_law_word) := ⟨rfl, rfl, rfl, by decide +kernel, rfl, by decide +kernel, by decide +kernel⟩
set_option maxHeartbeats 4000000 in
theorem ok_law_word (T : Tx K mg A) (h_law_next : Cal P w K mg base 1 A.law_next "_law_next" ["state", "many"] (sp_law_next K)) {fd : FuncData} (F : Fun K "_law_word" "_law_word" s_law_word A.law_word fd) : FnOk P w K mg base (L2N.CX P w) 2 A.law_word fd ["state", "letters", "size"] (sp_law_word K) := by
  refine okN F sc_law_word (fun us H Q E ⟨state, letters, size, hpre, h⟩ => h.len) (fun cdv A_ outer s_ H us Q E hr ⟨state, letters, size, hpre, h⟩ => ?_)
  refine ⟨_, (pss_cons (ps_set (i := 3) sc_law_word.nd rfl (by first | exact Or.inl rfl | exact Or.inr rfl) pe_str) (pss_cons (ps_for (passes_of rfl) rfl (pi_range1 (by rfl) T.m_range (pa_cons (pv 2) pa_nil)) (pg_name (i := 4) sc_law_word.nd rfl (by first | exact Or.inl rfl | exact Or.inr rfl)) (pss_one (ps_set (i := 3) sc_law_word.nd rfl (by first | exact Or.inl rfl | exact Or.inr rfl) (pe_op op_addS (pv 3) (pe_ix ix_str (pv 1) (pe_cal (W := (fun _ _ _ _ => False)) h_law_next (hr.mono (by decide)) takes0N (pa_cons (pv 0) (pa_cons (pe_callB cr_lenT (by rfl) T.m_len bb_len (pa_cons (pv 1) pa_nil)) pa_nil))) (fun _ _ => rfl)))))) (pss_one (ps_ret (pv 3))))), ?_⟩
  refine Call.body h rfl fun G0_ H0_ => ?_
  have hpre_ := hpre; unfold pre_law_word at hpre_
  show Do _ _ ⟨[va (Adr.mk state), va letters, va size, none, none], [(state, stC false)]⟩ _
  refine do_seq (do_asg (i := 3) ev_str fun (word : Str) h_word => ?_)
  show Do _ _ ⟨[va (Adr.mk state), va letters, va size, va word, none], [(state, stC false)]⟩ _
  refine do_seq (do_forW (ei_rng1 (ea_consD (ev_var (i := 2) rfl) ea_nil) (by walk_at "fsc") (by walk_at "fsc")) eg_name (fun (pre : List Int) e_ => ∃ (wo : Str), (wo.length = pre.length) ∧ (inL letters wo) ∧ e_ = ⟨[va (Adr.mk state), va letters, va size, va wo, none], [(state, stC false)]⟩) ?_ ?_ ?_)
  ·
    refine ⟨⟨[va (Adr.mk state), va letters, va size, va _, none], [(state, stC false)]⟩, ⟨⟨Or.inr rfl, ⟨Or.inr rfl, ⟨Or.inr rfl, ⟨Or.inr rfl, ⟨Or.inl rfl, trivial⟩⟩⟩⟩⟩, (.cons₂ _ .slnil)⟩, _, ?_, ?_, rfl⟩
    · -- vc 0
      rw [h_word]; exact len_e
    · -- vc 1
      rw [h_word]; exact inL_e _
  ·
    rintro pre k post e_ hsplit ⟨wo, hI, hJ, rfl⟩
    have hlen_hsplit := congrArg List.length hsplit; simp only [List.length_append, List.length_cons, List.length_nil, List.length_map, signs_len, rngI_len, enumI_len, keysD_len] at hlen_hsplit
    have hrng_hsplit := rng_split hsplit
    show Do _ _ ⟨[va (Adr.mk state), va letters, va size, va wo, va k], [(state, stC false)]⟩ _
    refine do_asg (i := 3) (ev_op (P'' := (fun (z_ : Str) => ∃ (r : Int), post_law_next state ((letters).length : Int) r ∧ z_ = (wo ++ (sgnAt letters (r).toNat)))) (ev_var (i := 3) rfl) (fun x_ hx_ => (ev_op (P'' := (fun (z_ : Str) => ∃ (r : Int), post_law_next state ((letters).length : Int) r ∧ z_ = (sgnAt letters (r).toNat))) (ev_var (i := 1) rfl) (fun x_ hx_ => (Ev.mono (P' := (fun (z_ : Int) => ∃ (r : Int), post_law_next state ((letters).length : Int) r ∧ z_ = r)) (ev_call1 (W := (fun _ _ _ _ => False)) (k := 0) (c := stC false) (P' := (fun (z_ : Int) => post_law_next state ((letters).length : Int) z_)) rfl rfl rfl (fun _ => False) (ea_consD (ev_var (i := 0) rfl) (ea_consD (ev_cbD (ea_consD (ev_var (i := 1) rfl) ea_nil) (rc_lenT (by walk_at "fsc"))) ea_nil)) (fun ss_ hs_ us_ H_ Q_ E_ h_ => by obtain rfl := hs_; exact ⟨state, ((letters).length : Int), (by walk_at "fsc"), Call.imp h_ (fun r_ c_ hq_ => hq_) (fun x_ c_ hq_ => hq_)⟩) (fun x_ hx_ => hx_.elim)) (fun z_ hz_ => ⟨z_, hz_, rfl⟩))) (fun x_ y_ hx_ hy_ => by rw [hx_]; obtain ⟨r, hc_r, hy_⟩ := hy_; rw [hy_]; exact R2V.mono (r2_ixSp (by walk_at "fsc") (by walk_at "fsc")) fun z_ hz_ => ⟨r, hc_r, hz_⟩))) (fun x_ y_ hx_ hy_ => by rw [hx_]; obtain ⟨r, hc_r, hy_⟩ := hy_; rw [hy_]; exact R2V.mono (r2_addS (by rw [sgnAt_len, hI]; omega)) fun z_ hz_ => ⟨r, hc_r, hz_⟩)) fun (word1 : Str) h_word1 => ?_
    obtain ⟨r, hc_r, h_word1⟩ := h_word1
    refine ⟨⟨[va (Adr.mk state), va letters, va size, va _, none], [(state, stC false)]⟩, ⟨⟨Or.inr rfl, ⟨Or.inr rfl, ⟨Or.inr rfl, ⟨Or.inr rfl, ⟨Or.inl rfl, trivial⟩⟩⟩⟩⟩, (.cons₂ _ .slnil)⟩, _, ?_, ?_, rfl⟩
    · -- vc 2
      rw [h_word1, len_app, sgnAt_len, hI, List.length_append]; rfl
    · -- vc 3
      rw [h_word1]; exact inL_snoc hJ hc_r.1 hc_r.2
  ·
    rintro e_ ⟨wo, hI, hJ, rfl⟩
    show Do _ _ ⟨[va (Adr.mk state), va letters, va size, va wo, none], [(state, stC false)]⟩ _
    refine do_ret (ev_var (i := 3) rfl) fun z h_ret => ?_
    refine ⟨_, (.cons₂ _ .slnil), rfl, ?_⟩
    · -- vc 4
      rw [h_ret]; exact ⟨by rw [hI, rngI_len], hJ⟩

end
end LL

namespace LL
open PySem L2 Fw Lm
local macro_rules | `(tactic| walk_at "fsc") => `(tactic| first | omega | assumption | exact True.intro | exact sgn_split (by assumption) | exact sgn_split2 (by assumption) | (intros; omega) | (with_reducible exact emod_both (by omega)) | (simp only [Bool.not_eq_true', Bool.not_eq_false', decide_eq_true_eq, decide_eq_false_iff_not, Bool.or_eq_false_iff, Bool.and_eq_true, List.length_cons, List.length_nil, List.length_append, List.length_cons, List.length_nil, List.length_map, signs_len, rngI_len, enumI_len, keysD_len, pre_check_letters, post_check_letters, pre_check_word, post_check_word, pre_order_key, post_order_key, pre_in_order, post_in_order, pre_check_words, post_check_words, pre_Sample___init, post_Sample___init, pre_written, post_written, pre_word_of, post_word_of, pre_are_letters, post_are_letters, pre_sample_text, post_sample_text, pre_read_sample, post_read_sample, pre_law_start, pre_law_next, post_law_next, pre_law_integer, post_law_integer, pre_law_alphabet, post_law_alphabet, pre_law_word, post_law_word, pre_law_ordered, post_law_ordered, pre_law_text, post_law_text, pre_law_good_letters, post_law_good_letters, pre_law_read, post_law_read, pre_law_words_are, post_law_words_are, pre_law_reads, post_law_reads, pre_law_word_at, post_law_word_at, pre_law_climbing, post_law_climbing, pre_law_spoilt, post_law_spoilt, pre_law_large, post_law_large, pre_law, post_law] at *; first | omega | assumption | (refine ⟨?_, ?_⟩ <;> first | omega | assumption) | (refine ⟨?_, ?_, ?_⟩ <;> first | omega | assumption)) | (have hl_ := congrArg List.length hs_; simp only [List.length_append, List.length_cons, List.length_nil, List.length_map, signs_len, rngI_len, enumI_len, keysD_len] at hl_; omega) | (have hr_ := rng_split hs_; omega) | exact (by decide : 1 ≤ (" " : Str).length) | exact (by decide : 1 ≤ ("\n" : Str).length) | exact rfl)
local macro_rules | `(tactic| walk_at "fvc") => `(tactic| first | rfl | exact True.intro | assumption | omega)
local macro_rules | `(tactic| walk_at "fxp") => `(tactic| first | exact hx_ | assumption)
local macro_rules | `(tactic| walk_at "frs") => `(tactic| first | assumption)

section
variable {P : Program} {w : World} {K : PySem.W.Frag} {mg : Str → Option Value} {base : Heap} {A : Ad}
abbrev s_law_word_at : Stmt := topS 37
abbrev N_law_word_at : List Str := ["letters", "number", "word", "turn"]
theorem sc_law_word_at : FnScope N_law_word_at ["letters", "number"] (defScope s_law_word_at) := ⟨rfl, rfl, rfl, by decide +kernel, rfl, by decide +kernel, by decide +kernel⟩
set_option maxHeartbeats 4000000 in
theorem ok_law_word_at (T : Tx K mg A)  {fd : FuncData} (F : Fun K "_law_word_at" "_law_word_at" s_law_word_at A.law_word_at fd) : FnOk P w K mg base (L2N.CX P w) 1 A.law_word_at fd ["letters", "number"] (sp_law_word_at K) := by
  refine okN F sc_law_word_at (fun us H Q E ⟨letters, number, hpre, h⟩ => h.len) (fun cdv A_ outer s_ H us Q E hr ⟨letters, number, hpre, h⟩ => ?_)
  refine ⟨_, (pss_cons (ps_set (i := 2) sc_law_word_at.nd rfl (by first | exact Or.inl rfl | exact Or.inr rfl) pe_str) (pss_cons (ps_for (passes_of rfl) rfl (pi_range1 (by rfl) T.m_range (pa_cons pe_int pa_nil)) (pg_name (i := 3) sc_law_word_at.nd rfl (by first | exact Or.inl rfl | exact Or.inr rfl)) (pss_one (ps_if (pt_cmpR op_gt (pv 1) pe_int (nomark _)) (pss_cons (ps_set (i := 1) sc_law_word_at.nd rfl (by first | exact Or.inl rfl | exact Or.inr rfl) (pe_op op_sub (pv 1) pe_int)) (pss_cons (ps_set (i := 2) sc_law_word_at.nd rfl (by first | exact Or.inl rfl | exact Or.inr rfl) (pe_op op_addS (pe_ix ix_str (pv 0) (pe_op op_mod (pe_callTy cr_int1 (by rfl) T.m_int bb_int (pa_cons (pv 1) pa_nil)) (pe_callB cr_lenT (by rfl) T.m_len bb_len (pa_cons (pv 0) pa_nil))) (fun _ _ => rfl)) (pv 2))) (pss_one (ps_set (i := 1) sc_law_word_at.nd rfl (by first | exact Or.inl rfl | exact Or.inr rfl) (pe_op op_fdiv (pv 1) (pe_callB cr_lenT (by rfl) T.m_len bb_len (pa_cons (pv 0) pa_nil))))))) pss_nil))) (pss_one (ps_ret (pv 2))))), ?_⟩
  refine Call.body (sl := [va letters, va number, none, none]) h rfl fun G0_ H0_ => ?_
  have hpre_ := hpre; unfold pre_law_word_at at hpre_
  show Do _ _ ⟨[va letters, va number, none, none], []⟩ _
  refine do_seq (do_asg (i := 2) ev_str fun (word : Str) h_word => ?_)
  show Do _ _ ⟨[va letters, va number, va word, none], []⟩ _
  refine do_seq (do_forW (ei_rng1 (ea_consD ev_int ea_nil) (by walk_at "fsc") (by walk_at "fsc")) eg_name (fun (pre : List Int) e_ => ∃ (wo : Str) (nu : Int), (wo.length ≤ pre.length) ∧ e_ = ⟨[va letters, va nu, va wo, none], []⟩) ?_ ?_ ?_)
  ·
    refine ⟨⟨[va letters, va _, va _, none], []⟩, ⟨⟨Or.inr rfl, ⟨Or.inr rfl, ⟨Or.inr rfl, ⟨Or.inl rfl, trivial⟩⟩⟩⟩, .slnil⟩, _, _, ?_, rfl⟩
    · -- vc 0
      rw [h_word]; exact Nat.zero_le _
  ·
    rintro pre k post e_ hsplit ⟨wo, nu, hI, rfl⟩
    have hlen_hsplit := congrArg List.length hsplit; simp only [List.length_append, List.length_cons, List.length_nil, List.length_map, signs_len, rngI_len, enumI_len, keysD_len] at hlen_hsplit
    have hrng_hsplit := rng_split hsplit
    show Do _ _ ⟨[va letters, va nu, va wo, va k], []⟩ _
    refine do_ifD (et_test (ev_opD (ev_var (i := 1) rfl) ev_int r2_gt)) (fun h_if => ?_) (fun h_if => ?_)
    ·
      refine do_seq (do_asg (i := 1) (ev_opD (ev_var (i := 1) rfl) ev_int r2_sub) fun (number1 : Int) h_number1 => ?_)
      show Do _ _ ⟨[va letters, va number1, va wo, va k], []⟩ _
      refine do_seq (do_asg (i := 2) (ev_opD (ev_opD (ev_var (i := 0) rfl) (ev_opD (ev_cbD (ea_consD (ev_var (i := 1) rfl) ea_nil) rc_int1) (ev_cbD (ea_consD (ev_var (i := 0) rfl) ea_nil) (rc_lenT (by walk_at "fsc"))) (r2_mod (by walk_at "fsc"))) (r2_ixSp (by walk_at "fsc") (by walk_at "fsc"))) (ev_var (i := 2) rfl) (r2_addS (by rw [sgnAt_len]; omega))) fun (word1 : Str) h_word1 => ?_)
      show Do _ _ ⟨[va letters, va number1, va word1, va k], []⟩ _
      refine do_asg (i := 1) (ev_opD (ev_var (i := 1) rfl) (ev_cbD (ea_consD (ev_var (i := 0) rfl) ea_nil) (rc_lenT (by walk_at "fsc"))) (r2_fdiv (by walk_at "fsc"))) fun (number2 : Int) h_number2 => ?_
      refine ⟨⟨[va letters, va _, va _, none], []⟩, ⟨⟨Or.inr rfl, ⟨Or.inr rfl, ⟨Or.inr rfl, ⟨Or.inl rfl, trivial⟩⟩⟩⟩, .slnil⟩, _, _, ?_, rfl⟩
      · -- vc 1
        rw [h_word1, len_app, sgnAt_len, List.length_append, List.length_singleton]; omega
    ·
      refine do_next ?_
      refine ⟨⟨[va letters, va _, va _, none], []⟩, ⟨⟨Or.inr rfl, ⟨Or.inr rfl, ⟨Or.inr rfl, ⟨Or.inl rfl, trivial⟩⟩⟩⟩, .slnil⟩, _, _, ?_, rfl⟩
      · -- vc 2
        rw [List.length_append, List.length_singleton]; omega
  ·
    rintro e_ ⟨wo, nu, hI, rfl⟩
    show Do _ _ ⟨[va letters, va nu, va wo, none], []⟩ _
    refine do_ret (ev_var (i := 2) rfl) fun z h_ret => ?_
    refine ⟨_, .slnil, rfl, ?_⟩
    · -- vc 3
      rw [rngI_len] at hI; rw [h_ret]; exact hI

end
end LL

namespace LL
open PySem L2 Fw Lm
local macro_rules | `(tactic| walk_at "fsc") => `(tactic| first | omega | assumption | exact True.intro | exact sgn_split (by assumption) | exact sgn_split2 (by assumption) | (intros; omega) | (with_reducible exact emod_both (by omega)) | (simp only [Bool.not_eq_true', Bool.not_eq_false', decide_eq_true_eq, decide_eq_false_iff_not, Bool.or_eq_false_iff, Bool.and_eq_true, List.length_cons, List.length_nil, List.length_append, List.length_cons, List.length_nil, List.length_map, signs_len, rngI_len, enumI_len, keysD_len, pre_check_letters, post_check_letters, pre_check_word, post_check_word, pre_order_key, post_order_key, pre_in_order, post_in_order, pre_check_words, post_check_words, pre_Sample___init, post_Sample___init, pre_written, post_written, pre_word_of, post_word_of, pre_are_letters, post_are_letters, pre_sample_text, post_sample_text, pre_read_sample, post_read_sample, pre_law_start, pre_law_next, post_law_next, pre_law_integer, post_law_integer, pre_law_alphabet, post_law_alphabet, pre_law_word, post_law_word, pre_law_ordered, post_law_ordered, pre_law_text, post_law_text, pre_law_good_letters, post_law_good_letters, pre_law_read, post_law_read, pre_law_words_are, post_law_words_are, pre_law_reads, post_law_reads, pre_law_word_at, post_law_word_at, pre_law_climbing, post_law_climbing, pre_law_spoilt, post_law_spoilt, pre_law_large, post_law_large, pre_law, post_law] at *; first | omega | assumption | (refine ⟨?_, ?_⟩ <;> first | omega | assumption) | (refine ⟨?_, ?_, ?_⟩ <;> first | omega | assumption)) | (have hl_ := congrArg List.length hs_; simp only [List.length_append, List.length_cons, List.length_nil, List.length_map, signs_len, rngI_len, enumI_len, keysD_len] at hl_; omega) | (have hr_ := rng_split hs_; omega) | exact (by decide : 1 ≤ (" " : Str).length) | exact (by decide : 1 ≤ ("\n" : Str).length) | exact rfl)
local macro_rules | `(tactic| walk_at "fvc") => `(tactic| first | rfl | exact True.intro | assumption | omega)
local macro_rules | `(tactic| walk_at "fxp") => `(tactic| first | exact hx_ | assumption)
local macro_rules | `(tactic| walk_at "frs") => `(tactic| first | assumption)

section
variable {P : Program} {w : World} {K : PySem.W.Frag} {mg : Str → Option Value} {base : Heap} {A : Ad}
abbrev s_law_words_are : Stmt := topS 35
abbrev N_law_words_are : List Str := ["actual", "due", "k"]
theorem sc_law_words_are : FnScope N_law_words_are ["actual", "due"] (defScope s_law_words_are) := ⟨rfl, rfl, rfl, by decide +kernel, rfl, by decide +kernel, by decide +kernel⟩
set_option maxHeartbeats 4000000 in
theorem ok_law_words_are (T : Tx K mg A)  {fd : FuncData} (F : Fun K "_law_words_are" "_law_words_are" s_law_words_are A.law_words_are fd) : FnOk P w K mg base (L2N.CX P w) 1 A.law_words_are fd ["actual", "due"] (sp_law_words_are K) := by
  refine okN F sc_law_words_are (fun us H Q E ⟨actual, due, hpre, h⟩ => h.len) (fun cdv A_ outer s_ H us Q E hr ⟨actual, due, hpre, h⟩ => ?_)
  refine ⟨_, (pss_cons (ps_if (PW.pt (pw_or (pt_not (pt_val (pe_callB call_isi (by rfl) T.m_isinstance bb_isinstance (pa_cons (pv 0) (pa_cons (pe_bltn (v := .ty "tuple") (by rfl) T.m_tuple bb_tuple rfl) pa_nil))))) (pw_or1 (pt_cmpR op_ne (pe_callB cr_lenQ (by rfl) T.m_len bb_len (pa_cons (pv 0) pa_nil)) (pe_callB cr_lenQ (by rfl) T.m_len bb_len (pa_cons (pv 1) pa_nil)) (nomark _))))) (pss_one (ps_ret pe_bl)) pss_nil) (pss_one (ps_ret (pe_callB (cr_all rfl) (by rfl) T.m_all bb_all (pa_cons (pe_lc (own := [("k", 2)]) (g := gName 2) (tt := tYes) rfl sc_law_words_are.nd (pi_range1 (by rfl) T.m_range (pa_cons (pe_callB cr_lenQ (by rfl) T.m_len bb_len (pa_cons (pv 1) pa_nil)) pa_nil)) (blkOk_by (N := N_law_words_are) (sc := defScope s_law_words_are) (by decide +kernel)) (fun _ _ _ _ _ => (pg_name (i := 2) sc_law_words_are.nd rfl (by first | exact Or.inl rfl | exact Or.inr rfl))) (fun _ _ _ _ _ => pts_nil) (fun _ _ _ _ _ => (pe_and (pe_callB (call_isiK (K := K) rfl) (by rfl) T.m_isinstance bb_isinstance (pa_cons (pe_ix (ix_tupK (K := K) rfl) (pv 0) (pv 2) (fun _ _ => rfl)) (pa_cons (pe_bltn (v := .ty "str") (by rfl) T.m_str bb_str rfl) pa_nil))) (pe_one (pe_cmpR op_eq (pe_ix (ix_tupK (K := K) rfl) (pv 0) (pv 2) (fun _ _ => rfl)) (pe_ix (ix_listK (K := K) rfl) (pv 1) (pv 2) (fun _ _ => rfl)) (nomark _)))))) pa_nil))))), ?_⟩
  refine Call.body (sl := [va actual, va due, none]) h rfl fun G0_ H0_ => ?_
  have hpre_ := hpre; unfold pre_law_words_are at hpre_
  show Do _ _ ⟨[va actual, va due, none], []⟩ _
  refine do_seq (do_ifD (et_orD (et_notD (et_B (isi_U (c := "tuple") (b := true) (ev_var (i := 0) rfl) (by decide +kernel)))) (fun hb => (et_test (ev_opD (ev_cbD (ea_consD (ev_var (i := 0) rfl) ea_nil) rc_lenU) (ev_cbD (ea_consD (ev_var (i := 1) rfl) ea_nil) rc_lenL) r2_neI)))) (fun h_if => ?_) (fun h_if => ?_))
  ·
    refine do_ret ev_bl fun z h_ret => ?_
    refine ⟨_, .slnil, rfl, ?_⟩
    · -- vc 0
      rw [hpre_.1] at h_if; simp at h_if
  ·
    refine do_next ?_
    show Do _ _ ⟨[va actual, va due, none], []⟩ _
    refine do_ret (ev_cbD (ea_consD (evl_val (evl_lcM (h := fun (k : Int) => (true && (decide (((actual).l.getD (k).toNat dS) = (due.getD (k).toNat dS))))) (ei_rng1 (ea_consD (ev_cbD (ea_consD (ev_var (i := 1) rfl) ea_nil) rc_lenL) ea_nil) (by walk_at "fsc") (by walk_at "fsc")) eg_name (by simp) (by walk_at "fsc") (fun pre_ k post_ hs_ dc_ => (ev_andD (isi_F (ty := "str") (c := "str") (b := true) (ev_opD (ev_var (i := 0) rfl) (ev_var (i := 2) rfl) (r2_ixUp (d := dS) (by have h1 := rng_split hs_; rw [hpre_.1]; omega))) (fun _ => TyOf.str _) (by decide +kernel)) (fun hb2 => (ev_opD (ev_opD (ev_var (i := 0) rfl) (ev_var (i := 2) rfl) (r2_ixUp (d := dS) (by have h1 := rng_split hs_; rw [hpre_.1]; omega))) (ev_opD (ev_var (i := 1) rfl) (ev_var (i := 2) rfl) (r2_ixLp (d := dS) (by have h1 := rng_split hs_; omega))) r2_eqS)))))) ea_nil) rc_all) fun z h_ret => ?_
    refine ⟨_, .slnil, rfl, ?_⟩
    · -- vc 1
      rw [h_ret, hpre_.1]; show _ = true
      rw [List.all_eq_true]; intro b hb
      obtain ⟨k, _, rfl⟩ := List.mem_map.mp hb
      show (true && decide _) = true
      rw [decide_eq_true rfl]; rfl

end
end LL

namespace LL
open PySem L2 Fw Lm
local macro_rules | `(tactic| walk_at "fsc") => `(tactic| first | omega | assumption | exact True.intro | exact sgn_split (by assumption) | exact sgn_split2 (by assumption) | (intros; omega) | (with_reducible exact emod_both (by omega)) | (simp only [Bool.not_eq_true', Bool.not_eq_false', decide_eq_true_eq, decide_eq_false_iff_not, Bool.or_eq_false_iff, Bool.and_eq_true, List.length_cons, List.length_nil, List.length_append, List.length_cons, List.length_nil, List.length_map, signs_len, rngI_len, enumI_len, keysD_len, pre_check_letters, post_check_letters, pre_check_word, post_check_word, pre_order_key, post_order_key, pre_in_order, post_in_order, pre_check_words, post_check_words, pre_Sample___init, post_Sample___init, pre_written, post_written, pre_word_of, post_word_of, pre_are_letters, post_are_letters, pre_sample_text, post_sample_text, pre_read_sample, post_read_sample, pre_law_start, pre_law_next, post_law_next, pre_law_integer, post_law_integer, pre_law_alphabet, post_law_alphabet, pre_law_word, post_law_word, pre_law_ordered, post_law_ordered, pre_law_text, post_law_text, pre_law_good_letters, post_law_good_letters, pre_law_read, post_law_read, pre_law_words_are, post_law_words_are, pre_law_reads, post_law_reads, pre_law_word_at, post_law_word_at, pre_law_climbing, post_law_climbing, pre_law_spoilt, post_law_spoilt, pre_law_large, post_law_large, pre_law, post_law] at *; first | omega | assumption | (refine ⟨?_, ?_⟩ <;> first | omega | assumption) | (refine ⟨?_, ?_, ?_⟩ <;> first | omega | assumption)) | (have hl_ := congrArg List.length hs_; simp only [List.length_append, List.length_cons, List.length_nil, List.length_map, signs_len, rngI_len, enumI_len, keysD_len] at hl_; omega) | (have hr_ := rng_split hs_; omega) | exact (by decide : 1 ≤ (" " : Str).length) | exact (by decide : 1 ≤ ("\n" : Str).length) | exact rfl)
local macro_rules | `(tactic| walk_at "fvc") => `(tactic| first | rfl | exact True.intro | assumption | omega)
local macro_rules | `(tactic| walk_at "fxp") => `(tactic| first | exact hx_ | assumption)
local macro_rules | `(tactic| walk_at "frs") => `(tactic| first | assumption)

section
variable {P : Program} {w : World} {K : PySem.W.Frag} {mg : Str → Option Value} {base : Heap} {A : Ad}
abbrev s_order_key : Stmt := topS 12
abbrev N_order_key : List Str := ["word"]
theorem sc_order_key : FnScope N_order_key ["word"] (defScope s_order_key) := ⟨rfl, rfl, rfl, by decide +kernel, rfl, by decide +kernel, by decide +kernel⟩
set_option maxHeartbeats 4000000 in
theorem ok_order_key (T : Tx K mg A)  {fd : FuncData} (F : Fun K "order_key" "order_key" s_order_key A.order_key fd) : FnOk P w K mg base (L2N.CX P w) 1 A.order_key fd ["word"] (sp_order_key K) := by
  refine okN F sc_order_key (fun us H Q E ⟨word, hpre, h⟩ => h.len) (fun cdv A_ outer s_ H us Q E hr ⟨word, hpre, h⟩ => ?_)
  refine ⟨_, (pss_one (ps_ret (pe_tup (pa_cons (pe_callB cr_lenT (by rfl) T.m_len bb_len (pa_cons (pv 0) pa_nil)) (pa_cons (pv 0) pa_nil))))), ?_⟩
  refine Call.body (sl := [va word]) h rfl fun G0_ H0_ => ?_
  have hpre_ := hpre; unfold pre_order_key at hpre_
  show Do _ _ ⟨[va word], []⟩ _
  refine do_ret (ev_pair (ea_consD (ev_cbD (ea_consD (ev_var (i := 0) rfl) ea_nil) (rc_lenT (by walk_at "fsc"))) (ea_consD (ev_var (i := 0) rfl) ea_nil))) fun z h_ret => ?_
  refine ⟨_, .slnil, rfl, ?_⟩
  · walk_at "fvc"

end
end LL

namespace LL
open PySem L2 Fw Lm
local macro_rules | `(tactic| walk_at "fsc") => `(tactic| first | omega | assumption | exact True.intro | exact sgn_split (by assumption) | exact sgn_split2 (by assumption) | (intros; omega) | (with_reducible exact emod_both (by omega)) | (simp only [Bool.not_eq_true', Bool.not_eq_false', decide_eq_true_eq, decide_eq_false_iff_not, Bool.or_eq_false_iff, Bool.and_eq_true, List.length_cons, List.length_nil, List.length_append, List.length_cons, List.length_nil, List.length_map, signs_len, rngI_len, enumI_len, keysD_len, pre_check_letters, post_check_letters, pre_check_word, post_check_word, pre_order_key, post_order_key, pre_in_order, post_in_order, pre_check_words, post_check_words, pre_Sample___init, post_Sample___init, pre_written, post_written, pre_word_of, post_word_of, pre_are_letters, post_are_letters, pre_sample_text, post_sample_text, pre_read_sample, post_read_sample, pre_law_start, pre_law_next, post_law_next, pre_law_integer, post_law_integer, pre_law_alphabet, post_law_alphabet, pre_law_word, post_law_word, pre_law_ordered, post_law_ordered, pre_law_text, post_law_text, pre_law_good_letters, post_law_good_letters, pre_law_read, post_law_read, pre_law_words_are, post_law_words_are, pre_law_reads, post_law_reads, pre_law_word_at, post_law_word_at, pre_law_climbing, post_law_climbing, pre_law_spoilt, post_law_spoilt, pre_law_large, post_law_large, pre_law, post_law] at *; first | omega | assumption | (refine ⟨?_, ?_⟩ <;> first | omega | assumption) | (refine ⟨?_, ?_, ?_⟩ <;> first | omega | assumption)) | (have hl_ := congrArg List.length hs_; simp only [List.length_append, List.length_cons, List.length_nil, List.length_map, signs_len, rngI_len, enumI_len, keysD_len] at hl_; omega) | (have hr_ := rng_split hs_; omega) | exact (by decide : 1 ≤ (" " : Str).length) | exact (by decide : 1 ≤ ("\n" : Str).length) | exact rfl)
local macro_rules | `(tactic| walk_at "fvc") => `(tactic| first | rfl | exact True.intro | assumption | omega)
local macro_rules | `(tactic| walk_at "fxp") => `(tactic| first | exact hx_ | assumption)
local macro_rules | `(tactic| walk_at "frs") => `(tactic| first | assumption)

section
variable {P : Program} {w : World} {K : PySem.W.Frag} {mg : Str → Option Value} {base : Heap} {A : Ad}
abbrev s_read_sample : Stmt := topS 24
abbrev N_read_sample : List Str := ["text", "rows", "head", "lists", "at", "line", "parts", "word", "words"]
theorem sc_read_sample : FnScope N_read_sample ["text"] (defScope s_read_sample) := ⟨rfl, rfl, rfl, by decide +kernel, rfl, by decide +kernel, by decide +kernel⟩
set_option maxHeartbeats 4000000 in
theorem ok_read_sample (T : Tx K mg A) (x_BadText : CalX P w K mg base 1 A.BadText "BadText" ["line"]) (n_Sample : Mkr P w K mg base 6 A.Sample "Sample" ["self", "letters", "yes", "no"] (sp_Sample___init K A)) (h_are_letters : Cal P w K mg base 2 A.are_letters "are_letters" ["text"] (sp_are_letters K)) (h_order_key : Cal P w K mg base 1 A.order_key "order_key" ["word"] (sp_order_key K)) (h_word_of : Cal P w K mg base 1 A.word_of "word_of" ["letters", "part"] (sp_word_of K)) {fd : FuncData} (F : Fun K "read_sample" "read_sample" s_read_sample A.read_sample fd) : FnOk P w K mg base (L2N.CX P w) 8 A.read_sample fd ["text"] (sp_read_sample K A) := by
  obtain ⟨tc_MOST_LETTERS, hc_MOST_LETTERS⟩ := T.c_MOST_LETTERS
  obtain ⟨tc_MOST_WORDS, hc_MOST_WORDS⟩ := T.c_MOST_WORDS
  refine okN F sc_read_sample (fun us H Q E ⟨text, hpre, h⟩ => h.len) (fun cdv A_ outer s_ H us Q E hr ⟨text, hpre, h⟩ => ?_)
  refine ⟨_, (pss_cons (ps_set (i := 1) sc_read_sample.nd rfl (by first | exact Or.inl rfl | exact Or.inr rfl) (pe_bm PySem.F.plainAttrs_str PySem.F.slot_str_split PySem.F.type_str_split mt_splitS (pv 0) (pa_cons pe_str pa_nil))) (pss_cons (ps_set (i := 2) sc_read_sample.nd rfl (by first | exact Or.inl rfl | exact Or.inr rfl) (pe_bm PySem.F.plainAttrs_str PySem.F.slot_str_split PySem.F.type_str_split mt_splitS (pe_ix ix_list (pv 1) pe_int (fun _ _ => rfl)) (pa_cons pe_str pa_nil))) (pss_cons (ps_if (PW.pt (pw_or (pt_cmpR op_ne (pe_callB cr_lenQ (by rfl) T.m_len bb_len (pa_cons (pv 2) pa_nil)) pe_int (nomark _)) (pw_or (pt_cmpR op_ne (pe_ix ix_list (pv 2) pe_int (fun _ _ => rfl)) pe_str (nomark _)) (pw_or1 (pt_not (pt_val (pe_cal (W := (fun _ _ _ _ => False)) h_are_letters (hr.mono (by decide)) takes0N (pa_cons (pe_ix ix_list (pv 2) pe_int (fun _ _ => rfl)) pa_nil)))))))) (pss_one (ps_raiseF x_BadText (hr.mono (by decide)) (L2N.takes_of rfl rfl rfl rfl) (pa_cons pe_int pa_nil))) pss_nil) (pss_cons (ps_set (i := 3) sc_read_sample.nd rfl (by first | exact Or.inl rfl | exact Or.inr rfl) (pe_disp (pps_cons pe_str (pe_lst pa_nil) (pps_cons pe_str (pe_lst pa_nil) pps_nil)) rfl rfl (by simp) (by decide))) (pss_cons (ps_for (passes_of rfl) rfl (pi_enum (by rfl) T.m_enumerate (pa_cons (pe_slice sl_list (pv 1) (po_some pe_int) po_none) pa_nil)) (pg_tup rfl (pgs_cons (pg_name (i := 4) sc_read_sample.nd rfl (by first | exact Or.inl rfl | exact Or.inr rfl)) (pgs_cons (pg_name (i := 5) sc_read_sample.nd rfl (by first | exact Or.inl rfl | exact Or.inr rfl)) pgs_nil))) (pss_cons (ps_set (i := 6) sc_read_sample.nd rfl (by first | exact Or.inl rfl | exact Or.inr rfl) (pe_bm PySem.F.plainAttrs_str PySem.F.slot_str_split PySem.F.type_str_split mt_splitS (pv 5) (pa_cons pe_str pa_nil))) (pss_cons (ps_if (PW.pt (pw_or (pt_cmpR op_ne (pe_callB cr_lenQ (by rfl) T.m_len bb_len (pa_cons (pv 6) pa_nil)) pe_int (nomark _)) (pw_or1 (pt_cmp (pc_dnotin (hu_of hr) (pe_ix ix_list (pv 6) pe_int (fun _ _ => rfl)) (pv 3)))))) (pss_one (ps_raiseF x_BadText (hr.mono (by decide)) (L2N.takes_of rfl rfl rfl rfl) (pa_cons (pe_op op_add (pv 4) pe_int) pa_nil))) pss_nil) (pss_cons (ps_set (i := 7) sc_read_sample.nd rfl (by first | exact Or.inl rfl | exact Or.inr rfl) (pe_cal (W := (fun _ _ _ _ => False)) h_word_of (hr.mono (by decide)) takes0N (pa_cons (pe_ix ix_list (pv 2) pe_int (fun _ _ => rfl)) (pa_cons (pe_ix ix_list (pv 6) pe_int (fun _ _ => rfl)) pa_nil)))) (pss_cons (ps_set (i := 8) sc_read_sample.nd rfl (by first | exact Or.inl rfl | exact Or.inr rfl) (pe_dget (hu_of hr) (pv 3) (pe_ix ix_list (pv 6) pe_int (fun _ _ => rfl)) (fun _ _ => rfl))) (pss_cons (ps_if (PW.pt (pw_or (pt_cmpR op_isNO (pv 7) pe_non (nomark _)) (pw_or (pt_cmpR op_gt (pe_callB cr_lenT (by rfl) T.m_len bb_len (pa_cons (pv 7) pa_nil)) (pe_glob (v := .int 24) rfl hc_MOST_LETTERS ⟨_, rfl⟩) (nomark _)) (pw_or1 (pt_cmpR op_eq (pe_callB cr_lenQ (by rfl) T.m_len bb_len (pa_cons (pv 8) pa_nil)) (pe_glob (v := .int 64) rfl hc_MOST_WORDS ⟨_, rfl⟩) (nomark _)))))) (pss_one (ps_raiseF x_BadText (hr.mono (by decide)) (L2N.takes_of rfl rfl rfl rfl) (pa_cons (pe_op op_add (pv 4) pe_int) pa_nil))) pss_nil) (pss_cons (ps_if (PW.pt (pw_and (pt_cmpR op_gt (pe_callB cr_lenQ (by rfl) T.m_len bb_len (pa_cons (pv 8) pa_nil)) pe_int (nomark _)) (pw_and1 (pt_cmpR (op_leP (Nat.lt_of_le_of_lt (Nat.le_add_right _ _) hr.units)) (pe_cal (W := (fun _ _ _ _ => False)) h_order_key (hr.mono (by decide)) takes0N (pa_cons (pv 7) pa_nil)) (pe_cal (W := (fun _ _ _ _ => False)) h_order_key (hr.mono (by decide)) takes0N (pa_cons (pe_ix ix_list (pv 8) (pe_op op_sub (pe_callB cr_lenQ (by rfl) T.m_len bb_len (pa_cons (pv 8) pa_nil)) pe_int) (fun _ _ => rfl)) pa_nil)) (nomark _))))) (pss_one (ps_raiseF x_BadText (hr.mono (by decide)) (L2N.takes_of rfl rfl rfl rfl) (pa_cons (pe_op op_add (pv 4) pe_int) pa_nil))) pss_nil) (pss_cons (ps_if (PW.pt (pw_and (pt_cmpR op_eq (pe_ix ix_list (pv 6) pe_int (fun _ _ => rfl)) pe_str (nomark _)) (pw_and1 (pt_cmpR op_gt (pe_callB cr_lenQ (by rfl) T.m_len bb_len (pa_cons (pe_dget (hu_of hr) (pv 3) pe_str (fun _ _ => rfl)) pa_nil)) pe_int (nomark _))))) (pss_one (ps_raiseF x_BadText (hr.mono (by decide)) (L2N.takes_of rfl rfl rfl rfl) (pa_cons (pe_op op_add (pv 4) pe_int) pa_nil))) pss_nil) (pss_one (ps_expr (pe_bm PySem.F.plainAttrs_list PySem.F.slot_list_append PySem.F.type_list_append mt_append (pv 8) (pa_cons (pv 7) pa_nil)))))))))))) (pss_one (ps_ret (pe_mkr (W := (fun cls d _ H => E cls d H)) n_Sample (hr.mono (by decide)) (L2N.takes_of rfl rfl rfl rfl) (pa_cons (pe_ix ix_list (pv 2) pe_int (fun _ _ => rfl)) (pa_cons (pe_dget (hu_of hr) (pv 3) pe_str (fun _ _ => rfl)) (pa_cons (pe_dget (hu_of hr) (pv 3) pe_str (fun _ _ => rfl)) pa_nil))))))))))), ?_⟩
  refine Call.body (sl := [va text, none, none, none, none, none, none, none, none]) h rfl fun G0_ H0_ => ?_
  have hpre_ := hpre; unfold pre_read_sample at hpre_
  show Do _ _ ⟨[va text, none, none, none, none, none, none, none, none], []⟩ _
  refine do_seq (do_asg (i := 1) (evl_val (evl_split (ev_var (i := 0) rfl) (ea_consD ev_str ea_nil) (by walk_at "fsc") (by walk_at "fsc"))) fun (rows : (List Str)) h_rows => ?_)
  have hLf := lines_facts h_rows hpre_
  show Do _ _ ⟨[va text, va rows, none, none, none, none, none, none, none], []⟩ _
  refine do_seq (do_asg (i := 2) (evl_val (evl_split (ev_opD (ev_var (i := 1) rfl) ev_int (r2_ixLp (d := dS) (by have h1 := hLf.1; omega))) (ea_consD ev_str ea_nil) (by walk_at "fsc") (by exact Nat.le_trans (hLf.2.2 _) (by decide)))) fun (head : (List Str)) h_head => ?_)
  have hH := head_is (text := text) (head := head) (by rw [h_head, h_rows]; rfl)
  have hPf := parts_facts h_head (hLf.2.2 _)
  show Do _ _ ⟨[va text, va rows, va head, none, none, none, none, none, none], []⟩ _
  refine do_seq (do_ifD (et_orD (et_test (ev_opD (ev_cbD (ea_consD (ev_var (i := 2) rfl) ea_nil) rc_lenL) ev_int r2_neI)) (fun hb => (et_orD (et_test (ev_opD (ev_opD (ev_var (i := 2) rfl) ev_int (r2_ixLp (d := dS) (by walk_at "fsc"))) ev_str r2_neS)) (fun hb1 => (et_notD (et_B (ev_callP (W := (fun _ _ _ _ => False)) (P' := (· = (decide (goodL (head.getD ((1 : Int)).toNat dS))))) (fun _ => False) (ea_consD (ev_opD (ev_var (i := 2) rfl) ev_int (r2_ixLp (d := dS) (by walk_at "fsc"))) ea_nil) (fun ss_ hs_ us_ H_ Q_ E_ h_ => by obtain rfl := hs_; exact ⟨(head.getD ((1 : Int)).toNat dS), (by exact Nat.le_trans (hPf.2.2 _) (by decide)), Call.imp h_ (fun r_ c_ hq_ => hq_) (fun x_ c_ hq_ => hq_)⟩) (fun x_ hx_ => hx_.elim)))))))) (fun h_if => ?_) (fun h_if => ?_))
  ·
    refine do_raiseF (e := ⟨[va text, va rows, va head, none, none, none, none, none, none], []⟩) (ea_consD ev_int ea_nil) rfl (by decide +kernel) (by decide) (by refine ⟨_, .slnil, rfl, ?_⟩; exact ⟨1, rfl, rdS_no (by rw [hH] at h_if; simpa using h_if)⟩)
  ·
    refine do_next ?_
    show Do _ _ ⟨[va text, va rows, va head, none, none, none, none, none, none], []⟩ _
    refine do_seq (do_dnew2L (i := 3) Str (by decide +kernel) fun a_lists b_lists c_lists => ?_)
    show Do _ _ ⟨[va text, va rows, va head, va (Adr.mk a_lists), none, none, none, none, none], [(a_lists, ownD [(("yes" : Str), Adr.mk b_lists), (("no" : Str), Adr.mk c_lists)]), (c_lists, ownL ([] : List Str)), (b_lists, ownL ([] : List Str))]⟩ _
    refine do_seq (do_forW (ei_enumL (ea_consD (evl_val (evl_slL (ev_var (i := 1) rfl) (eo_some ev_int) eo_none)) ea_nil)) eg_pair (fun (pre : List (Int × Str)) e_ => ∃ (ys : List Str) (ns : List Str), (RdS text pre.length ys ns) ∧ e_ = ⟨[va text, va rows, va head, va (Adr.mk a_lists), none, none, none, none, none], [(a_lists, ownD [(("yes" : Str), Adr.mk b_lists), (("no" : Str), Adr.mk c_lists)]), (c_lists, ownL ns), (b_lists, ownL ys)]⟩) ?_ ?_ ?_)
    ·
      refine ⟨⟨[va text, va rows, va head, va (Adr.mk a_lists), none, none, none, none, none], [(a_lists, ownD [(("yes" : Str), Adr.mk b_lists), (("no" : Str), Adr.mk c_lists)]), (c_lists, ownL _), (b_lists, ownL _)]⟩, ⟨⟨Or.inr rfl, ⟨Or.inr rfl, ⟨Or.inr rfl, ⟨Or.inr rfl, ⟨Or.inl rfl, ⟨Or.inl rfl, ⟨Or.inl rfl, ⟨Or.inl rfl, ⟨Or.inl rfl, trivial⟩⟩⟩⟩⟩⟩⟩⟩⟩, (.cons₂ _ (.cons₂ _ (.cons₂ _ .slnil)))⟩, _, _, ?_, rfl⟩
      · walk_at "fvc"
    ·
      rintro pre it post e_ hsplit ⟨ys, ns, hI, rfl⟩
      have hlen_hsplit := congrArg List.length hsplit; simp only [List.length_append, List.length_cons, List.length_nil, List.length_map, signs_len, rngI_len, enumI_len, keysD_len] at hlen_hsplit
      show Do _ _ ⟨[va text, va rows, va head, va (Adr.mk a_lists), va it.1, va it.2, none, none, none], [(a_lists, ownD [(("yes" : Str), Adr.mk b_lists), (("no" : Str), Adr.mk c_lists)]), (c_lists, ownL ns), (b_lists, ownL ys)]⟩ _
      refine do_seq (do_asg (i := 6) (evl_val (evl_split (ev_var (i := 5) rfl) (ea_consD ev_str ea_nil) (by walk_at "fsc") (by have hm := mline h_rows hsplit; rw [hm.2.1]; have h5 := hLf.2.2 (pre.length + 1); rw [h_rows] at h5; exact Nat.le_trans h5 (by decide)))) fun (parts : (List Str)) h_parts => ?_)
      have hm := mline h_rows hsplit
      have hk : headOk text := (by rw [hH] at h_if; simpa using h_if)
      have hhd : head.getD (1 : Int).toNat dS = headL text := (by rw [h_head, h_rows]; rfl)
      have hg := rdS_good hI
      have hit : it.2.length ≤ 200000 := (by rw [hm.2.1]; have h5 := hLf.2.2 (pre.length + 1); rw [h_rows] at h5; exact h5)
      have hPl := parts_facts h_parts hit
      show Do _ _ ⟨[va text, va rows, va head, va (Adr.mk a_lists), va it.1, va it.2, va parts, none, none], [(a_lists, ownD [(("yes" : Str), Adr.mk b_lists), (("no" : Str), Adr.mk c_lists)]), (c_lists, ownL ns), (b_lists, ownL ys)]⟩ _
      refine do_seq (do_ifD (et_orD (et_test (ev_opD (ev_cbD (ea_consD (ev_var (i := 6) rfl) ea_nil) rc_lenL) ev_int r2_neI)) (fun hb3 => (et_B (ev_dni (k := 0) rfl (ev_opD (ev_var (i := 6) rfl) ev_int (r2_ixLp (d := dS) (by walk_at "fsc"))) (ev_var (i := 3) rfl))))) (fun h_if1 => ?_) (fun h_if1 => ?_))
      ·
        refine do_raiseF (e := ⟨[va text, va rows, va head, va (Adr.mk a_lists), va it.1, va it.2, va parts, none, none], [(a_lists, ownD [(("yes" : Str), Adr.mk b_lists), (("no" : Str), Adr.mk c_lists)]), (c_lists, ownL ns), (b_lists, ownL ys)]⟩) (ea_consD (ev_opD (ev_var (i := 4) rfl) ev_int r2_add) ea_nil) rfl (by decide +kernel) (by decide) (by refine ⟨_, (.cons _ (.cons _ (.cons _ .slnil))), rfl, ?_⟩; exact ⟨_, rfl, by rw [hm.1]; exact rdS_bad hk hm.2.2 hI (by rw [← hm.2.1]; exact st_1 h_parts h_if1)⟩)
      ·
        refine do_next ?_
        show Do _ _ ⟨[va text, va rows, va head, va (Adr.mk a_lists), va it.1, va it.2, va parts, none, none], [(a_lists, ownD [(("yes" : Str), Adr.mk b_lists), (("no" : Str), Adr.mk c_lists)]), (c_lists, ownL ns), (b_lists, ownL ys)]⟩ _
        refine do_seq (do_asg (i := 7) (ev_callP (W := (fun _ _ _ _ => False)) (P' := (· = (wordO (head.getD ((1 : Int)).toNat dS) (parts.getD ((1 : Int)).toNat dS)))) (fun _ => False) (ea_consD (ev_opD (ev_var (i := 2) rfl) ev_int (r2_ixLp (d := dS) (by walk_at "fsc"))) (ea_consD (ev_opD (ev_var (i := 6) rfl) ev_int (r2_ixLp (d := dS) (by walk_at "fsc"))) ea_nil)) (fun ss_ hs_ us_ H_ Q_ E_ h_ => by obtain rfl := hs_; exact ⟨(head.getD ((1 : Int)).toNat dS), (parts.getD ((1 : Int)).toNat dS), (by exact Nat.le_trans (hPl.2.2 _) (by decide)), Call.imp h_ (fun r_ c_ hq_ => hq_) (fun x_ c_ hq_ => hq_)⟩) (fun x_ hx_ => hx_.elim)) fun (word : (Option Str)) h_word => ?_)
        have h2 := st_2 h_if1
        have hwl : (word.getD dS).length ≤ 200000 := (by rw [h_word]; exact Nat.le_trans (wordO_len _ _) (hPl.2.2 _))
        have h_w := h_word; rw [hhd] at h_w
        show Do _ _ ⟨[va text, va rows, va head, va (Adr.mk a_lists), va it.1, va it.2, va parts, va word, none], [(a_lists, ownD [(("yes" : Str), Adr.mk b_lists), (("no" : Str), Adr.mk c_lists)]), (c_lists, ownL ns), (b_lists, ownL ys)]⟩ _
        refine do_seq (do_asg (i := 8) (ev_dget2 (k := 0) rfl (ev_var (i := 3) rfl) (ev_opD (ev_var (i := 6) rfl) ev_int (r2_ixLp (d := dS) (by walk_at "fsc"))) (by exact h2.2)) fun (words : Adr) h_words => ?_)
        rcases h_words with ⟨h_key, rfl⟩ | ⟨h_nkey, h_key, rfl⟩
        ·
          show Do _ _ ⟨[va text, va rows, va head, va (Adr.mk a_lists), va it.1, va it.2, va parts, va word, va (Adr.mk b_lists)], [(a_lists, ownD [(("yes" : Str), Adr.mk b_lists), (("no" : Str), Adr.mk c_lists)]), (c_lists, ownL ns), (b_lists, ownL ys)]⟩ _
          show Do _ _ ⟨[va text, va rows, va head, va (Adr.mk a_lists), va it.1, va it.2, va parts, va word, va (Adr.mk b_lists)], [(a_lists, ownD [(("yes" : Str), Adr.mk b_lists), (("no" : Str), Adr.mk c_lists)]), (c_lists, ownL ns), (b_lists, ownL ys)]⟩ _
          refine do_seq (do_ifD (et_orD (et_test (ev_opD (ev_var (i := 7) rfl) ev_non r2_isNO)) (fun hb5 => (et_orD (et_test (ev_opD (ev_cbD (ea_consD (ev_get (d := dS) (by exact some_of hb5) (ev_var (i := 7) rfl)) ea_nil) (rc_lenT (by omega))) ev_int r2_gt)) (fun hb6 => (et_test (ev_opD (ev_cbD (ea_consD (ev_var (i := 8) rfl) ea_nil) (rc_lenO (k := 2) rfl)) ev_int r2_eqI)))))) (fun h_if2 => ?_) (fun h_if2 => ?_))
          ·
            refine do_raiseF (e := ⟨[va text, va rows, va head, va (Adr.mk a_lists), va it.1, va it.2, va parts, va word, va (Adr.mk b_lists)], [(a_lists, ownD [(("yes" : Str), Adr.mk b_lists), (("no" : Str), Adr.mk c_lists)]), (c_lists, ownL ns), (b_lists, ownL ys)]⟩) (ea_consD (ev_opD (ev_var (i := 4) rfl) ev_int r2_add) ea_nil) rfl (by decide +kernel) (by decide) (by refine ⟨_, (.cons _ (.cons _ (.cons _ .slnil))), rfl, ?_⟩; exact ⟨_, rfl, by rw [hm.1]; exact rdS_bad hk hm.2.2 hI (by rw [← hm.2.1]; exact yes_bad h_parts h2.1 h_key h_w ((okN_no2 h_if2).imp id fun z q => z q.2))⟩)
          ·
            refine do_next ?_
            show Do _ _ ⟨[va text, va rows, va head, va (Adr.mk a_lists), va it.1, va it.2, va parts, va word, va (Adr.mk b_lists)], [(a_lists, ownD [(("yes" : Str), Adr.mk b_lists), (("no" : Str), Adr.mk c_lists)]), (c_lists, ownL ns), (b_lists, ownL ys)]⟩ _
            refine do_seq (do_ifD (et_andD (et_test (ev_opD (ev_cbD (ea_consD (ev_var (i := 8) rfl) ea_nil) (rc_lenO (k := 2) rfl)) ev_int r2_gt)) (fun hb8 => (et_test (ev_opD (ev_callP (W := (fun _ _ _ _ => False)) (P' := (· = ((((word.getD dS)).length : Int), (word.getD dS)))) (fun _ => False) (ea_consD (ev_get (d := dS) (by exact some_of (Bool.or_eq_false_iff.mp h_if2).1) (ev_var (i := 7) rfl)) ea_nil) (fun ss_ hs_ us_ H_ Q_ E_ h_ => by obtain rfl := hs_; exact ⟨(word.getD dS), (by walk_at "fsc"), Call.imp h_ (fun r_ c_ hq_ => hq_) (fun x_ c_ hq_ => hq_)⟩) (fun x_ hx_ => hx_.elim)) (ev_callP (W := (fun _ _ _ _ => False)) (P' := (· = ((((ys.getD ((((ys).length : Int) - (1 : Int))).toNat dS)).length : Int), (ys.getD ((((ys).length : Int) - (1 : Int))).toNat dS)))) (fun _ => False) (ea_consD (ev_opD (ev_var (i := 8) rfl) (ev_opD (ev_cbD (ea_consD (ev_var (i := 8) rfl) ea_nil) (rc_lenO (k := 2) rfl)) ev_int r2_sub) (r2_ixOp (j := 2) (d := dS) rfl (by walk_at "fsc"))) ea_nil) (fun ss_ hs_ us_ H_ Q_ E_ h_ => by obtain rfl := hs_; exact ⟨(ys.getD ((((ys).length : Int) - (1 : Int))).toNat dS), (by exact Nat.le_trans (good_at hg.1 _) (by decide)), Call.imp h_ (fun r_ c_ hq_ => hq_) (fun x_ c_ hq_ => hq_)⟩) (fun x_ hx_ => hx_.elim)) r2_leP)))) (fun h_if3 => ?_) (fun h_if3 => ?_))
            ·
              refine do_raiseF (e := ⟨[va text, va rows, va head, va (Adr.mk a_lists), va it.1, va it.2, va parts, va word, va (Adr.mk b_lists)], [(a_lists, ownD [(("yes" : Str), Adr.mk b_lists), (("no" : Str), Adr.mk c_lists)]), (c_lists, ownL ns), (b_lists, ownL ys)]⟩) (ea_consD (ev_opD (ev_var (i := 4) rfl) ev_int r2_add) ea_nil) rfl (by decide +kernel) (by decide) (by refine ⟨_, (.cons _ (.cons _ (.cons _ .slnil))), rfl, ?_⟩; exact ⟨_, rfl, by rw [hm.1]; exact rdS_bad hk hm.2.2 hI (by rw [← hm.2.1]; exact yes_bad h_parts h2.1 h_key h_w (.inr fun q => okN_no3 h_if3 q.2))⟩)
            ·
              refine do_next ?_
              show Do _ _ ⟨[va text, va rows, va head, va (Adr.mk a_lists), va it.1, va it.2, va parts, va word, va (Adr.mk b_lists)], [(a_lists, ownD [(("yes" : Str), Adr.mk b_lists), (("no" : Str), Adr.mk c_lists)]), (c_lists, ownL ns), (b_lists, ownL ys)]⟩ _
              refine do_seq (do_ifD (et_andD (et_test (ev_opD (ev_opD (ev_var (i := 6) rfl) ev_int (r2_ixLp (d := dS) (by walk_at "fsc"))) ev_str r2_eqS)) (fun hb10 => (et_test (ev_opD (ev_cbD (ea_consD (ev_dgetP (k := 0) rfl (ev_var (i := 3) rfl) ev_str rfl) ea_nil) (rc_lenO (k := 1) rfl)) ev_int r2_gt)))) (fun h_if4 => ?_) (fun h_if4 => ?_))
              ·
                refine do_raiseF (e := ⟨[va text, va rows, va head, va (Adr.mk a_lists), va it.1, va it.2, va parts, va word, va (Adr.mk b_lists)], [(a_lists, ownD [(("yes" : Str), Adr.mk b_lists), (("no" : Str), Adr.mk c_lists)]), (c_lists, ownL ns), (b_lists, ownL ys)]⟩) (ea_consD (ev_opD (ev_var (i := 4) rfl) ev_int r2_add) ea_nil) rfl (by decide +kernel) (by decide) (by refine ⟨_, (.cons _ (.cons _ (.cons _ .slnil))), rfl, ?_⟩; exact ⟨_, rfl, by rw [hm.1]; exact rdS_bad hk hm.2.2 hI (by rw [← hm.2.1]; exact yes_bad h_parts h2.1 h_key h_w (.inr fun q => by simp only [Bool.and_eq_true, decide_eq_true_eq] at h_if4; omega))⟩)
              ·
                refine do_next ?_
                show Do _ _ ⟨[va text, va rows, va head, va (Adr.mk a_lists), va it.1, va it.2, va parts, va word, va (Adr.mk b_lists)], [(a_lists, ownD [(("yes" : Str), Adr.mk b_lists), (("no" : Str), Adr.mk c_lists)]), (c_lists, ownL ns), (b_lists, ownL ys)]⟩ _
                refine do_append (k := 2) rfl (ev_var (i := 8) rfl) (ev_get (d := dS) (by exact some_of (Bool.or_eq_false_iff.mp h_if2).1) (ev_var (i := 7) rfl)) (by have h5 := hg.1.1; omega) fun (y : Str) h_y => ?_
                refine ⟨⟨[va text, va rows, va head, va (Adr.mk a_lists), none, none, none, none, none], [(a_lists, ownD [(("yes" : Str), Adr.mk b_lists), (("no" : Str), Adr.mk c_lists)]), (c_lists, ownL _), (b_lists, ownL _)]⟩, ⟨⟨Or.inr rfl, ⟨Or.inr rfl, ⟨Or.inr rfl, ⟨Or.inr rfl, ⟨Or.inl rfl, ⟨Or.inl rfl, ⟨Or.inl rfl, ⟨Or.inl rfl, ⟨Or.inl rfl, trivial⟩⟩⟩⟩⟩⟩⟩⟩⟩, (.cons₂ _ (.cons₂ _ (.cons₂ _ .slnil)))⟩, _, _, ?_, rfl⟩
                · -- vc 1
                  rw [h_y, List.length_append, List.length_singleton]
                  refine rdS_step hm.2.2 hI ?_
                  rw [← hm.2.1]
                  exact yes_ok h_parts h2.1 h_key h_w (some_of (Bool.or_eq_false_iff.mp h_if2).1) ⟨by rw [h_key] at h_if4; simp at h_if4; rw [h_if4]; rfl, okN_of hg.1.1 h_if2 h_if3⟩
        ·
          show Do _ _ ⟨[va text, va rows, va head, va (Adr.mk a_lists), va it.1, va it.2, va parts, va word, va (Adr.mk c_lists)], [(a_lists, ownD [(("yes" : Str), Adr.mk b_lists), (("no" : Str), Adr.mk c_lists)]), (c_lists, ownL ns), (b_lists, ownL ys)]⟩ _
          show Do _ _ ⟨[va text, va rows, va head, va (Adr.mk a_lists), va it.1, va it.2, va parts, va word, va (Adr.mk c_lists)], [(a_lists, ownD [(("yes" : Str), Adr.mk b_lists), (("no" : Str), Adr.mk c_lists)]), (c_lists, ownL ns), (b_lists, ownL ys)]⟩ _
          refine do_seq (do_ifD (et_orD (et_test (ev_opD (ev_var (i := 7) rfl) ev_non r2_isNO)) (fun hb12 => (et_orD (et_test (ev_opD (ev_cbD (ea_consD (ev_get (d := dS) (by exact some_of hb12) (ev_var (i := 7) rfl)) ea_nil) (rc_lenT (by omega))) ev_int r2_gt)) (fun hb13 => (et_test (ev_opD (ev_cbD (ea_consD (ev_var (i := 8) rfl) ea_nil) (rc_lenO (k := 1) rfl)) ev_int r2_eqI)))))) (fun h_if5 => ?_) (fun h_if5 => ?_))
          ·
            refine do_raiseF (e := ⟨[va text, va rows, va head, va (Adr.mk a_lists), va it.1, va it.2, va parts, va word, va (Adr.mk c_lists)], [(a_lists, ownD [(("yes" : Str), Adr.mk b_lists), (("no" : Str), Adr.mk c_lists)]), (c_lists, ownL ns), (b_lists, ownL ys)]⟩) (ea_consD (ev_opD (ev_var (i := 4) rfl) ev_int r2_add) ea_nil) rfl (by decide +kernel) (by decide) (by refine ⟨_, (.cons _ (.cons _ (.cons _ .slnil))), rfl, ?_⟩; exact ⟨_, rfl, by rw [hm.1]; exact rdS_bad hk hm.2.2 hI (by rw [← hm.2.1]; exact no_bad h_parts h2.1 h_key h_w (okN_no2 h_if5))⟩)
          ·
            refine do_next ?_
            show Do _ _ ⟨[va text, va rows, va head, va (Adr.mk a_lists), va it.1, va it.2, va parts, va word, va (Adr.mk c_lists)], [(a_lists, ownD [(("yes" : Str), Adr.mk b_lists), (("no" : Str), Adr.mk c_lists)]), (c_lists, ownL ns), (b_lists, ownL ys)]⟩ _
            refine do_seq (do_ifD (et_andD (et_test (ev_opD (ev_cbD (ea_consD (ev_var (i := 8) rfl) ea_nil) (rc_lenO (k := 1) rfl)) ev_int r2_gt)) (fun hb15 => (et_test (ev_opD (ev_callP (W := (fun _ _ _ _ => False)) (P' := (· = ((((word.getD dS)).length : Int), (word.getD dS)))) (fun _ => False) (ea_consD (ev_get (d := dS) (by exact some_of (Bool.or_eq_false_iff.mp h_if5).1) (ev_var (i := 7) rfl)) ea_nil) (fun ss_ hs_ us_ H_ Q_ E_ h_ => by obtain rfl := hs_; exact ⟨(word.getD dS), (by walk_at "fsc"), Call.imp h_ (fun r_ c_ hq_ => hq_) (fun x_ c_ hq_ => hq_)⟩) (fun x_ hx_ => hx_.elim)) (ev_callP (W := (fun _ _ _ _ => False)) (P' := (· = ((((ns.getD ((((ns).length : Int) - (1 : Int))).toNat dS)).length : Int), (ns.getD ((((ns).length : Int) - (1 : Int))).toNat dS)))) (fun _ => False) (ea_consD (ev_opD (ev_var (i := 8) rfl) (ev_opD (ev_cbD (ea_consD (ev_var (i := 8) rfl) ea_nil) (rc_lenO (k := 1) rfl)) ev_int r2_sub) (r2_ixOp (j := 1) (d := dS) rfl (by walk_at "fsc"))) ea_nil) (fun ss_ hs_ us_ H_ Q_ E_ h_ => by obtain rfl := hs_; exact ⟨(ns.getD ((((ns).length : Int) - (1 : Int))).toNat dS), (by exact Nat.le_trans (good_at hg.2 _) (by decide)), Call.imp h_ (fun r_ c_ hq_ => hq_) (fun x_ c_ hq_ => hq_)⟩) (fun x_ hx_ => hx_.elim)) r2_leP)))) (fun h_if6 => ?_) (fun h_if6 => ?_))
            ·
              refine do_raiseF (e := ⟨[va text, va rows, va head, va (Adr.mk a_lists), va it.1, va it.2, va parts, va word, va (Adr.mk c_lists)], [(a_lists, ownD [(("yes" : Str), Adr.mk b_lists), (("no" : Str), Adr.mk c_lists)]), (c_lists, ownL ns), (b_lists, ownL ys)]⟩) (ea_consD (ev_opD (ev_var (i := 4) rfl) ev_int r2_add) ea_nil) rfl (by decide +kernel) (by decide) (by refine ⟨_, (.cons _ (.cons _ (.cons _ .slnil))), rfl, ?_⟩; exact ⟨_, rfl, by rw [hm.1]; exact rdS_bad hk hm.2.2 hI (by rw [← hm.2.1]; exact no_bad h_parts h2.1 h_key h_w (.inr (okN_no3 h_if6)))⟩)
            ·
              refine do_next ?_
              show Do _ _ ⟨[va text, va rows, va head, va (Adr.mk a_lists), va it.1, va it.2, va parts, va word, va (Adr.mk c_lists)], [(a_lists, ownD [(("yes" : Str), Adr.mk b_lists), (("no" : Str), Adr.mk c_lists)]), (c_lists, ownL ns), (b_lists, ownL ys)]⟩ _
              refine do_seq (do_ifD (et_andD (et_test (ev_opD (ev_opD (ev_var (i := 6) rfl) ev_int (r2_ixLp (d := dS) (by walk_at "fsc"))) ev_str r2_eqS)) (fun hb17 => (et_test (ev_opD (ev_cbD (ea_consD (ev_dgetP (k := 0) rfl (ev_var (i := 3) rfl) ev_str rfl) ea_nil) (rc_lenO (k := 1) rfl)) ev_int r2_gt)))) (fun h_if7 => ?_) (fun h_if7 => ?_))
              ·
                refine do_raiseF (e := ⟨[va text, va rows, va head, va (Adr.mk a_lists), va it.1, va it.2, va parts, va word, va (Adr.mk c_lists)], [(a_lists, ownD [(("yes" : Str), Adr.mk b_lists), (("no" : Str), Adr.mk c_lists)]), (c_lists, ownL ns), (b_lists, ownL ys)]⟩) (ea_consD (ev_opD (ev_var (i := 4) rfl) ev_int r2_add) ea_nil) rfl (by decide +kernel) (by decide) (by refine ⟨_, (.cons _ (.cons _ (.cons _ .slnil))), rfl, ?_⟩; exfalso; simp only [Bool.and_eq_true, decide_eq_true_eq] at h_if7; exact h_nkey h_if7.1)
              ·
                refine do_next ?_
                show Do _ _ ⟨[va text, va rows, va head, va (Adr.mk a_lists), va it.1, va it.2, va parts, va word, va (Adr.mk c_lists)], [(a_lists, ownD [(("yes" : Str), Adr.mk b_lists), (("no" : Str), Adr.mk c_lists)]), (c_lists, ownL ns), (b_lists, ownL ys)]⟩ _
                refine do_append (k := 1) rfl (ev_var (i := 8) rfl) (ev_get (d := dS) (by exact some_of (Bool.or_eq_false_iff.mp h_if5).1) (ev_var (i := 7) rfl)) (by have h5 := hg.2.1; omega) fun (y1 : Str) h_y1 => ?_
                refine ⟨⟨[va text, va rows, va head, va (Adr.mk a_lists), none, none, none, none, none], [(a_lists, ownD [(("yes" : Str), Adr.mk b_lists), (("no" : Str), Adr.mk c_lists)]), (c_lists, ownL _), (b_lists, ownL _)]⟩, ⟨⟨Or.inr rfl, ⟨Or.inr rfl, ⟨Or.inr rfl, ⟨Or.inr rfl, ⟨Or.inl rfl, ⟨Or.inl rfl, ⟨Or.inl rfl, ⟨Or.inl rfl, ⟨Or.inl rfl, trivial⟩⟩⟩⟩⟩⟩⟩⟩⟩, (.cons₂ _ (.cons₂ _ (.cons₂ _ .slnil)))⟩, _, _, ?_, rfl⟩
                · -- vc 2
                  rw [h_y1, List.length_append, List.length_singleton]
                  refine rdS_step hm.2.2 hI ?_
                  rw [← hm.2.1]
                  exact no_ok h_parts h2.1 h_key h_w (some_of (Bool.or_eq_false_iff.mp h_if5).1) (okN_of hg.2.1 h_if5 h_if6)
    ·
      rintro e_ ⟨ys, ns, hI, rfl⟩
      show Do _ _ ⟨[va text, va rows, va head, va (Adr.mk a_lists), none, none, none, none, none], [(a_lists, ownD [(("yes" : Str), Adr.mk b_lists), (("no" : Str), Adr.mk c_lists)]), (c_lists, ownL ns), (b_lists, ownL ys)]⟩ _
      refine do_freezeD2 ?_
      show Do _ _ ⟨[va text, va rows, va head, va (Adr.mk a_lists), none, none, none, none, none], [(a_lists, ownD [(("yes" : Str), ys), (("no" : Str), ns)])]⟩ _
      refine do_ret (ev_new (W := (fun cls d _ H => E cls d H)) (P' := (fun (z_ : (Mc_Sample A.Sample)) => ∃ (m : (Mc_Sample A.Sample)), post_Sample___init (head.getD ((1 : Int)).toNat dS) ys ns m ∧ z_ = m)) (fun x_ => xp_Sample___init A (head.getD ((1 : Int)).toNat dS) ys ns x_) (ea_consD (ev_opD (ev_var (i := 2) rfl) ev_int (r2_ixLp (d := dS) (by walk_at "fsc"))) (ea_consD (ev_dgetP (k := 0) (y := ys) rfl (ev_var (i := 3) rfl) ev_str rfl) (ea_consD (ev_dgetP (k := 0) (y := ns) rfl (ev_var (i := 3) rfl) ev_str rfl) ea_nil))) (fun ss_ hs_ p_ us_ H_ Q_ E_ h_ => by obtain rfl := hs_; exact ⟨p_, (head.getD ((1 : Int)).toNat dS), ys, ns, (by have hk : headOk text := (by rw [hH] at h_if; simpa using h_if); have hhd : head.getD (1 : Int).toNat dS = headL text := (by rw [h_head, h_rows]; rfl); have hg := rdS_good hI; rw [hhd]; exact ⟨by have h5 := hk.2.2.2.1; show (headL text).length ≤ _; unfold headL; omega, by have h5 := hg.1.1; omega, by have h5 := hg.2.1; omega, fun w hw => by have h5 := (hg.1.2.2 w hw).1; omega, fun w hw => by have h5 := (hg.2.2.2 w hw).1; omega⟩), Call.imp h_ (fun r_ c_ hq_ => by obtain ⟨m_, hc_, pm_⟩ := hq_; exact ⟨m_, hc_, ⟨m_, pm_, rfl⟩⟩) (fun x_ c_ hq_ => hq_)⟩) (fun x_ hx_ => ⟨rfl, by refine ⟨_, (.cons _ .slnil), rfl, ?_⟩; have hk : headOk text := (by rw [hH] at h_if; simpa using h_if); have hhd : head.getD (1 : Int).toNat dS = headL text := (by rw [h_head, h_rows]; rfl); have hg := rdS_good hI; rw [hhd] at hx_; exact absurd hx_ (sample_no hk.2.2 (good_ok hg.1) (good_ok hg.2))⟩)) fun z h_ret => ?_
      obtain ⟨m, hc_m, h_ret⟩ := h_ret
      refine ⟨_, (.cons _ .slnil), rfl, ?_⟩
      · -- vc 3
        have hk : headOk text := (by rw [hH] at h_if; simpa using h_if)
        have hhd : head.getD (1 : Int).toNat dS = headL text := (by rw [h_head, h_rows]; rfl)
        have hg := rdS_good hI
        rw [hhd] at hc_m
        obtain ⟨_, _, _, h6, h7, h8⟩ := hc_m
        show rdS text = _
        rw [h_ret, h6, good_sup hg.1 h7, good_sup hg.2 h8]
        refine rdS_end hk ?_
        have hl : linesOf text = rows := h_rows.symm
        rw [enumI_len, cutL_1, List.length_drop, ← hl] at hI
        exact hI

end
end LL

namespace LL
open PySem L2 Fw Lm
local macro_rules | `(tactic| walk_at "fsc") => `(tactic| first | omega | assumption | exact True.intro | exact sgn_split (by assumption) | exact sgn_split2 (by assumption) | (intros; omega) | (with_reducible exact emod_both (by omega)) | (simp only [Bool.not_eq_true', Bool.not_eq_false', decide_eq_true_eq, decide_eq_false_iff_not, Bool.or_eq_false_iff, Bool.and_eq_true, List.length_cons, List.length_nil, List.length_append, List.length_cons, List.length_nil, List.length_map, signs_len, rngI_len, enumI_len, keysD_len, pre_check_letters, post_check_letters, pre_check_word, post_check_word, pre_order_key, post_order_key, pre_in_order, post_in_order, pre_check_words, post_check_words, pre_Sample___init, post_Sample___init, pre_written, post_written, pre_word_of, post_word_of, pre_are_letters, post_are_letters, pre_sample_text, post_sample_text, pre_read_sample, post_read_sample, pre_law_start, pre_law_next, post_law_next, pre_law_integer, post_law_integer, pre_law_alphabet, post_law_alphabet, pre_law_word, post_law_word, pre_law_ordered, post_law_ordered, pre_law_text, post_law_text, pre_law_good_letters, post_law_good_letters, pre_law_read, post_law_read, pre_law_words_are, post_law_words_are, pre_law_reads, post_law_reads, pre_law_word_at, post_law_word_at, pre_law_climbing, post_law_climbing, pre_law_spoilt, post_law_spoilt, pre_law_large, post_law_large, pre_law, post_law] at *; first | omega | assumption | (refine ⟨?_, ?_⟩ <;> first | omega | assumption) | (refine ⟨?_, ?_, ?_⟩ <;> first | omega | assumption)) | (have hl_ := congrArg List.length hs_; simp only [List.length_append, List.length_cons, List.length_nil, List.length_map, signs_len, rngI_len, enumI_len, keysD_len] at hl_; omega) | (have hr_ := rng_split hs_; omega) | exact (by decide : 1 ≤ (" " : Str).length) | exact (by decide : 1 ≤ ("\n" : Str).length) | exact rfl)
local macro_rules | `(tactic| walk_at "fvc") => `(tactic| first | rfl | exact True.intro | assumption | omega)
local macro_rules | `(tactic| walk_at "fxp") => `(tactic| first | exact hx_ | assumption)
local macro_rules | `(tactic| walk_at "frs") => `(tactic| first | assumption)

section
variable {P : Program} {w : World} {K : PySem.W.Frag} {mg : Str → Option Value} {base : Heap} {A : Ad}
abbrev s_sample_text : Stmt := topS 23
abbrev N_sample_text : List Str := ["sample", "rows", "word"]
theorem sc_sample_text : FnScope N_sample_text ["sample"] (defScope s_sample_text) := ⟨rfl, rfl, rfl, by decide +kernel, rfl, by decide +kernel, by decide +kernel⟩
set_option maxHeartbeats 4000000 in
theorem ok_sample_text (T : Tx K mg A) (h_written : Cal P w K mg base 1 A.written "written" ["word"] (sp_written K)) {fd : FuncData} (F : Fun K "sample_text" "sample_text" s_sample_text A.sample_text fd) : FnOk P w K mg base (L2N.CX P w) 2 A.sample_text fd ["sample"] (sp_sample_text K A) := by
  refine okN F sc_sample_text (fun us H Q E ⟨sample, hpre, h⟩ => h.len) (fun cdv A_ outer s_ H us Q E hr ⟨sample, hpre, h⟩ => ?_)
  refine ⟨_, (pss_cons (ps_set (i := 1) sc_sample_text.nd rfl (by first | exact Or.inl rfl | exact Or.inr rfl) (pe_lst (pa_cons (pe_op op_addS pe_str (pe_fld (pv 0) rfl)) pa_nil))) (pss_cons (ps_set (i := 1) sc_sample_text.nd rfl (by first | exact Or.inl rfl | exact Or.inr rfl) (pe_op op_cat (pv 1) (pe_lc (own := [("word", 2)]) (g := gName 2) (tt := tYes) rfl sc_sample_text.nd (pi_tup (pe_fld (pv 0) rfl)) (blkOk_by (N := N_sample_text) (sc := defScope s_sample_text) (by decide +kernel)) (fun _ _ _ _ _ => (pg_name (i := 2) sc_sample_text.nd rfl (by first | exact Or.inl rfl | exact Or.inr rfl))) (fun _ _ _ _ _ => pts_nil) (fun _ _ _ _ _ => (pe_op op_addS pe_str (pe_cal (W := (fun _ _ _ _ => False)) h_written (hr.mono (by decide)) takes0N (pa_cons (pv 2) pa_nil))))))) (pss_one (ps_ret (pe_bm PySem.F.plainAttrs_str PySem.F.slot_str_join PySem.F.type_str_join mt_joinS pe_str (pa_cons (pe_op op_cat (pv 1) (pe_lc (own := [("word", 2)]) (g := gName 2) (tt := tYes) rfl sc_sample_text.nd (pi_tup (pe_fld (pv 0) rfl)) (blkOk_by (N := N_sample_text) (sc := defScope s_sample_text) (by decide +kernel)) (fun _ _ _ _ _ => (pg_name (i := 2) sc_sample_text.nd rfl (by first | exact Or.inl rfl | exact Or.inr rfl))) (fun _ _ _ _ _ => pts_nil) (fun _ _ _ _ _ => (pe_op op_addS pe_str (pe_cal (W := (fun _ _ _ _ => False)) h_written (hr.mono (by decide)) takes0N (pa_cons (pv 2) pa_nil)))))) pa_nil)))))), ?_⟩
  refine Call.body (sl := [va sample, none, none]) h rfl fun G0_ H0_ => ?_
  have hpre_ := hpre; unfold pre_sample_text at hpre_
  show Do _ _ ⟨[va sample, none, none], []⟩ _
  refine do_seq (do_asg (i := 1) (evl_val (evl_lstD (xs := ([(("sample " : Str) ++ (sample).letters)] : List Str)) (ea_consD (ev_opD ev_str (ev_fld (y := (sample).letters) (ev_var (i := 0) rfl) T.o_Sample T.na_Sample__letters rfl) (r2_addS (by rw [len_s]; have h1 := hpre_.1; omega))) ea_nil) (by simp))) fun (rows : (List Str)) h_rows => ?_)
  show Do _ _ ⟨[va sample, va rows, none], []⟩ _
  refine do_seq (do_asg (i := 1) (evl_val (evl_cat (ev_var (i := 1) rfl) (evl_val (evl_lcM (h := fun (word : Str) => (("yes " : Str) ++ (wr word))) (ei_tup (ev_fld (y := (sample).yes) (ev_var (i := 0) rfl) T.o_Sample T.na_Sample__yes rfl)) eg_name (by simp) (by walk_at "fsc") (fun pre_ word post_ hs_ dc_ => (ev_opD ev_str (ev_callP (W := (fun _ _ _ _ => False)) (P' := (· = (wr word))) (fun _ => False) (ea_consD (ev_var (i := 2) rfl) ea_nil) (fun ss_ hs_ us_ H_ Q_ E_ h_ => by obtain rfl := hs_; exact ⟨word, (by walk_at "fsc"), Call.imp h_ (fun r_ c_ hq_ => hq_) (fun x_ c_ hq_ => hq_)⟩) (fun x_ hx_ => hx_.elim)) (r2_addS (by have h1 := wr_len word; have h2 := hpre_.2.2.2.1 word (mem_mid hs_); rw [len_y]; omega)))))) (by rw [h_rows, List.length_map]; have h1 := hpre_.2.1; simp; omega))) fun (rows1 : (List Str)) h_rows1 => ?_)
  show Do _ _ ⟨[va sample, va rows1, none], []⟩ _
  refine do_ret (ev_join ev_str (ea_consD (evl_val (evl_cat (ev_var (i := 1) rfl) (evl_val (evl_lcM (h := fun (word1 : Str) => (("no " : Str) ++ (wr word1))) (ei_tup (ev_fld (y := (sample).no) (ev_var (i := 0) rfl) T.o_Sample T.na_Sample__no rfl)) eg_name (by simp) (by walk_at "fsc") (fun pre_ word1 post_ hs_ dc_ => (ev_opD ev_str (ev_callP (W := (fun _ _ _ _ => False)) (P' := (· = (wr word1))) (fun _ => False) (ea_consD (ev_var (i := 2) rfl) ea_nil) (fun ss_ hs_ us_ H_ Q_ E_ h_ => by obtain rfl := hs_; exact ⟨word1, (by walk_at "fsc"), Call.imp h_ (fun r_ c_ hq_ => hq_) (fun x_ c_ hq_ => hq_)⟩) (fun x_ hx_ => hx_.elim)) (r2_addS (by have h1 := wr_len word1; have h2 := hpre_.2.2.2.2 word1 (mem_mid hs_); rw [len_n]; omega)))))) (by rw [h_rows1, h_rows, List.length_append, List.length_map, List.length_map]; have h1 := hpre_.2.1; have h2 := hpre_.2.2.1; simp; omega))) ea_nil) (by rw [show rows1 ++ List.map (fun word1 => ("no " : Str) ++ wr word1) sample.no.l = sLines sample.letters sample.yes.l sample.no.l from (by rw [h_rows1, h_rows]; rfl)]; exact sLines_fit (by have h1 := hpre_.1; omega) (by have h1 := hpre_.2.1; omega) (by have h1 := hpre_.2.2.1; omega) (fun w hw => by have h1 := hpre_.2.2.2.1 w hw; omega) (fun w hw => by have h1 := hpre_.2.2.2.2 w hw; omega))) fun z h_ret => ?_
  refine ⟨_, .slnil, rfl, ?_⟩
  · -- vc 0
    rw [h_ret, h_rows1, h_rows]; rfl

end
end LL

namespace LL
open PySem L2 Fw Lm
local macro_rules | `(tactic| walk_at "fsc") => `(tactic| first | omega | assumption | exact True.intro | exact sgn_split (by assumption) | exact sgn_split2 (by assumption) | (intros; omega) | (with_reducible exact emod_both (by omega)) | (simp only [Bool.not_eq_true', Bool.not_eq_false', decide_eq_true_eq, decide_eq_false_iff_not, Bool.or_eq_false_iff, Bool.and_eq_true, List.length_cons, List.length_nil, List.length_append, List.length_cons, List.length_nil, List.length_map, signs_len, rngI_len, enumI_len, keysD_len, pre_check_letters, post_check_letters, pre_check_word, post_check_word, pre_order_key, post_order_key, pre_in_order, post_in_order, pre_check_words, post_check_words, pre_Sample___init, post_Sample___init, pre_written, post_written, pre_word_of, post_word_of, pre_are_letters, post_are_letters, pre_sample_text, post_sample_text, pre_read_sample, post_read_sample, pre_law_start, pre_law_next, post_law_next, pre_law_integer, post_law_integer, pre_law_alphabet, post_law_alphabet, pre_law_word, post_law_word, pre_law_ordered, post_law_ordered, pre_law_text, post_law_text, pre_law_good_letters, post_law_good_letters, pre_law_read, post_law_read, pre_law_words_are, post_law_words_are, pre_law_reads, post_law_reads, pre_law_word_at, post_law_word_at, pre_law_climbing, post_law_climbing, pre_law_spoilt, post_law_spoilt, pre_law_large, post_law_large, pre_law, post_law] at *; first | omega | assumption | (refine ⟨?_, ?_⟩ <;> first | omega | assumption) | (refine ⟨?_, ?_, ?_⟩ <;> first | omega | assumption)) | (have hl_ := congrArg List.length hs_; simp only [List.length_append, List.length_cons, List.length_nil, List.length_map, signs_len, rngI_len, enumI_len, keysD_len] at hl_; omega) | (have hr_ := rng_split hs_; omega) | exact (by decide : 1 ≤ (" " : Str).length) | exact (by decide : 1 ≤ ("\n" : Str).length) | exact rfl)
local macro_rules | `(tactic| walk_at "fvc") => `(tactic| first | rfl | exact True.intro | assumption | omega)
local macro_rules | `(tactic| walk_at "fxp") => `(tactic| first | exact hx_ | assumption)
local macro_rules | `(tactic| walk_at "frs") => `(tactic| first | assumption)

section
variable {P : Program} {w : World} {K : PySem.W.Frag} {mg : Str → Option Value} {base : Heap} {A : Ad}
abbrev s_word_of : Stmt := topS 21
abbrev N_word_of : List Str := ["letters", "part", "sign"]
theorem sc_word_of : FnScope N_word_of ["letters", "part"] (defScope s_word_of) := ⟨rfl, rfl, rfl, by decide +kernel, rfl, by decide +kernel, by decide +kernel⟩
set_option maxHeartbeats 4000000 in
theorem ok_word_of (T : Tx K mg A)  {fd : FuncData} (F : Fun K "word_of" "word_of" s_word_of A.word_of fd) : FnOk P w K mg base (L2N.CX P w) 1 A.word_of fd ["letters", "part"] (sp_word_of K) := by
  refine okN F sc_word_of (fun us H Q E ⟨letters, part, hpre, h⟩ => h.len) (fun cdv A_ outer s_ H us Q E hr ⟨letters, part, hpre, h⟩ => ?_)
  refine ⟨_, (pss_cons (ps_if (pt_cmpR op_eq (pv 1) pe_str (nomark _)) (pss_one (ps_ret pe_str)) pss_nil) (pss_cons (ps_if (PW.pt (pw_or (pt_cmpR op_eq (pv 1) pe_str (nomark _)) (pw_or1 (pt_val (pe_callB (cr_any rfl) (by rfl) T.m_any bb_any (pa_cons (pe_lc (own := [("sign", 2)]) (g := gName 2) (tt := tYes) rfl sc_word_of.nd (pi_str (pv 1)) (blkOk_by (N := N_word_of) (sc := defScope s_word_of) (by decide +kernel)) (fun _ _ _ _ _ => (pg_name (i := 2) sc_word_of.nd rfl (by first | exact Or.inl rfl | exact Or.inr rfl))) (fun _ _ _ _ _ => pts_nil) (fun _ _ _ _ _ => (pe_cmpR op_niG (pv 2) (pv 0) rfl))) pa_nil)))))) (pss_one (ps_ret pe_non)) pss_nil) (pss_one (ps_ret (pv 1))))), ?_⟩
  refine Call.body (sl := [va letters, va part, none]) h rfl fun G0_ H0_ => ?_
  have hpre_ := hpre; unfold pre_word_of at hpre_
  show Do _ _ ⟨[va letters, va part, none], []⟩ _
  refine do_seq (do_ifD (et_test (ev_opD (ev_var (i := 1) rfl) ev_str r2_eqS)) (fun h_if => ?_) (fun h_if => ?_))
  ·
    refine do_ret (ev_co (fun K_ H_ v_ r_ => by exact ((rep_some _ _ _ _) r_)) ev_str) fun z h_ret => ?_
    refine ⟨_, .slnil, rfl, ?_⟩
    · -- vc 0
      rw [h_ret]; exact (wordO_1 h_if).symm
  ·
    refine do_next ?_
    show Do _ _ ⟨[va letters, va part, none], []⟩ _
    refine do_seq (do_ifD (et_orD (et_test (ev_opD (ev_var (i := 1) rfl) ev_str r2_eqS)) (fun hb => (et_B (ev_cbD (ea_consD (evl_val (evl_lcM (h := fun (sign : Str) => (!decide (sgn sign ∈ tl letters))) (ei_str (ev_var (i := 1) rfl)) eg_name (by simp) (by walk_at "fsc") (fun pre_ sign post_ hs_ dc_ => (ev_opD (ev_var (i := 2) rfl) (ev_var (i := 0) rfl) (r2_niG (by walk_at "fsc")))))) ea_nil) rc_any)))) (fun h_if1 => ?_) (fun h_if1 => ?_))
    ·
      refine do_ret (ev_nonO (α := Str)) fun z h_ret => ?_
      refine ⟨_, .slnil, rfl, ?_⟩
      · -- vc 1
        rw [h_ret]; exact (wordO_2 h_if h_if1).symm
    ·
      refine do_next ?_
      show Do _ _ ⟨[va letters, va part, none], []⟩ _
      refine do_ret (ev_co (fun K_ H_ v_ r_ => by exact ((rep_some _ _ _ _) r_)) (ev_var (i := 1) rfl)) fun z h_ret => ?_
      refine ⟨_, .slnil, rfl, ?_⟩
      · -- vc 2
        rw [h_ret]; exact (wordO_3 h_if h_if1).symm

end
end LL

namespace LL
open PySem L2 Fw Lm
local macro_rules | `(tactic| walk_at "fsc") => `(tactic| first | omega | assumption | exact True.intro | exact sgn_split (by assumption) | exact sgn_split2 (by assumption) | (intros; omega) | (with_reducible exact emod_both (by omega)) | (simp only [Bool.not_eq_true', Bool.not_eq_false', decide_eq_true_eq, decide_eq_false_iff_not, Bool.or_eq_false_iff, Bool.and_eq_true, List.length_cons, List.length_nil, List.length_append, List.length_cons, List.length_nil, List.length_map, signs_len, rngI_len, enumI_len, keysD_len, pre_check_letters, post_check_letters, pre_check_word, post_check_word, pre_order_key, post_order_key, pre_in_order, post_in_order, pre_check_words, post_check_words, pre_Sample___init, post_Sample___init, pre_written, post_written, pre_word_of, post_word_of, pre_are_letters, post_are_letters, pre_sample_text, post_sample_text, pre_read_sample, post_read_sample, pre_law_start, pre_law_next, post_law_next, pre_law_integer, post_law_integer, pre_law_alphabet, post_law_alphabet, pre_law_word, post_law_word, pre_law_ordered, post_law_ordered, pre_law_text, post_law_text, pre_law_good_letters, post_law_good_letters, pre_law_read, post_law_read, pre_law_words_are, post_law_words_are, pre_law_reads, post_law_reads, pre_law_word_at, post_law_word_at, pre_law_climbing, post_law_climbing, pre_law_spoilt, post_law_spoilt, pre_law_large, post_law_large, pre_law, post_law] at *; first | omega | assumption | (refine ⟨?_, ?_⟩ <;> first | omega | assumption) | (refine ⟨?_, ?_, ?_⟩ <;> first | omega | assumption)) | (have hl_ := congrArg List.length hs_; simp only [List.length_append, List.length_cons, List.length_nil, List.length_map, signs_len, rngI_len, enumI_len, keysD_len] at hl_; omega) | (have hr_ := rng_split hs_; omega) | exact (by decide : 1 ≤ (" " : Str).length) | exact (by decide : 1 ≤ ("\n" : Str).length) | exact rfl)
local macro_rules | `(tactic| walk_at "fvc") => `(tactic| first | rfl | exact True.intro | assumption | omega)
local macro_rules | `(tactic| walk_at "fxp") => `(tactic| first | exact hx_ | assumption)
local macro_rules | `(tactic| walk_at "frs") => `(tactic| first | assumption)

section
variable {P : Program} {w : World} {K : PySem.W.Frag} {mg : Str → Option Value} {base : Heap} {A : Ad}
abbrev s_written : Stmt := topS 20
abbrev N_written : List Str := ["word"]
theorem sc_written : FnScope N_written ["word"] (defScope s_written) := ⟨rfl, rfl, rfl, by decide +kernel, rfl, by decide +kernel, by decide +kernel⟩
set_option maxHeartbeats 4000000 in
theorem ok_written (T : Tx K mg A)  {fd : FuncData} (F : Fun K "written" "written" s_written A.written fd) : FnOk P w K mg base (L2N.CX P w) 1 A.written fd ["word"] (sp_written K) := by
  refine okN F sc_written (fun us H Q E ⟨word, hpre, h⟩ => h.len) (fun cdv A_ outer s_ H us Q E hr ⟨word, hpre, h⟩ => ?_)
  refine ⟨_, (pss_cons (ps_if (pt_cmpR op_eq (pv 0) pe_str (nomark _)) (pss_one (ps_ret pe_str)) pss_nil) (pss_one (ps_ret (pv 0)))), ?_⟩
  refine Call.body (sl := [va word]) h rfl fun G0_ H0_ => ?_
  show Do _ _ ⟨[va word], []⟩ _
  refine do_seq (do_ifD (et_test (ev_opD (ev_var (i := 0) rfl) ev_str r2_eqS)) (fun h_if => ?_) (fun h_if => ?_))
  ·
    refine do_ret ev_str fun z h_ret => ?_
    refine ⟨_, .slnil, rfl, ?_⟩
    · -- vc 0
      rw [h_ret]; exact (wr_1 h_if).symm
  ·
    refine do_next ?_
    show Do _ _ ⟨[va word], []⟩ _
    refine do_ret (ev_var (i := 0) rfl) fun z h_ret => ?_
    refine ⟨_, .slnil, rfl, ?_⟩
    · -- vc 1
      rw [h_ret]; exact (wr_2 h_if).symm

end
end LL

namespace LL
open PySem L2 Fw FwX NdefX Lm
abbrev sI_BadText : Stmt := inClass (topS 6) 0
theorem nsI_BadText : NScope ["self", "line", "__class__"] ["self", "line"] ["__class__"] (defScope sI_BadText) := ⟨rfl, rfl, rfl, by decide +kernel, by decide +kernel, by decide +kernel, by decide +kernel, by decide +kernel, by decide +kernel⟩
def nfI_BadText (cc cda : Addr) : NF := ⟨"__init__", "BadText.__init__", defArgs sI_BadText, defBody sI_BadText, defScope sI_BadText, [("__class__", cc)], cda⟩
theorem bindsI_BadText {K : PySem.W.Frag} {cc cda : Addr} {doc pm ct : Value} : Binds K ((nfI_BadText cc cda).fd doc pm ct) ["self", "line"] [] :=
  .all (fun us hl => match us, hl with | [_, _], _ => rfl)
theorem okI_BadText {P : Program} {w : World} {K : PySem.W.Frag} {mg : Str → Option Value} {base : Heap} {C cc cda fI : Addr} {oc doc pm ct : Value} {od : Option Addr} {osl : Array (Option Value)} (lk : K.lookup fI = some ⟨oc, od, .func ((nfI_BadText cc cda).fd doc pm ct), osl⟩) (hcd : PySem.W.codeIn K (.ref cda) "BadText.__init__" = true) (XI : XcI P K C cc cda (nfI_BadText cc cda))
    (hm : mg "super" = none) (f1 : PySem.W.findIn K (.ref C) "line" = some none) : FnOk P w K mg base (L2N.CX P w) 1 fI ((nfI_BadText cc cda).fd doc pm ct) ["self", "line"] (spI C ["line"]) := by
  refine fn_exc (N := ["self", "line", "__class__"]) lk hcd (S := nsI_BadText) XI (hb := rfl) (fun vs H Q E h => by rw [spI_len h]; rfl) (fun vs H Q E h => by
    obtain ⟨a, vals, h1, _, h2, _⟩ := h
    exact ⟨a, vals, h1, h2⟩) hm rfl rfl rfl ⟨fun _ => rfl, fun _ => rfl, fun _ => rfl, fun _ => rfl⟩ fun A_ outer s H vs Q E hr h => ?_
  exact ⟨_, pss_one (ps_ost (pv 0) (pv 1)), init_read1 h XI.T f1⟩
abbrev sI_BadWord : Stmt := inClass (topS 4) 0
theorem nsI_BadWord : NScope ["self", "word", "place", "__class__"] ["self", "word", "place"] ["__class__"] (defScope sI_BadWord) := ⟨rfl, rfl, rfl, by decide +kernel, by decide +kernel, by decide +kernel, by decide +kernel, by decide +kernel, by decide +kernel⟩
def nfI_BadWord (cc cda : Addr) : NF := ⟨"__init__", "BadWord.__init__", defArgs sI_BadWord, defBody sI_BadWord, defScope sI_BadWord, [("__class__", cc)], cda⟩
theorem bindsI_BadWord {K : PySem.W.Frag} {cc cda : Addr} {doc pm ct : Value} : Binds K ((nfI_BadWord cc cda).fd doc pm ct) ["self", "word", "place"] [] :=
  .all (fun us hl => match us, hl with | [_, _, _], _ => rfl)
theorem okI_BadWord {P : Program} {w : World} {K : PySem.W.Frag} {mg : Str → Option Value} {base : Heap} {C cc cda fI : Addr} {oc doc pm ct : Value} {od : Option Addr} {osl : Array (Option Value)} (lk : K.lookup fI = some ⟨oc, od, .func ((nfI_BadWord cc cda).fd doc pm ct), osl⟩) (hcd : PySem.W.codeIn K (.ref cda) "BadWord.__init__" = true) (XI : XcI P K C cc cda (nfI_BadWord cc cda))
    (hm : mg "super" = none) (f1 : PySem.W.findIn K (.ref C) "word" = some none) (f2 : PySem.W.findIn K (.ref C) "place" = some none) : FnOk P w K mg base (L2N.CX P w) 1 fI ((nfI_BadWord cc cda).fd doc pm ct) ["self", "word", "place"] (spI C ["word", "place"]) := by
  refine fn_exc (N := ["self", "word", "place", "__class__"]) lk hcd (S := nsI_BadWord) XI (hb := rfl) (fun vs H Q E h => by rw [spI_len h]; rfl) (fun vs H Q E h => by
    obtain ⟨a, vals, h1, _, h2, _⟩ := h
    exact ⟨a, vals, h1, h2⟩) hm rfl rfl rfl ⟨fun _ => rfl, fun _ => rfl, fun _ => rfl, fun _ => rfl⟩ fun A_ outer s H vs Q E hr h => ?_
  exact ⟨_, pss_cons (ps_ost (pv 0) (pv 1)) (pss_one (ps_ost (pv 0) (pv 2))), init_read2 h XI.T f1 f2⟩
abbrev sI_TooMany : Stmt := inClass (topS 5) 0
theorem nsI_TooMany : NScope ["self", "limit", "__class__"] ["self", "limit"] ["__class__"] (defScope sI_TooMany) := ⟨rfl, rfl, rfl, by decide +kernel, by decide +kernel, by decide +kernel, by decide +kernel, by decide +kernel, by decide +kernel⟩
def nfI_TooMany (cc cda : Addr) : NF := ⟨"__init__", "TooMany.__init__", defArgs sI_TooMany, defBody sI_TooMany, defScope sI_TooMany, [("__class__", cc)], cda⟩
theorem bindsI_TooMany {K : PySem.W.Frag} {cc cda : Addr} {doc pm ct : Value} : Binds K ((nfI_TooMany cc cda).fd doc pm ct) ["self", "limit"] [] :=
  .all (fun us hl => match us, hl with | [_, _], _ => rfl)
theorem okI_TooMany {P : Program} {w : World} {K : PySem.W.Frag} {mg : Str → Option Value} {base : Heap} {C cc cda fI : Addr} {oc doc pm ct : Value} {od : Option Addr} {osl : Array (Option Value)} (lk : K.lookup fI = some ⟨oc, od, .func ((nfI_TooMany cc cda).fd doc pm ct), osl⟩) (hcd : PySem.W.codeIn K (.ref cda) "TooMany.__init__" = true) (XI : XcI P K C cc cda (nfI_TooMany cc cda))
    (hm : mg "super" = none) (f1 : PySem.W.findIn K (.ref C) "limit" = some none) : FnOk P w K mg base (L2N.CX P w) 1 fI ((nfI_TooMany cc cda).fd doc pm ct) ["self", "limit"] (spI C ["limit"]) := by
  refine fn_exc (N := ["self", "limit", "__class__"]) lk hcd (S := nsI_TooMany) XI (hb := rfl) (fun vs H Q E h => by rw [spI_len h]; rfl) (fun vs H Q E h => by
    obtain ⟨a, vals, h1, _, h2, _⟩ := h
    exact ⟨a, vals, h1, h2⟩) hm rfl rfl rfl ⟨fun _ => rfl, fun _ => rfl, fun _ => rfl, fun _ => rfl⟩ fun A_ outer s H vs Q E hr h => ?_
  exact ⟨_, pss_one (ps_ost (pv 0) (pv 1)), init_read1 h XI.T f1⟩
abbrev sO_key : Stmt := topS 12
theorem scO_key : FnScope ["word"] ["word"] (defScope sO_key) := ⟨rfl, rfl, rfl, by decide +kernel, rfl, by decide +kernel, by decide +kernel⟩
theorem keyO_key {P : Program} {w : World} {K : PySem.W.Frag} {mg : Str → Option Value} {base : Heap} (hl : mg "len" = none) {f : Addr} {fd : FuncData} (F : Fun K "order_key" "order_key" sO_key f fd) (hb : Binds K fd ["word"] []) : KeyF P w K mg base f :=
  key_turn F scO_key rfl hl (fun _ _ => rfl) hb rfl
theorem all_mk {P : Program} {w : World} {K : PySem.W.Frag} {h : Heap} {mg : Str → Option Value} {fa : Addr} {C_BadLetters C_BadText C_BadWord C_LanguageError C_Sample C_TooMany f_BadText___init f_BadWord___init f_Sample___init f_TooMany___init f_are_letters f_check_letters f_check_word f_check_words f_in_order f_law_alphabet f_law_climbing f_law_good_letters f_law_integer f_law_large f_law_next f_law_ordered f_law_read f_law_reads f_law_spoilt f_law_start f_law_text f_law_word f_law_word_at f_law_words_are f_order_key f_read_sample f_sample_text f_word_of f_written : Addr}
    (X : K.In h) (G : h.Ns mainGlobals mg) (hfa : mg "law" = some (.ref fa))
    (aC_BadLetters : PySem.W.nsIn K mainGlobals "BadLetters" = some (some (.ref C_BadLetters)))
    (aC_BadText : PySem.W.nsIn K mainGlobals "BadText" = some (some (.ref C_BadText)))
    (aC_BadWord : PySem.W.nsIn K mainGlobals "BadWord" = some (some (.ref C_BadWord)))
    (aC_LanguageError : PySem.W.nsIn K mainGlobals "LanguageError" = some (some (.ref C_LanguageError)))
    (aC_Sample : PySem.W.nsIn K mainGlobals "Sample" = some (some (.ref C_Sample)))
    (aC_TooMany : PySem.W.nsIn K mainGlobals "TooMany" = some (some (.ref C_TooMany)))
    (mt_Sample___init : PySem.W.findIn K (.ref C_Sample) "__init__" = some (some (.ref f_Sample___init)))
    {od_check_letters an_check_letters : Option Addr} {sl_check_letters : Array (Option Value)} {oc_check_letters kV_check_letters dc_check_letters pm_check_letters cd_check_letters ct_check_letters : Value}
    (a_check_letters : PySem.W.nsIn K mainGlobals "check_letters" = some (some (.ref f_check_letters)))
    (l_check_letters : K.lookup f_check_letters = some ⟨oc_check_letters, od_check_letters, .func (PySem.W.fnOf "check_letters" "check_letters" (defArgs (topS 10)) (defBody (topS 10)) (defScope (topS 10)) .none kV_check_letters dc_check_letters pm_check_letters an_check_letters cd_check_letters ct_check_letters), sl_check_letters⟩)
    (c_check_letters : PySem.W.codeIn K cd_check_letters "check_letters" = true)
    (k_check_letters : PySem.W.keepIn K (.ref f_check_letters) = true)
    {od_check_word an_check_word : Option Addr} {sl_check_word : Array (Option Value)} {oc_check_word kV_check_word dc_check_word pm_check_word cd_check_word ct_check_word : Value}
    (a_check_word : PySem.W.nsIn K mainGlobals "check_word" = some (some (.ref f_check_word)))
    (l_check_word : K.lookup f_check_word = some ⟨oc_check_word, od_check_word, .func (PySem.W.fnOf "check_word" "check_word" (defArgs (topS 11)) (defBody (topS 11)) (defScope (topS 11)) .none kV_check_word dc_check_word pm_check_word an_check_word cd_check_word ct_check_word), sl_check_word⟩)
    (c_check_word : PySem.W.codeIn K cd_check_word "check_word" = true)
    (k_check_word : PySem.W.keepIn K (.ref f_check_word) = true)
    {od_order_key an_order_key : Option Addr} {sl_order_key : Array (Option Value)} {oc_order_key kV_order_key dc_order_key pm_order_key cd_order_key ct_order_key : Value}
    (a_order_key : PySem.W.nsIn K mainGlobals "order_key" = some (some (.ref f_order_key)))
    (l_order_key : K.lookup f_order_key = some ⟨oc_order_key, od_order_key, .func (PySem.W.fnOf "order_key" "order_key" (defArgs (topS 12)) (defBody (topS 12)) (defScope (topS 12)) .none kV_order_key dc_order_key pm_order_key an_order_key cd_order_key ct_order_key), sl_order_key⟩)
    (c_order_key : PySem.W.codeIn K cd_order_key "order_key" = true)
    (k_order_key : PySem.W.keepIn K (.ref f_order_key) = true)
    {od_in_order an_in_order : Option Addr} {sl_in_order : Array (Option Value)} {oc_in_order kV_in_order dc_in_order pm_in_order cd_in_order ct_in_order : Value}
    (a_in_order : PySem.W.nsIn K mainGlobals "in_order" = some (some (.ref f_in_order)))
    (l_in_order : K.lookup f_in_order = some ⟨oc_in_order, od_in_order, .func (PySem.W.fnOf "in_order" "in_order" (defArgs (topS 13)) (defBody (topS 13)) (defScope (topS 13)) .none kV_in_order dc_in_order pm_in_order an_in_order cd_in_order ct_in_order), sl_in_order⟩)
    (c_in_order : PySem.W.codeIn K cd_in_order "in_order" = true)
    (k_in_order : PySem.W.keepIn K (.ref f_in_order) = true)
    {od_check_words an_check_words : Option Addr} {sl_check_words : Array (Option Value)} {oc_check_words kV_check_words dc_check_words pm_check_words cd_check_words ct_check_words : Value}
    (a_check_words : PySem.W.nsIn K mainGlobals "check_words" = some (some (.ref f_check_words)))
    (l_check_words : K.lookup f_check_words = some ⟨oc_check_words, od_check_words, .func (PySem.W.fnOf "check_words" "check_words" (defArgs (topS 17)) (defBody (topS 17)) (defScope (topS 17)) .none kV_check_words dc_check_words pm_check_words an_check_words cd_check_words ct_check_words), sl_check_words⟩)
    (c_check_words : PySem.W.codeIn K cd_check_words "check_words" = true)
    (k_check_words : PySem.W.keepIn K (.ref f_check_words) = true)
    {od_Sample___init an_Sample___init : Option Addr} {sl_Sample___init : Array (Option Value)} {oc_Sample___init kV_Sample___init dc_Sample___init pm_Sample___init cd_Sample___init ct_Sample___init : Value}
    (l_Sample___init : K.lookup f_Sample___init = some ⟨oc_Sample___init, od_Sample___init, .func (PySem.W.fnOf "__init__" "Sample.__init__" (defArgs (inClass (topS 18) 0)) (defBody (inClass (topS 18) 0)) (defScope (inClass (topS 18) 0)) .none kV_Sample___init dc_Sample___init pm_Sample___init an_Sample___init cd_Sample___init ct_Sample___init), sl_Sample___init⟩)
    (c_Sample___init : PySem.W.codeIn K cd_Sample___init "Sample.__init__" = true)
    (k_Sample___init : PySem.W.keepIn K (.ref f_Sample___init) = true)
    {od_written an_written : Option Addr} {sl_written : Array (Option Value)} {oc_written kV_written dc_written pm_written cd_written ct_written : Value}
    (a_written : PySem.W.nsIn K mainGlobals "written" = some (some (.ref f_written)))
    (l_written : K.lookup f_written = some ⟨oc_written, od_written, .func (PySem.W.fnOf "written" "written" (defArgs (topS 20)) (defBody (topS 20)) (defScope (topS 20)) .none kV_written dc_written pm_written an_written cd_written ct_written), sl_written⟩)
    (c_written : PySem.W.codeIn K cd_written "written" = true)
    (k_written : PySem.W.keepIn K (.ref f_written) = true)
    {od_word_of an_word_of : Option Addr} {sl_word_of : Array (Option Value)} {oc_word_of kV_word_of dc_word_of pm_word_of cd_word_of ct_word_of : Value}
    (a_word_of : PySem.W.nsIn K mainGlobals "word_of" = some (some (.ref f_word_of)))
    (l_word_of : K.lookup f_word_of = some ⟨oc_word_of, od_word_of, .func (PySem.W.fnOf "word_of" "word_of" (defArgs (topS 21)) (defBody (topS 21)) (defScope (topS 21)) .none kV_word_of dc_word_of pm_word_of an_word_of cd_word_of ct_word_of), sl_word_of⟩)
    (c_word_of : PySem.W.codeIn K cd_word_of "word_of" = true)
    (k_word_of : PySem.W.keepIn K (.ref f_word_of) = true)
    {od_are_letters an_are_letters : Option Addr} {sl_are_letters : Array (Option Value)} {oc_are_letters kV_are_letters dc_are_letters pm_are_letters cd_are_letters ct_are_letters : Value}
    (a_are_letters : PySem.W.nsIn K mainGlobals "are_letters" = some (some (.ref f_are_letters)))
    (l_are_letters : K.lookup f_are_letters = some ⟨oc_are_letters, od_are_letters, .func (PySem.W.fnOf "are_letters" "are_letters" (defArgs (topS 22)) (defBody (topS 22)) (defScope (topS 22)) .none kV_are_letters dc_are_letters pm_are_letters an_are_letters cd_are_letters ct_are_letters), sl_are_letters⟩)
    (c_are_letters : PySem.W.codeIn K cd_are_letters "are_letters" = true)
    (k_are_letters : PySem.W.keepIn K (.ref f_are_letters) = true)
    {od_sample_text an_sample_text : Option Addr} {sl_sample_text : Array (Option Value)} {oc_sample_text kV_sample_text dc_sample_text pm_sample_text cd_sample_text ct_sample_text : Value}
    (a_sample_text : PySem.W.nsIn K mainGlobals "sample_text" = some (some (.ref f_sample_text)))
    (l_sample_text : K.lookup f_sample_text = some ⟨oc_sample_text, od_sample_text, .func (PySem.W.fnOf "sample_text" "sample_text" (defArgs (topS 23)) (defBody (topS 23)) (defScope (topS 23)) .none kV_sample_text dc_sample_text pm_sample_text an_sample_text cd_sample_text ct_sample_text), sl_sample_text⟩)
    (c_sample_text : PySem.W.codeIn K cd_sample_text "sample_text" = true)
    (k_sample_text : PySem.W.keepIn K (.ref f_sample_text) = true)
    {od_read_sample an_read_sample : Option Addr} {sl_read_sample : Array (Option Value)} {oc_read_sample kV_read_sample dc_read_sample pm_read_sample cd_read_sample ct_read_sample : Value}
    (a_read_sample : PySem.W.nsIn K mainGlobals "read_sample" = some (some (.ref f_read_sample)))
    (l_read_sample : K.lookup f_read_sample = some ⟨oc_read_sample, od_read_sample, .func (PySem.W.fnOf "read_sample" "read_sample" (defArgs (topS 24)) (defBody (topS 24)) (defScope (topS 24)) .none kV_read_sample dc_read_sample pm_read_sample an_read_sample cd_read_sample ct_read_sample), sl_read_sample⟩)
    (c_read_sample : PySem.W.codeIn K cd_read_sample "read_sample" = true)
    (k_read_sample : PySem.W.keepIn K (.ref f_read_sample) = true)
    {od_law_start an_law_start : Option Addr} {sl_law_start : Array (Option Value)} {oc_law_start kV_law_start dc_law_start pm_law_start cd_law_start ct_law_start : Value}
    (a_law_start : PySem.W.nsIn K mainGlobals "_law_start" = some (some (.ref f_law_start)))
    (l_law_start : K.lookup f_law_start = some ⟨oc_law_start, od_law_start, .func (PySem.W.fnOf "_law_start" "_law_start" (defArgs (topS 26)) (defBody (topS 26)) (defScope (topS 26)) .none kV_law_start dc_law_start pm_law_start an_law_start cd_law_start ct_law_start), sl_law_start⟩)
    (c_law_start : PySem.W.codeIn K cd_law_start "_law_start" = true)
    (k_law_start : PySem.W.keepIn K (.ref f_law_start) = true)
    {od_law_next an_law_next : Option Addr} {sl_law_next : Array (Option Value)} {oc_law_next kV_law_next dc_law_next pm_law_next cd_law_next ct_law_next : Value}
    (a_law_next : PySem.W.nsIn K mainGlobals "_law_next" = some (some (.ref f_law_next)))
    (l_law_next : K.lookup f_law_next = some ⟨oc_law_next, od_law_next, .func (PySem.W.fnOf "_law_next" "_law_next" (defArgs (topS 27)) (defBody (topS 27)) (defScope (topS 27)) .none kV_law_next dc_law_next pm_law_next an_law_next cd_law_next ct_law_next), sl_law_next⟩)
    (c_law_next : PySem.W.codeIn K cd_law_next "_law_next" = true)
    (k_law_next : PySem.W.keepIn K (.ref f_law_next) = true)
    {od_law_integer an_law_integer : Option Addr} {sl_law_integer : Array (Option Value)} {oc_law_integer kV_law_integer dc_law_integer pm_law_integer cd_law_integer ct_law_integer : Value}
    (a_law_integer : PySem.W.nsIn K mainGlobals "_law_integer" = some (some (.ref f_law_integer)))
    (l_law_integer : K.lookup f_law_integer = some ⟨oc_law_integer, od_law_integer, .func (PySem.W.fnOf "_law_integer" "_law_integer" (defArgs (topS 28)) (defBody (topS 28)) (defScope (topS 28)) .none kV_law_integer dc_law_integer pm_law_integer an_law_integer cd_law_integer ct_law_integer), sl_law_integer⟩)
    (c_law_integer : PySem.W.codeIn K cd_law_integer "_law_integer" = true)
    (k_law_integer : PySem.W.keepIn K (.ref f_law_integer) = true)
    {od_law_alphabet an_law_alphabet : Option Addr} {sl_law_alphabet : Array (Option Value)} {oc_law_alphabet kV_law_alphabet dc_law_alphabet pm_law_alphabet cd_law_alphabet ct_law_alphabet : Value}
    (a_law_alphabet : PySem.W.nsIn K mainGlobals "_law_alphabet" = some (some (.ref f_law_alphabet)))
    (l_law_alphabet : K.lookup f_law_alphabet = some ⟨oc_law_alphabet, od_law_alphabet, .func (PySem.W.fnOf "_law_alphabet" "_law_alphabet" (defArgs (topS 29)) (defBody (topS 29)) (defScope (topS 29)) .none kV_law_alphabet dc_law_alphabet pm_law_alphabet an_law_alphabet cd_law_alphabet ct_law_alphabet), sl_law_alphabet⟩)
    (c_law_alphabet : PySem.W.codeIn K cd_law_alphabet "_law_alphabet" = true)
    (k_law_alphabet : PySem.W.keepIn K (.ref f_law_alphabet) = true)
    {od_law_word an_law_word : Option Addr} {sl_law_word : Array (Option Value)} {oc_law_word kV_law_word dc_law_word pm_law_word cd_law_word ct_law_word : Value}
    (a_law_word : PySem.W.nsIn K mainGlobals "_law_word" = some (some (.ref f_law_word)))
    (l_law_word : K.lookup f_law_word = some ⟨oc_law_word, od_law_word, .func (PySem.W.fnOf "_law_word" "_law_word" (defArgs (topS 30)) (defBody (topS 30)) (defScope (topS 30)) .none kV_law_word dc_law_word pm_law_word an_law_word cd_law_word ct_law_word), sl_law_word⟩)
    (c_law_word : PySem.W.codeIn K cd_law_word "_law_word" = true)
    (k_law_word : PySem.W.keepIn K (.ref f_law_word) = true)
    {od_law_ordered an_law_ordered : Option Addr} {sl_law_ordered : Array (Option Value)} {oc_law_ordered kV_law_ordered dc_law_ordered pm_law_ordered cd_law_ordered ct_law_ordered : Value}
    (a_law_ordered : PySem.W.nsIn K mainGlobals "_law_ordered" = some (some (.ref f_law_ordered)))
    (l_law_ordered : K.lookup f_law_ordered = some ⟨oc_law_ordered, od_law_ordered, .func (PySem.W.fnOf "_law_ordered" "_law_ordered" (defArgs (topS 31)) (defBody (topS 31)) (defScope (topS 31)) .none kV_law_ordered dc_law_ordered pm_law_ordered an_law_ordered cd_law_ordered ct_law_ordered), sl_law_ordered⟩)
    (c_law_ordered : PySem.W.codeIn K cd_law_ordered "_law_ordered" = true)
    (k_law_ordered : PySem.W.keepIn K (.ref f_law_ordered) = true)
    {od_law_text an_law_text : Option Addr} {sl_law_text : Array (Option Value)} {oc_law_text kV_law_text dc_law_text pm_law_text cd_law_text ct_law_text : Value}
    (a_law_text : PySem.W.nsIn K mainGlobals "_law_text" = some (some (.ref f_law_text)))
    (l_law_text : K.lookup f_law_text = some ⟨oc_law_text, od_law_text, .func (PySem.W.fnOf "_law_text" "_law_text" (defArgs (topS 32)) (defBody (topS 32)) (defScope (topS 32)) .none kV_law_text dc_law_text pm_law_text an_law_text cd_law_text ct_law_text), sl_law_text⟩)
    (c_law_text : PySem.W.codeIn K cd_law_text "_law_text" = true)
    (k_law_text : PySem.W.keepIn K (.ref f_law_text) = true)
    {od_law_good_letters an_law_good_letters : Option Addr} {sl_law_good_letters : Array (Option Value)} {oc_law_good_letters kV_law_good_letters dc_law_good_letters pm_law_good_letters cd_law_good_letters ct_law_good_letters : Value}
    (a_law_good_letters : PySem.W.nsIn K mainGlobals "_law_good_letters" = some (some (.ref f_law_good_letters)))
    (l_law_good_letters : K.lookup f_law_good_letters = some ⟨oc_law_good_letters, od_law_good_letters, .func (PySem.W.fnOf "_law_good_letters" "_law_good_letters" (defArgs (topS 33)) (defBody (topS 33)) (defScope (topS 33)) .none kV_law_good_letters dc_law_good_letters pm_law_good_letters an_law_good_letters cd_law_good_letters ct_law_good_letters), sl_law_good_letters⟩)
    (c_law_good_letters : PySem.W.codeIn K cd_law_good_letters "_law_good_letters" = true)
    (k_law_good_letters : PySem.W.keepIn K (.ref f_law_good_letters) = true)
    {od_law_read an_law_read : Option Addr} {sl_law_read : Array (Option Value)} {oc_law_read kV_law_read dc_law_read pm_law_read cd_law_read ct_law_read : Value}
    (a_law_read : PySem.W.nsIn K mainGlobals "_law_read" = some (some (.ref f_law_read)))
    (l_law_read : K.lookup f_law_read = some ⟨oc_law_read, od_law_read, .func (PySem.W.fnOf "_law_read" "_law_read" (defArgs (topS 34)) (defBody (topS 34)) (defScope (topS 34)) .none kV_law_read dc_law_read pm_law_read an_law_read cd_law_read ct_law_read), sl_law_read⟩)
    (c_law_read : PySem.W.codeIn K cd_law_read "_law_read" = true)
    (k_law_read : PySem.W.keepIn K (.ref f_law_read) = true)
    {od_law_words_are an_law_words_are : Option Addr} {sl_law_words_are : Array (Option Value)} {oc_law_words_are kV_law_words_are dc_law_words_are pm_law_words_are cd_law_words_are ct_law_words_are : Value}
    (a_law_words_are : PySem.W.nsIn K mainGlobals "_law_words_are" = some (some (.ref f_law_words_are)))
    (l_law_words_are : K.lookup f_law_words_are = some ⟨oc_law_words_are, od_law_words_are, .func (PySem.W.fnOf "_law_words_are" "_law_words_are" (defArgs (topS 35)) (defBody (topS 35)) (defScope (topS 35)) .none kV_law_words_are dc_law_words_are pm_law_words_are an_law_words_are cd_law_words_are ct_law_words_are), sl_law_words_are⟩)
    (c_law_words_are : PySem.W.codeIn K cd_law_words_are "_law_words_are" = true)
    (k_law_words_are : PySem.W.keepIn K (.ref f_law_words_are) = true)
    {od_law_reads an_law_reads : Option Addr} {sl_law_reads : Array (Option Value)} {oc_law_reads kV_law_reads dc_law_reads pm_law_reads cd_law_reads ct_law_reads : Value}
    (a_law_reads : PySem.W.nsIn K mainGlobals "_law_reads" = some (some (.ref f_law_reads)))
    (l_law_reads : K.lookup f_law_reads = some ⟨oc_law_reads, od_law_reads, .func (PySem.W.fnOf "_law_reads" "_law_reads" (defArgs (topS 36)) (defBody (topS 36)) (defScope (topS 36)) .none kV_law_reads dc_law_reads pm_law_reads an_law_reads cd_law_reads ct_law_reads), sl_law_reads⟩)
    (c_law_reads : PySem.W.codeIn K cd_law_reads "_law_reads" = true)
    (k_law_reads : PySem.W.keepIn K (.ref f_law_reads) = true)
    {od_law_word_at an_law_word_at : Option Addr} {sl_law_word_at : Array (Option Value)} {oc_law_word_at kV_law_word_at dc_law_word_at pm_law_word_at cd_law_word_at ct_law_word_at : Value}
    (a_law_word_at : PySem.W.nsIn K mainGlobals "_law_word_at" = some (some (.ref f_law_word_at)))
    (l_law_word_at : K.lookup f_law_word_at = some ⟨oc_law_word_at, od_law_word_at, .func (PySem.W.fnOf "_law_word_at" "_law_word_at" (defArgs (topS 37)) (defBody (topS 37)) (defScope (topS 37)) .none kV_law_word_at dc_law_word_at pm_law_word_at an_law_word_at cd_law_word_at ct_law_word_at), sl_law_word_at⟩)
    (c_law_word_at : PySem.W.codeIn K cd_law_word_at "_law_word_at" = true)
    (k_law_word_at : PySem.W.keepIn K (.ref f_law_word_at) = true)
    {od_law_climbing an_law_climbing : Option Addr} {sl_law_climbing : Array (Option Value)} {oc_law_climbing kV_law_climbing dc_law_climbing pm_law_climbing cd_law_climbing ct_law_climbing : Value}
    (a_law_climbing : PySem.W.nsIn K mainGlobals "_law_climbing" = some (some (.ref f_law_climbing)))
    (l_law_climbing : K.lookup f_law_climbing = some ⟨oc_law_climbing, od_law_climbing, .func (PySem.W.fnOf "_law_climbing" "_law_climbing" (defArgs (topS 38)) (defBody (topS 38)) (defScope (topS 38)) .none kV_law_climbing dc_law_climbing pm_law_climbing an_law_climbing cd_law_climbing ct_law_climbing), sl_law_climbing⟩)
    (c_law_climbing : PySem.W.codeIn K cd_law_climbing "_law_climbing" = true)
    (k_law_climbing : PySem.W.keepIn K (.ref f_law_climbing) = true)
    {od_law_spoilt an_law_spoilt : Option Addr} {sl_law_spoilt : Array (Option Value)} {oc_law_spoilt kV_law_spoilt dc_law_spoilt pm_law_spoilt cd_law_spoilt ct_law_spoilt : Value}
    (a_law_spoilt : PySem.W.nsIn K mainGlobals "_law_spoilt" = some (some (.ref f_law_spoilt)))
    (l_law_spoilt : K.lookup f_law_spoilt = some ⟨oc_law_spoilt, od_law_spoilt, .func (PySem.W.fnOf "_law_spoilt" "_law_spoilt" (defArgs (topS 39)) (defBody (topS 39)) (defScope (topS 39)) .none kV_law_spoilt dc_law_spoilt pm_law_spoilt an_law_spoilt cd_law_spoilt ct_law_spoilt), sl_law_spoilt⟩)
    (c_law_spoilt : PySem.W.codeIn K cd_law_spoilt "_law_spoilt" = true)
    (k_law_spoilt : PySem.W.keepIn K (.ref f_law_spoilt) = true)
    {od_law_large an_law_large : Option Addr} {sl_law_large : Array (Option Value)} {oc_law_large kV_law_large dc_law_large pm_law_large cd_law_large ct_law_large : Value}
    (a_law_large : PySem.W.nsIn K mainGlobals "_law_large" = some (some (.ref f_law_large)))
    (l_law_large : K.lookup f_law_large = some ⟨oc_law_large, od_law_large, .func (PySem.W.fnOf "_law_large" "_law_large" (defArgs (topS 40)) (defBody (topS 40)) (defScope (topS 40)) .none kV_law_large dc_law_large pm_law_large an_law_large cd_law_large ct_law_large), sl_law_large⟩)
    (c_law_large : PySem.W.codeIn K cd_law_large "_law_large" = true)
    (k_law_large : PySem.W.keepIn K (.ref f_law_large) = true)
    {od_law an_law : Option Addr} {sl_law : Array (Option Value)} {oc_law kV_law dc_law pm_law cd_law ct_law : Value}
    {f_law : Addr}
    (a_law : PySem.W.nsIn K mainGlobals "law" = some (some (.ref f_law)))
    (l_law : K.lookup f_law = some ⟨oc_law, od_law, .func (PySem.W.fnOf "law" "law" (defArgs (topS 41)) (defBody (topS 41)) (defScope (topS 41)) .none kV_law dc_law pm_law an_law cd_law ct_law), sl_law⟩)
    (c_law : PySem.W.codeIn K cd_law "law" = true)
    (k_law : PySem.W.keepIn K (.ref f_law) = true)
    {tk_MOST_KINDS_OF_LETTERS : Tok}
    (v_MOST_KINDS_OF_LETTERS : PySem.W.nsIn K mainGlobals "MOST_KINDS_OF_LETTERS" = some (some (.int 4 tk_MOST_KINDS_OF_LETTERS)))
    {tk_MOST_LETTERS : Tok}
    (v_MOST_LETTERS : PySem.W.nsIn K mainGlobals "MOST_LETTERS" = some (some (.int 24 tk_MOST_LETTERS)))
    {tk_MOST_WORDS : Tok}
    (v_MOST_WORDS : PySem.W.nsIn K mainGlobals "MOST_WORDS" = some (some (.int 64 tk_MOST_WORDS)))
    {tk_SMALL : Tok}
    (v_SMALL : PySem.W.nsIn K mainGlobals "SMALL" = some (some (.str con_SMALL tk_SMALL)))
    (ex_BadLetters__BadLetters : PySem.W.exmOne K (.ref C_BadLetters) (.ref C_BadLetters) = some true)
    (ex_BadText__LanguageError : PySem.W.exmOne K (.ref C_BadText) (.ref C_LanguageError) = some true)
    (pg_Sample : PySem.W.plainGet K C_Sample Str.empty = true)
    (hd_Sample : PySem.W.hasDictIn K C_Sample = true)
    (po_Sample : PySem.W.plainOver K C_Sample = true)
    (sa_Sample : PySem.W.findIn K (.ref C_Sample) "__setattr__" = some (some (.builtin "object.__setattr__")))
    (ca_Sample : PySem.W.findIn K (.ref C_Sample) "__class__" = some (some (.builtin "object.__class__")))
    (ocn : PySem.W.specialIn K (.builtin "object.__class__") "__get__" = some (some (.builtin "getset_descriptor.__get__")))
    (oct : PySem.W.takesIn K (.builtin "object.__class__") = some true)
    (cm_Sample : PySem.W.mroIn K C_Sample (.type "object") = some true)
    (me_Sample : PySem.W.kitOne K (.ref C_Sample) (.ref C_Sample) = some true)
    (kk_BadText__BadLetters : PySem.W.kitOne K (.ref C_BadText) (.ref C_BadLetters) = some false)
    (kk_BadText__BadText : PySem.W.kitOne K (.ref C_BadText) (.ref C_BadText) = some true)
    (kk_BadText__BadWord : PySem.W.kitOne K (.ref C_BadText) (.ref C_BadWord) = some false)
    (kk_BadText__TooMany : PySem.W.kitOne K (.ref C_BadText) (.ref C_TooMany) = some false)
    (z_abs : PySem.W.nsIn K mainGlobals "abs" = some none)
    (z_all : PySem.W.nsIn K mainGlobals "all" = some none)
    (z_any : PySem.W.nsIn K mainGlobals "any" = some none)
    (z_bool : PySem.W.nsIn K mainGlobals "bool" = some none)
    (z_enumerate : PySem.W.nsIn K mainGlobals "enumerate" = some none)
    (z_int : PySem.W.nsIn K mainGlobals "int" = some none)
    (z_isinstance : PySem.W.nsIn K mainGlobals "isinstance" = some none)
    (z_len : PySem.W.nsIn K mainGlobals "len" = some none)
    (z_list : PySem.W.nsIn K mainGlobals "list" = some none)
    (z_range : PySem.W.nsIn K mainGlobals "range" = some none)
    (z_sorted : PySem.W.nsIn K mainGlobals "sorted" = some none)
    (z_str : PySem.W.nsIn K mainGlobals "str" = some none)
    (z_tuple : PySem.W.nsIn K mainGlobals "tuple" = some none)
    (na_Sample__letters : PySem.W.findIn K (.ref C_Sample) "letters" = some none)
    (na_Sample__no : PySem.W.findIn K (.ref C_Sample) "no" = some none)
    (na_Sample__yes : PySem.W.findIn K (.ref C_Sample) "yes" = some none)
    (q_BadLetters : PySem.W.excIn K C_BadLetters [.type "ValueError", .type "Exception", .type "BaseException", .type "object"] "ValueError.__new__" = true)
    (kp_BadLetters : PySem.W.keepIn K (.ref C_BadLetters) = true)
    (sb_BadLetters : PySem.W.subIn K (.ref C_BadLetters) (.type "BaseException") = some true)
    (ty_BadLetters : PySem.W.typeIn K (.ref C_BadLetters) = some (.type "type"))
    (cl_BadText : (PySem.W.clsIn K C_BadText).isSome = true)
    (ga_BadText : PySem.W.findIn K (.ref C_BadText) "__getattribute__" = some (some (.builtin "BaseException.__getattribute__")))
    (gg_BadText : PySem.W.findIn K (.ref C_BadText) "__getattr__" = some none)
    (xs_BadText : PySem.W.subIn K (.ref C_BadText) (.type "BaseException") = some true)
    (ca_BadText : PySem.W.findIn K (.ref C_BadText) "__class__" = some (some (.builtin "object.__class__")))
    (cm_BadText : PySem.W.mroIn K C_BadText (.type "object") = some true)
    (hd_BadText : PySem.W.hasDictIn K C_BadText = true)
    (xna_BadText__line : PySem.W.findIn K (.ref C_BadText) "line" = some none)
    {nm_BadText q_n_BadText : Str} {N_BadText : Addr} {bs_BadText bm_BadText : List Value} {sn_BadText : List Str} {sub_BadText : List Value} {ab_BadText : Bool} {col_BadText : Option Bool} {dd_BadText : Option Addr} {m0_BadText m1_BadText m2_BadText m3_BadText m5_BadText : Option Value}
    (xL_BadText : K.lookup C_BadText = some (excClassObj nm_BadText q_n_BadText C_BadText N_BadText bs_BadText bm_BadText true sn_BadText sub_BadText ab_BadText col_BadText dd_BadText m0_BadText m1_BadText m2_BadText m3_BadText m5_BadText "ValueError.__new__"))
    (xB_BadText : PySem.HandSPX.refsVE bm_BadText = true)
    (saX_BadText : PySem.W.findIn K (.ref C_BadText) "__setattr__" = some (some (.builtin "object.__setattr__")))
    (tyX_BadText : PySem.W.typeIn K (.ref C_BadText) = some (.type "type"))
    (kcX_BadText : PySem.W.keepIn K (.ref C_BadText) = true)
    {cc_BadText cda_BadText : Addr} {iod_BadText : Option Addr} {isl_BadText : Array (Option Value)} {ioc_BadText idc_BadText ipm_BadText ict_BadText : Value}
    (iW_BadText : PySem.W.findIn K (.ref C_BadText) "__init__" = some (some (.ref f_BadText___init)))
    (tI_BadText : PySem.W.typeIn K (.ref f_BadText___init) = some (.type "function"))
    (lI_BadText : K.lookup f_BadText___init = some ⟨ioc_BadText, iod_BadText, .func ((nfI_BadText cc_BadText cda_BadText).fd idc_BadText ipm_BadText ict_BadText), isl_BadText⟩)
    (cI_BadText : PySem.W.codeIn K (.ref cda_BadText) "BadText.__init__" = true)
    {kc1_BadText : Value} {kd1_BadText : Option Addr} {ks1_BadText : Array (Option Value)}
    (cell_BadText : K.lookup cc_BadText = some ⟨kc1_BadText, kd1_BadText, .cell (some (.ref C_BadText)), ks1_BadText⟩)
    {kc2_BadText : Value} {kd2_BadText : Option Addr} {kvs_BadText : Array Value} {ks2_BadText : Array (Option Value)} {file_BadText : Str} {tf_BadText : Tok}
    (xcode_BadText : K.lookup cda_BadText = some ⟨kc2_BadText, kd2_BadText, .fields kvs_BadText, ks2_BadText⟩)
    (xv_BadText : kvs_BadText[2]? = some (.str file_BadText tf_BadText))
    (xfl_BadText : ((P.main.file : Str) == file_BadText) = true)
    (mW_BadText : PySem.W.mroIn K C_BadText (.ref C_BadText) = some true)
    (sW_BadText : PySem.W.ks_superIn K C_BadText C_BadText "__init__" = some (some (.builtin "ValueError.__init__")))
    (vW_BadText : PySem.W.subIn K (.ref C_BadText) (.type "ValueError") = some true)
    (opq : PySem.W.nsIn K cStatics "thirdparty.any" = some none)
    (iniW_BadText : PySem.W.excInitIn K C_BadText [.type "ValueError", .type "Exception", .type "BaseException", .type "object"] "ValueError.__new__" = true)
    (topN : (P.main.scope.names.lookup ("super" : Str)).isSome = false)
    (zsup : PySem.W.nsIn K mainGlobals "super" = some none)
    (cl_BadWord : (PySem.W.clsIn K C_BadWord).isSome = true)
    (ga_BadWord : PySem.W.findIn K (.ref C_BadWord) "__getattribute__" = some (some (.builtin "BaseException.__getattribute__")))
    (gg_BadWord : PySem.W.findIn K (.ref C_BadWord) "__getattr__" = some none)
    (xs_BadWord : PySem.W.subIn K (.ref C_BadWord) (.type "BaseException") = some true)
    (ca_BadWord : PySem.W.findIn K (.ref C_BadWord) "__class__" = some (some (.builtin "object.__class__")))
    (cm_BadWord : PySem.W.mroIn K C_BadWord (.type "object") = some true)
    (hd_BadWord : PySem.W.hasDictIn K C_BadWord = true)
    {nm_BadWord q_n_BadWord : Str} {N_BadWord : Addr} {bs_BadWord bm_BadWord : List Value} {sn_BadWord : List Str} {sub_BadWord : List Value} {ab_BadWord : Bool} {col_BadWord : Option Bool} {dd_BadWord : Option Addr} {m0_BadWord m1_BadWord m2_BadWord m3_BadWord m5_BadWord : Option Value}
    (xL_BadWord : K.lookup C_BadWord = some (excClassObj nm_BadWord q_n_BadWord C_BadWord N_BadWord bs_BadWord bm_BadWord true sn_BadWord sub_BadWord ab_BadWord col_BadWord dd_BadWord m0_BadWord m1_BadWord m2_BadWord m3_BadWord m5_BadWord "ValueError.__new__"))
    (xB_BadWord : PySem.HandSPX.refsVE bm_BadWord = true)
    (saX_BadWord : PySem.W.findIn K (.ref C_BadWord) "__setattr__" = some (some (.builtin "object.__setattr__")))
    (tyX_BadWord : PySem.W.typeIn K (.ref C_BadWord) = some (.type "type"))
    (kcX_BadWord : PySem.W.keepIn K (.ref C_BadWord) = true)
    {cc_BadWord cda_BadWord : Addr} {iod_BadWord : Option Addr} {isl_BadWord : Array (Option Value)} {ioc_BadWord idc_BadWord ipm_BadWord ict_BadWord : Value}
    (iW_BadWord : PySem.W.findIn K (.ref C_BadWord) "__init__" = some (some (.ref f_BadWord___init)))
    (tI_BadWord : PySem.W.typeIn K (.ref f_BadWord___init) = some (.type "function"))
    (lI_BadWord : K.lookup f_BadWord___init = some ⟨ioc_BadWord, iod_BadWord, .func ((nfI_BadWord cc_BadWord cda_BadWord).fd idc_BadWord ipm_BadWord ict_BadWord), isl_BadWord⟩)
    (cI_BadWord : PySem.W.codeIn K (.ref cda_BadWord) "BadWord.__init__" = true)
    {kc1_BadWord : Value} {kd1_BadWord : Option Addr} {ks1_BadWord : Array (Option Value)}
    (cell_BadWord : K.lookup cc_BadWord = some ⟨kc1_BadWord, kd1_BadWord, .cell (some (.ref C_BadWord)), ks1_BadWord⟩)
    {kc2_BadWord : Value} {kd2_BadWord : Option Addr} {kvs_BadWord : Array Value} {ks2_BadWord : Array (Option Value)} {file_BadWord : Str} {tf_BadWord : Tok}
    (xcode_BadWord : K.lookup cda_BadWord = some ⟨kc2_BadWord, kd2_BadWord, .fields kvs_BadWord, ks2_BadWord⟩)
    (xv_BadWord : kvs_BadWord[2]? = some (.str file_BadWord tf_BadWord))
    (xfl_BadWord : ((P.main.file : Str) == file_BadWord) = true)
    (mW_BadWord : PySem.W.mroIn K C_BadWord (.ref C_BadWord) = some true)
    (sW_BadWord : PySem.W.ks_superIn K C_BadWord C_BadWord "__init__" = some (some (.builtin "ValueError.__init__")))
    (vW_BadWord : PySem.W.subIn K (.ref C_BadWord) (.type "ValueError") = some true)
    (iniW_BadWord : PySem.W.excInitIn K C_BadWord [.type "ValueError", .type "Exception", .type "BaseException", .type "object"] "ValueError.__new__" = true)
    (xna_BadWord__word : PySem.W.findIn K (.ref C_BadWord) "word" = some none)
    (xna_BadWord__place : PySem.W.findIn K (.ref C_BadWord) "place" = some none)
    (cl_TooMany : (PySem.W.clsIn K C_TooMany).isSome = true)
    (ga_TooMany : PySem.W.findIn K (.ref C_TooMany) "__getattribute__" = some (some (.builtin "BaseException.__getattribute__")))
    (gg_TooMany : PySem.W.findIn K (.ref C_TooMany) "__getattr__" = some none)
    (xs_TooMany : PySem.W.subIn K (.ref C_TooMany) (.type "BaseException") = some true)
    (ca_TooMany : PySem.W.findIn K (.ref C_TooMany) "__class__" = some (some (.builtin "object.__class__")))
    (cm_TooMany : PySem.W.mroIn K C_TooMany (.type "object") = some true)
    (hd_TooMany : PySem.W.hasDictIn K C_TooMany = true)
    {nm_TooMany q_n_TooMany : Str} {N_TooMany : Addr} {bs_TooMany bm_TooMany : List Value} {sn_TooMany : List Str} {sub_TooMany : List Value} {ab_TooMany : Bool} {col_TooMany : Option Bool} {dd_TooMany : Option Addr} {m0_TooMany m1_TooMany m2_TooMany m3_TooMany m5_TooMany : Option Value}
    (xL_TooMany : K.lookup C_TooMany = some (excClassObj nm_TooMany q_n_TooMany C_TooMany N_TooMany bs_TooMany bm_TooMany true sn_TooMany sub_TooMany ab_TooMany col_TooMany dd_TooMany m0_TooMany m1_TooMany m2_TooMany m3_TooMany m5_TooMany "ValueError.__new__"))
    (xB_TooMany : PySem.HandSPX.refsVE bm_TooMany = true)
    (saX_TooMany : PySem.W.findIn K (.ref C_TooMany) "__setattr__" = some (some (.builtin "object.__setattr__")))
    (tyX_TooMany : PySem.W.typeIn K (.ref C_TooMany) = some (.type "type"))
    (kcX_TooMany : PySem.W.keepIn K (.ref C_TooMany) = true)
    {cc_TooMany cda_TooMany : Addr} {iod_TooMany : Option Addr} {isl_TooMany : Array (Option Value)} {ioc_TooMany idc_TooMany ipm_TooMany ict_TooMany : Value}
    (iW_TooMany : PySem.W.findIn K (.ref C_TooMany) "__init__" = some (some (.ref f_TooMany___init)))
    (tI_TooMany : PySem.W.typeIn K (.ref f_TooMany___init) = some (.type "function"))
    (lI_TooMany : K.lookup f_TooMany___init = some ⟨ioc_TooMany, iod_TooMany, .func ((nfI_TooMany cc_TooMany cda_TooMany).fd idc_TooMany ipm_TooMany ict_TooMany), isl_TooMany⟩)
    (cI_TooMany : PySem.W.codeIn K (.ref cda_TooMany) "TooMany.__init__" = true)
    {kc1_TooMany : Value} {kd1_TooMany : Option Addr} {ks1_TooMany : Array (Option Value)}
    (cell_TooMany : K.lookup cc_TooMany = some ⟨kc1_TooMany, kd1_TooMany, .cell (some (.ref C_TooMany)), ks1_TooMany⟩)
    {kc2_TooMany : Value} {kd2_TooMany : Option Addr} {kvs_TooMany : Array Value} {ks2_TooMany : Array (Option Value)} {file_TooMany : Str} {tf_TooMany : Tok}
    (xcode_TooMany : K.lookup cda_TooMany = some ⟨kc2_TooMany, kd2_TooMany, .fields kvs_TooMany, ks2_TooMany⟩)
    (xv_TooMany : kvs_TooMany[2]? = some (.str file_TooMany tf_TooMany))
    (xfl_TooMany : ((P.main.file : Str) == file_TooMany) = true)
    (mW_TooMany : PySem.W.mroIn K C_TooMany (.ref C_TooMany) = some true)
    (sW_TooMany : PySem.W.ks_superIn K C_TooMany C_TooMany "__init__" = some (some (.builtin "ValueError.__init__")))
    (vW_TooMany : PySem.W.subIn K (.ref C_TooMany) (.type "ValueError") = some true)
    (iniW_TooMany : PySem.W.excInitIn K C_TooMany [.type "ValueError", .type "Exception", .type "BaseException", .type "object"] "ValueError.__new__" = true)
    (xna_TooMany__limit : PySem.W.findIn K (.ref C_TooMany) "limit" = some none)
    (mk1_Sample : PySem.W.makesIn K C_Sample = true)
    (mk3_Sample : PySem.W.isFn K (.ref f_Sample___init) = true)
    (mk4_Sample : PySem.W.keepIn K (.ref C_Sample) = true) :
    ∃ fd : FuncData, (∀ (s : Shared) (v : Value), BindsTo s fd ⟨[v], []⟩ [("script", v)]) ∧ ∀ base : Heap, K.In base → base.Ns mainGlobals mg → FnOk P w K mg base (L2N.CX P w) 10 fa fd ["script"] (sp_law K) := by
  have e := hfa.symm.trans (PySem.W.mg_of X G a_law)
  cases e
  have T : Tx K mg (⟨fa, f_check_letters, f_check_word, f_order_key, f_in_order, f_check_words, f_written, f_word_of, f_are_letters, f_sample_text, f_read_sample, f_law_start, f_law_next, f_law_integer, f_law_alphabet, f_law_word, f_law_ordered, f_law_text, f_law_good_letters, f_law_read, f_law_words_are, f_law_reads, f_law_word_at, f_law_climbing, f_law_spoilt, f_law_large, fa, C_LanguageError, C_BadLetters, C_BadWord, C_TooMany, C_BadText, C_Sample, f_BadWord___init, f_TooMany___init, f_BadText___init, f_Sample___init, fa, fa, fa⟩ : Ad) := { c_MOST_KINDS_OF_LETTERS := ⟨_, PySem.W.mg_of X G v_MOST_KINDS_OF_LETTERS⟩, c_MOST_LETTERS := ⟨_, PySem.W.mg_of X G v_MOST_LETTERS⟩, c_MOST_WORDS := ⟨_, PySem.W.mg_of X G v_MOST_WORDS⟩, c_SMALL := ⟨_, PySem.W.mg_of X G v_SMALL⟩, ex_BadLetters__BadLetters := ex_BadLetters__BadLetters, ex_BadText__LanguageError := ex_BadText__LanguageError, ic_Sample := ⟨⟨pg_Sample, hd_Sample, po_Sample, sa_Sample⟩, ca_Sample, ocn, oct, cm_Sample, me_Sample⟩, g_Sample := PySem.W.mg_of X G aC_Sample, k_BadLetters := PySem.W.mg_of X G aC_BadLetters, k_BadText := PySem.W.mg_of X G aC_BadText, k_BadWord := PySem.W.mg_of X G aC_BadWord, k_LanguageError := PySem.W.mg_of X G aC_LanguageError, k_TooMany := PySem.W.mg_of X G aC_TooMany, kk_BadText__BadLetters := kk_BadText__BadLetters, kk_BadText__BadText := kk_BadText__BadText, kk_BadText__BadWord := kk_BadText__BadWord, kk_BadText__TooMany := kk_BadText__TooMany, m_abs := PySem.W.mg_none_of X G z_abs, m_all := PySem.W.mg_none_of X G z_all, m_any := PySem.W.mg_none_of X G z_any, m_bool := PySem.W.mg_none_of X G z_bool, m_enumerate := PySem.W.mg_none_of X G z_enumerate, m_int := PySem.W.mg_none_of X G z_int, m_isinstance := PySem.W.mg_none_of X G z_isinstance, m_len := PySem.W.mg_none_of X G z_len, m_list := PySem.W.mg_none_of X G z_list, m_range := PySem.W.mg_none_of X G z_range, m_sorted := PySem.W.mg_none_of X G z_sorted, m_str := PySem.W.mg_none_of X G z_str, m_tuple := PySem.W.mg_none_of X G z_tuple, na_Sample__letters := na_Sample__letters, na_Sample__no := na_Sample__no, na_Sample__yes := na_Sample__yes, o_Sample := ⟨pg_Sample, hd_Sample, po_Sample, sa_Sample⟩, x_BadLetters := ⟨q_BadLetters, PySem.W.mg_of X G aC_BadLetters, kp_BadLetters, sb_BadLetters, ty_BadLetters⟩, xf_BadText := ⟨ga_BadText, gg_BadText, xs_BadText, hd_BadText⟩, xk_BadText := ⟨cl_BadText, ga_BadText, gg_BadText, xs_BadText, ca_BadText, ocn, oct, cm_BadText, hd_BadText⟩, xna_BadText__line := xna_BadText__line }
  have OX_BadText : OexC K C_BadText := ⟨⟨nm_BadText, q_n_BadText, N_BadText, bs_BadText, bm_BadText, sn_BadText, sub_BadText, ab_BadText, col_BadText, dd_BadText, m0_BadText, m1_BadText, m2_BadText, m3_BadText, m5_BadText, xL_BadText, xB_BadText⟩, saX_BadText, xs_BadText, tyX_BadText, kcX_BadText⟩
  have XI_BadText : XcI P K C_BadText cc_BadText cda_BadText (nfI_BadText cc_BadText cda_BadText) := ⟨OX_BadText, rfl, ⟨_, _, _, cell_BadText⟩, rfl, ⟨_, _, _, _, _, _, xcode_BadText, xv_BadText, xfl_BadText⟩, Option.isSome_iff_exists.mp cl_BadText, mW_BadText, sW_BadText, vW_BadText, opq, iniW_BadText, topN⟩
  have OX_BadWord : OexC K C_BadWord := ⟨⟨nm_BadWord, q_n_BadWord, N_BadWord, bs_BadWord, bm_BadWord, sn_BadWord, sub_BadWord, ab_BadWord, col_BadWord, dd_BadWord, m0_BadWord, m1_BadWord, m2_BadWord, m3_BadWord, m5_BadWord, xL_BadWord, xB_BadWord⟩, saX_BadWord, xs_BadWord, tyX_BadWord, kcX_BadWord⟩
  have XI_BadWord : XcI P K C_BadWord cc_BadWord cda_BadWord (nfI_BadWord cc_BadWord cda_BadWord) := ⟨OX_BadWord, rfl, ⟨_, _, _, cell_BadWord⟩, rfl, ⟨_, _, _, _, _, _, xcode_BadWord, xv_BadWord, xfl_BadWord⟩, Option.isSome_iff_exists.mp cl_BadWord, mW_BadWord, sW_BadWord, vW_BadWord, opq, iniW_BadWord, topN⟩
  have OX_TooMany : OexC K C_TooMany := ⟨⟨nm_TooMany, q_n_TooMany, N_TooMany, bs_TooMany, bm_TooMany, sn_TooMany, sub_TooMany, ab_TooMany, col_TooMany, dd_TooMany, m0_TooMany, m1_TooMany, m2_TooMany, m3_TooMany, m5_TooMany, xL_TooMany, xB_TooMany⟩, saX_TooMany, xs_TooMany, tyX_TooMany, kcX_TooMany⟩
  have XI_TooMany : XcI P K C_TooMany cc_TooMany cda_TooMany (nfI_TooMany cc_TooMany cda_TooMany) := ⟨OX_TooMany, rfl, ⟨_, _, _, cell_TooMany⟩, rfl, ⟨_, _, _, _, _, _, xcode_TooMany, xv_TooMany, xfl_TooMany⟩, Option.isSome_iff_exists.mp cl_TooMany, mW_TooMany, sW_TooMany, vW_TooMany, opq, iniW_TooMany, topN⟩
  refine ⟨PySem.W.fnOf "law" "law" (defArgs (topS 41)) (defBody (topS 41)) (defScope (topS 41)) .none kV_law dc_law pm_law an_law cd_law ct_law, fun s v => .of_eq rfl, fun base _ _ => ?_⟩
  have F_check_letters := fun_mk (st := topS 10) l_check_letters c_check_letters k_check_letters
  have b_check_letters := F_check_letters.binds (ps := ["letters"]) fun _ _ _ _ _ _ us hl => match us, hl with | [_], _ => rfl
  have F_check_word := fun_mk (st := topS 11) l_check_word c_check_word k_check_word
  have b_check_word := F_check_word.binds (ps := ["letters", "word"]) fun _ _ _ _ _ _ us hl => match us, hl with | [_, _], _ => rfl
  have F_order_key := fun_mk (st := topS 12) l_order_key c_order_key k_order_key
  have b_order_key := F_order_key.binds (ps := ["word"]) fun _ _ _ _ _ _ us hl => match us, hl with | [_], _ => rfl
  have F_in_order := fun_mk (st := topS 13) l_in_order c_in_order k_in_order
  have b_in_order := F_in_order.binds (ps := ["words"]) fun _ _ _ _ _ _ us hl => match us, hl with | [_], _ => rfl
  have F_check_words := fun_mk (st := topS 17) l_check_words c_check_words k_check_words
  have b_check_words := F_check_words.binds (ps := ["letters", "words"]) fun _ _ _ _ _ _ us hl => match us, hl with | [_, _], _ => rfl
  have F_Sample___init := fun_mk (st := inClass (topS 18) 0) l_Sample___init c_Sample___init k_Sample___init
  have b_Sample___init := F_Sample___init.binds (ps := ["self", "letters", "yes", "no"]) fun _ _ _ _ _ _ us hl => match us, hl with | [_, _, _, _], _ => rfl
  have F_written := fun_mk (st := topS 20) l_written c_written k_written
  have b_written := F_written.binds (ps := ["word"]) fun _ _ _ _ _ _ us hl => match us, hl with | [_], _ => rfl
  have F_word_of := fun_mk (st := topS 21) l_word_of c_word_of k_word_of
  have b_word_of := F_word_of.binds (ps := ["letters", "part"]) fun _ _ _ _ _ _ us hl => match us, hl with | [_, _], _ => rfl
  have F_are_letters := fun_mk (st := topS 22) l_are_letters c_are_letters k_are_letters
  have b_are_letters := F_are_letters.binds (ps := ["text"]) fun _ _ _ _ _ _ us hl => match us, hl with | [_], _ => rfl
  have F_sample_text := fun_mk (st := topS 23) l_sample_text c_sample_text k_sample_text
  have b_sample_text := F_sample_text.binds (ps := ["sample"]) fun _ _ _ _ _ _ us hl => match us, hl with | [_], _ => rfl
  have F_read_sample := fun_mk (st := topS 24) l_read_sample c_read_sample k_read_sample
  have b_read_sample := F_read_sample.binds (ps := ["text"]) fun _ _ _ _ _ _ us hl => match us, hl with | [_], _ => rfl
  have F_law_start := fun_mk (st := topS 26) l_law_start c_law_start k_law_start
  have b_law_start := F_law_start.binds (ps := ["script"]) fun _ _ _ _ _ _ us hl => match us, hl with | [_], _ => rfl
  have F_law_next := fun_mk (st := topS 27) l_law_next c_law_next k_law_next
  have b_law_next := F_law_next.binds (ps := ["state", "many"]) fun _ _ _ _ _ _ us hl => match us, hl with | [_, _], _ => rfl
  have F_law_integer := fun_mk (st := topS 28) l_law_integer c_law_integer k_law_integer
  have b_law_integer := F_law_integer.binds (ps := ["actual"]) fun _ _ _ _ _ _ us hl => match us, hl with | [_], _ => rfl
  have F_law_alphabet := fun_mk (st := topS 29) l_law_alphabet c_law_alphabet k_law_alphabet
  have b_law_alphabet := F_law_alphabet.binds (ps := ["state", "many"]) fun _ _ _ _ _ _ us hl => match us, hl with | [_, _], _ => rfl
  have F_law_word := fun_mk (st := topS 30) l_law_word c_law_word k_law_word
  have b_law_word := F_law_word.binds (ps := ["state", "letters", "size"]) fun _ _ _ _ _ _ us hl => match us, hl with | [_, _, _], _ => rfl
  have F_law_ordered := fun_mk (st := topS 31) l_law_ordered c_law_ordered k_law_ordered
  have b_law_ordered := F_law_ordered.binds (ps := ["words"]) fun _ _ _ _ _ _ us hl => match us, hl with | [_], _ => rfl
  have F_law_text := fun_mk (st := topS 32) l_law_text c_law_text k_law_text
  have b_law_text := F_law_text.binds (ps := ["letters", "yes", "no"]) fun _ _ _ _ _ _ us hl => match us, hl with | [_, _, _], _ => rfl
  have F_law_good_letters := fun_mk (st := topS 33) l_law_good_letters c_law_good_letters k_law_good_letters
  have b_law_good_letters := F_law_good_letters.binds (ps := ["text"]) fun _ _ _ _ _ _ us hl => match us, hl with | [_], _ => rfl
  have F_law_read := fun_mk (st := topS 34) l_law_read c_law_read k_law_read
  have b_law_read := F_law_read.binds (ps := ["text"]) fun _ _ _ _ _ _ us hl => match us, hl with | [_], _ => rfl
  have F_law_words_are := fun_mk (st := topS 35) l_law_words_are c_law_words_are k_law_words_are
  have b_law_words_are := F_law_words_are.binds (ps := ["actual", "due"]) fun _ _ _ _ _ _ us hl => match us, hl with | [_, _], _ => rfl
  have F_law_reads := fun_mk (st := topS 36) l_law_reads c_law_reads k_law_reads
  have b_law_reads := F_law_reads.binds (ps := ["text"]) fun _ _ _ _ _ _ us hl => match us, hl with | [_], _ => rfl
  have F_law_word_at := fun_mk (st := topS 37) l_law_word_at c_law_word_at k_law_word_at
  have b_law_word_at := F_law_word_at.binds (ps := ["letters", "number"]) fun _ _ _ _ _ _ us hl => match us, hl with | [_, _], _ => rfl
  have F_law_climbing := fun_mk (st := topS 38) l_law_climbing c_law_climbing k_law_climbing
  have b_law_climbing := F_law_climbing.binds (ps := ["state", "letters", "many", "last"]) fun _ _ _ _ _ _ us hl => match us, hl with | [_, _, _, _], _ => rfl
  have F_law_spoilt := fun_mk (st := topS 39) l_law_spoilt c_law_spoilt k_law_spoilt
  have b_law_spoilt := F_law_spoilt.binds (ps := ["state", "text"]) fun _ _ _ _ _ _ us hl => match us, hl with | [_, _], _ => rfl
  have F_law_large := fun_mk (st := topS 40) l_law_large c_law_large k_law_large
  have b_law_large := F_law_large.binds (ps := ["state", "letters"]) fun _ _ _ _ _ _ us hl => match us, hl with | [_, _], _ => rfl
  have F_law := fun_mk (st := topS 41) l_law c_law k_law
  have x_BadText : CalX P w K mg base 1 C_BadText "BadText" ["line"] := ⟨OX_BadText, ⟨_, _, _, iW_BadText, tI_BadText, okI_BadText lI_BadText cI_BadText XI_BadText (PySem.W.mg_none_of X G zsup) xna_BadText__line, bindsI_BadText⟩, PySem.W.mg_of X G aC_BadText⟩
  have x_BadWord : CalX P w K mg base 1 C_BadWord "BadWord" ["word", "place"] := ⟨OX_BadWord, ⟨_, _, _, iW_BadWord, tI_BadWord, okI_BadWord lI_BadWord cI_BadWord XI_BadWord (PySem.W.mg_none_of X G zsup) xna_BadWord__word xna_BadWord__place, bindsI_BadWord⟩, PySem.W.mg_of X G aC_BadWord⟩
  have x_TooMany : CalX P w K mg base 1 C_TooMany "TooMany" ["limit"] := ⟨OX_TooMany, ⟨_, _, _, iW_TooMany, tI_TooMany, okI_TooMany lI_TooMany cI_TooMany XI_TooMany (PySem.W.mg_none_of X G zsup) xna_TooMany__limit, bindsI_TooMany⟩, PySem.W.mg_of X G aC_TooMany⟩
  have ky_order := keyO_key (P := P) (w := w) (base := base) (mg := mg) (PySem.W.mg_none_of X G z_len) F_order_key b_order_key
  have h_law_next : Cal P w K mg base 1 f_law_next "_law_next" ["state", "many"] (sp_law_next K) := ⟨⟨_, ok_law_next T  F_law_next, b_law_next⟩, PySem.W.mg_of X G a_law_next, k_law_next⟩
  have h_law_alphabet : Cal P w K mg base 2 f_law_alphabet "_law_alphabet" ["state", "many"] (sp_law_alphabet K) := ⟨⟨_, ok_law_alphabet T h_law_next F_law_alphabet, b_law_alphabet⟩, PySem.W.mg_of X G a_law_alphabet, k_law_alphabet⟩
  have h_law_word : Cal P w K mg base 2 f_law_word "_law_word" ["state", "letters", "size"] (sp_law_word K) := ⟨⟨_, ok_law_word T h_law_next F_law_word, b_law_word⟩, PySem.W.mg_of X G a_law_word, k_law_word⟩
  have h_law_word_at : Cal P w K mg base 1 f_law_word_at "_law_word_at" ["letters", "number"] (sp_law_word_at K) := ⟨⟨_, ok_law_word_at T  F_law_word_at, b_law_word_at⟩, PySem.W.mg_of X G a_law_word_at, k_law_word_at⟩
  have h_law_climbing : Cal P w K mg base 3 f_law_climbing "_law_climbing" ["state", "letters", "many", "last"] (sp_law_climbing K) := ⟨⟨_, ok_law_climbing T h_law_next h_law_word h_law_word_at F_law_climbing, b_law_climbing⟩, PySem.W.mg_of X G a_law_climbing, k_law_climbing⟩
  have h_law_text : Cal P w K mg base 1 f_law_text "_law_text" ["letters", "yes", "no"] (sp_law_text K) := ⟨⟨_, ok_law_text T  F_law_text, b_law_text⟩, PySem.W.mg_of X G a_law_text, k_law_text⟩
  have h_law_large : Cal P w K mg base 4 f_law_large "_law_large" ["state", "letters"] (sp_law_large K) := ⟨⟨_, ok_law_large T h_law_climbing h_law_next h_law_text F_law_large, b_law_large⟩, PySem.W.mg_of X G a_law_large, k_law_large⟩
  have h_law_ordered : Cal P w K mg base 1 f_law_ordered "_law_ordered" ["words"] (sp_law_ordered K) := ⟨⟨_, ok_law_ordered T  F_law_ordered, b_law_ordered⟩, PySem.W.mg_of X G a_law_ordered, k_law_ordered⟩
  have e_law_integer : CalE P w K mg base 1 f_law_integer "_law_integer" ["actual"] (fun _ _ _ => sp_law_integer K) := ⟨⟨_, okH_law_integer T  F_law_integer, b_law_integer⟩, PySem.W.mg_of X G a_law_integer, k_law_integer⟩
  have h_law_integer : Cal P w K mg base 1 f_law_integer "_law_integer" ["actual"] (sp_law_integer K) := ⟨⟨_, ok_law_integer T  F_law_integer, b_law_integer⟩, PySem.W.mg_of X G a_law_integer, k_law_integer⟩
  have h_law_good_letters : Cal P w K mg base 1 f_law_good_letters "_law_good_letters" ["text"] (sp_law_good_letters K) := ⟨⟨_, ok_law_good_letters T  F_law_good_letters, b_law_good_letters⟩, PySem.W.mg_of X G a_law_good_letters, k_law_good_letters⟩
  have h_law_read : Cal P w K mg base 2 f_law_read "_law_read" ["text"] (sp_law_read K) := ⟨⟨_, ok_law_read T h_law_good_letters F_law_read, b_law_read⟩, PySem.W.mg_of X G a_law_read, k_law_read⟩
  have h_law_words_are : Cal P w K mg base 1 f_law_words_are "_law_words_are" ["actual", "due"] (sp_law_words_are K) := ⟨⟨_, ok_law_words_are T  F_law_words_are, b_law_words_are⟩, PySem.W.mg_of X G a_law_words_are, k_law_words_are⟩
  have h_check_letters : Cal P w K mg base 1 f_check_letters "check_letters" ["letters"] (sp_check_letters K (⟨fa, f_check_letters, f_check_word, f_order_key, f_in_order, f_check_words, f_written, f_word_of, f_are_letters, f_sample_text, f_read_sample, f_law_start, f_law_next, f_law_integer, f_law_alphabet, f_law_word, f_law_ordered, f_law_text, f_law_good_letters, f_law_read, f_law_words_are, f_law_reads, f_law_word_at, f_law_climbing, f_law_spoilt, f_law_large, fa, C_LanguageError, C_BadLetters, C_BadWord, C_TooMany, C_BadText, C_Sample, f_BadWord___init, f_TooMany___init, f_BadText___init, f_Sample___init, fa, fa, fa⟩ : Ad)) := ⟨⟨_, ok_check_letters T  F_check_letters, b_check_letters⟩, PySem.W.mg_of X G a_check_letters, k_check_letters⟩
  have h_are_letters : Cal P w K mg base 2 f_are_letters "are_letters" ["text"] (sp_are_letters K) := ⟨⟨_, ok_are_letters T h_check_letters F_are_letters, b_are_letters⟩, PySem.W.mg_of X G a_are_letters, k_are_letters⟩
  have h_order_key : Cal P w K mg base 1 f_order_key "order_key" ["word"] (sp_order_key K) := ⟨⟨_, ok_order_key T  F_order_key, b_order_key⟩, PySem.W.mg_of X G a_order_key, k_order_key⟩
  have h_word_of : Cal P w K mg base 1 f_word_of "word_of" ["letters", "part"] (sp_word_of K) := ⟨⟨_, ok_word_of T  F_word_of, b_word_of⟩, PySem.W.mg_of X G a_word_of, k_word_of⟩
  have h_check_word : Cal P w K mg base 3 f_check_word "check_word" ["letters", "word"] (sp_check_word K (⟨fa, f_check_letters, f_check_word, f_order_key, f_in_order, f_check_words, f_written, f_word_of, f_are_letters, f_sample_text, f_read_sample, f_law_start, f_law_next, f_law_integer, f_law_alphabet, f_law_word, f_law_ordered, f_law_text, f_law_good_letters, f_law_read, f_law_words_are, f_law_reads, f_law_word_at, f_law_climbing, f_law_spoilt, f_law_large, fa, C_LanguageError, C_BadLetters, C_BadWord, C_TooMany, C_BadText, C_Sample, f_BadWord___init, f_TooMany___init, f_BadText___init, f_Sample___init, fa, fa, fa⟩ : Ad)) := ⟨⟨_, ok_check_word T x_BadWord F_check_word, b_check_word⟩, PySem.W.mg_of X G a_check_word, k_check_word⟩
  have h_check_words : Cal P w K mg base 4 f_check_words "check_words" ["letters", "words"] (sp_check_words K (⟨fa, f_check_letters, f_check_word, f_order_key, f_in_order, f_check_words, f_written, f_word_of, f_are_letters, f_sample_text, f_read_sample, f_law_start, f_law_next, f_law_integer, f_law_alphabet, f_law_word, f_law_ordered, f_law_text, f_law_good_letters, f_law_read, f_law_words_are, f_law_reads, f_law_word_at, f_law_climbing, f_law_spoilt, f_law_large, fa, C_LanguageError, C_BadLetters, C_BadWord, C_TooMany, C_BadText, C_Sample, f_BadWord___init, f_TooMany___init, f_BadText___init, f_Sample___init, fa, fa, fa⟩ : Ad)) := ⟨⟨_, ok_check_words T x_TooMany h_check_word F_check_words, b_check_words⟩, PySem.W.mg_of X G a_check_words, k_check_words⟩
  have h_in_order : Cal P w K mg base 5 f_in_order "in_order" ["words"] (sp_in_order K) := ⟨⟨_, ok_in_order T ky_order (PySem.W.mg_of X G a_order_key) F_in_order, b_in_order⟩, PySem.W.mg_of X G a_in_order, k_in_order⟩
  have n_Sample : Mkr P w K mg base 6 C_Sample "Sample" ["self", "letters", "yes", "no"] (sp_Sample___init K (⟨fa, f_check_letters, f_check_word, f_order_key, f_in_order, f_check_words, f_written, f_word_of, f_are_letters, f_sample_text, f_read_sample, f_law_start, f_law_next, f_law_integer, f_law_alphabet, f_law_word, f_law_ordered, f_law_text, f_law_good_letters, f_law_read, f_law_words_are, f_law_reads, f_law_word_at, f_law_climbing, f_law_spoilt, f_law_large, fa, C_LanguageError, C_BadLetters, C_BadWord, C_TooMany, C_BadText, C_Sample, f_BadWord___init, f_TooMany___init, f_BadText___init, f_Sample___init, fa, fa, fa⟩ : Ad)) := ⟨⟨_, _, ⟨mk1_Sample, mt_Sample___init, mk3_Sample, mk4_Sample⟩, ok_Sample___init T h_check_letters h_check_words h_in_order F_Sample___init, b_Sample___init⟩, PySem.W.mg_of X G aC_Sample⟩
  have h_read_sample : Cal P w K mg base 8 f_read_sample "read_sample" ["text"] (sp_read_sample K (⟨fa, f_check_letters, f_check_word, f_order_key, f_in_order, f_check_words, f_written, f_word_of, f_are_letters, f_sample_text, f_read_sample, f_law_start, f_law_next, f_law_integer, f_law_alphabet, f_law_word, f_law_ordered, f_law_text, f_law_good_letters, f_law_read, f_law_words_are, f_law_reads, f_law_word_at, f_law_climbing, f_law_spoilt, f_law_large, fa, C_LanguageError, C_BadLetters, C_BadWord, C_TooMany, C_BadText, C_Sample, f_BadWord___init, f_TooMany___init, f_BadText___init, f_Sample___init, fa, fa, fa⟩ : Ad)) := ⟨⟨_, ok_read_sample T x_BadText n_Sample h_are_letters h_order_key h_word_of F_read_sample, b_read_sample⟩, PySem.W.mg_of X G a_read_sample, k_read_sample⟩
  have h_written : Cal P w K mg base 1 f_written "written" ["word"] (sp_written K) := ⟨⟨_, ok_written T  F_written, b_written⟩, PySem.W.mg_of X G a_written, k_written⟩
  have h_sample_text : Cal P w K mg base 2 f_sample_text "sample_text" ["sample"] (sp_sample_text K (⟨fa, f_check_letters, f_check_word, f_order_key, f_in_order, f_check_words, f_written, f_word_of, f_are_letters, f_sample_text, f_read_sample, f_law_start, f_law_next, f_law_integer, f_law_alphabet, f_law_word, f_law_ordered, f_law_text, f_law_good_letters, f_law_read, f_law_words_are, f_law_reads, f_law_word_at, f_law_climbing, f_law_spoilt, f_law_large, fa, C_LanguageError, C_BadLetters, C_BadWord, C_TooMany, C_BadText, C_Sample, f_BadWord___init, f_TooMany___init, f_BadText___init, f_Sample___init, fa, fa, fa⟩ : Ad)) := ⟨⟨_, ok_sample_text T h_written F_sample_text, b_sample_text⟩, PySem.W.mg_of X G a_sample_text, k_sample_text⟩
  have h_law_reads : Cal P w K mg base 9 f_law_reads "_law_reads" ["text"] (sp_law_reads K) := ⟨⟨_, ok_law_reads T e_law_integer h_law_read h_law_words_are h_read_sample h_sample_text F_law_reads, b_law_reads⟩, PySem.W.mg_of X G a_law_reads, k_law_reads⟩
  have h_law_spoilt : Cal P w K mg base 2 f_law_spoilt "_law_spoilt" ["state", "text"] (sp_law_spoilt K) := ⟨⟨_, ok_law_spoilt T h_law_next F_law_spoilt, b_law_spoilt⟩, PySem.W.mg_of X G a_law_spoilt, k_law_spoilt⟩
  have h_law_start : Cal P w K mg base 1 f_law_start "_law_start" ["script"] (sp_law_start K) := ⟨⟨_, ok_law_start T  F_law_start, b_law_start⟩, PySem.W.mg_of X G a_law_start, k_law_start⟩
  exact ok_law T n_Sample h_law_alphabet h_law_large h_law_next h_law_ordered h_law_reads h_law_spoilt h_law_start h_law_text h_law_word h_sample_text F_law
theorem hCX {P : Program} {w : World} {H : Hp} {s : Shared} {e : Value} {s' : Shared} (h : L2N.CX P w [] H s (fun _ _ _ => False) e s') : False := by
  obtain ⟨_, _, _, _, _, _, _, _, _, _, _, _, z⟩ := h
  exact z
end LL
open PySem PySem.W PyProof.Rows
set_option maxRecDepth 100000 in
set_option maxHeartbeats 0 in
theorem PySem.Challenge.cw_treesfromyes_k91_texts_of_samples_holds : PySem.Challenge.rw_treesfromyes_k91_texts_of_samples.Holds := by
  w_on; o_law; k_head; (case hw => w_witness2)
  k_fill
  refine L2.walk_of (l := PySem.Challenge.rw_treesfromyes_k91_texts_of_samples) (n := 63) (k := 10) (x := "script") (CX := fun w => L2N.CX PySem.Challenge.rw_treesfromyes_k91_texts_of_samples.prog w) (sp := fun w => LL.sp_law _) rfl (by decide) rfl ⟨rfl, by decide, by decide⟩ (fun w h Y => PySem.W.kIn_of Y) ?F (fun w H a ns hl _ hS => ⟨Fw.Scr.mk ns, hl, Fw.Call.scr (fun b hb => hb) hS⟩) fun w H s e s' z => LL.hCX z
  case F =>
    intro w mg fa h KX G hmg
    refine' LL.all_mk KX G hmg ?aC_BadLetters ?aC_BadText ?aC_BadWord ?aC_LanguageError ?aC_Sample ?aC_TooMany ?mt_Sample___init ?a_check_letters ?l_check_letters ?c_check_letters ?k_check_letters ?a_check_word ?l_check_word ?c_check_word ?k_check_word ?a_order_key ?l_order_key ?c_order_key ?k_order_key ?a_in_order ?l_in_order ?c_in_order ?k_in_order ?a_check_words ?l_check_words ?c_check_words ?k_check_words ?l_Sample___init ?c_Sample___init ?k_Sample___init ?a_written ?l_written ?c_written ?k_written ?a_word_of ?l_word_of ?c_word_of ?k_word_of ?a_are_letters ?l_are_letters ?c_are_letters ?k_are_letters ?a_sample_text ?l_sample_text ?c_sample_text ?k_sample_text ?a_read_sample ?l_read_sample ?c_read_sample ?k_read_sample ?a_law_start ?l_law_start ?c_law_start ?k_law_start ?a_law_next ?l_law_next ?c_law_next ?k_law_next ?a_law_integer ?l_law_integer ?c_law_integer ?k_law_integer ?a_law_alphabet ?l_law_alphabet ?c_law_alphabet ?k_law_alphabet ?a_law_word ?l_law_word ?c_law_word ?k_law_word ?a_law_ordered ?l_law_ordered ?c_law_ordered ?k_law_ordered ?a_law_text ?l_law_text ?c_law_text ?k_law_text ?a_law_good_letters ?l_law_good_letters ?c_law_good_letters ?k_law_good_letters ?a_law_read ?l_law_read ?c_law_read ?k_law_read ?a_law_words_are ?l_law_words_are ?c_law_words_are ?k_law_words_are ?a_law_reads ?l_law_reads ?c_law_reads ?k_law_reads ?a_law_word_at ?l_law_word_at ?c_law_word_at ?k_law_word_at ?a_law_climbing ?l_law_climbing ?c_law_climbing ?k_law_climbing ?a_law_spoilt ?l_law_spoilt ?c_law_spoilt ?k_law_spoilt ?a_law_large ?l_law_large ?c_law_large ?k_law_large ?a_law ?l_law ?c_law ?k_law ?v_MOST_KINDS_OF_LETTERS ?v_MOST_LETTERS ?v_MOST_WORDS ?v_SMALL ?ex_BadLetters__BadLetters ?ex_BadText__LanguageError ?pg_Sample ?hd_Sample ?po_Sample ?sa_Sample ?ca_Sample ?ocn ?oct ?cm_Sample ?me_Sample ?kk_BadText__BadLetters ?kk_BadText__BadText ?kk_BadText__BadWord ?kk_BadText__TooMany ?z_abs ?z_all ?z_any ?z_bool ?z_enumerate ?z_int ?z_isinstance ?z_len ?z_list ?z_range ?z_sorted ?z_str ?z_tuple ?na_Sample__letters ?na_Sample__no ?na_Sample__yes ?q_BadLetters ?kp_BadLetters ?sb_BadLetters ?ty_BadLetters ?cl_BadText ?ga_BadText ?gg_BadText ?xs_BadText ?ca_BadText ?cm_BadText ?hd_BadText ?xna_BadText__line ?xL_BadText ?xB_BadText ?saX_BadText ?tyX_BadText ?kcX_BadText ?iW_BadText ?tI_BadText ?lI_BadText ?cI_BadText ?cell_BadText ?xcode_BadText ?xv_BadText ?xfl_BadText ?mW_BadText ?sW_BadText ?vW_BadText ?opq ?iniW_BadText ?topN ?zsup ?cl_BadWord ?ga_BadWord ?gg_BadWord ?xs_BadWord ?ca_BadWord ?cm_BadWord ?hd_BadWord ?xL_BadWord ?xB_BadWord ?saX_BadWord ?tyX_BadWord ?kcX_BadWord ?iW_BadWord ?tI_BadWord ?lI_BadWord ?cI_BadWord ?cell_BadWord ?xcode_BadWord ?xv_BadWord ?xfl_BadWord ?mW_BadWord ?sW_BadWord ?vW_BadWord ?iniW_BadWord ?xna_BadWord__word ?xna_BadWord__place ?cl_TooMany ?ga_TooMany ?gg_TooMany ?xs_TooMany ?ca_TooMany ?cm_TooMany ?hd_TooMany ?xL_TooMany ?xB_TooMany ?saX_TooMany ?tyX_TooMany ?kcX_TooMany ?iW_TooMany ?tI_TooMany ?lI_TooMany ?cI_TooMany ?cell_TooMany ?xcode_TooMany ?xv_TooMany ?xfl_TooMany ?mW_TooMany ?sW_TooMany ?vW_TooMany ?iniW_TooMany ?xna_TooMany__limit ?mk1_Sample ?mk3_Sample ?mk4_Sample
    (case aC_BadLetters => k_is)
    (case aC_BadText => k_is)
    (case aC_BadWord => k_is)
    (case aC_LanguageError => k_is)
    (case aC_Sample => k_is)
    (case aC_TooMany => k_is)
    (case mt_Sample___init => first | k_is | kx_is | k_exc | rfl | decide +kernel)
    (case a_check_letters => k_is)
    (case l_check_letters => k_is)
    (case c_check_letters => k_is)
    (case k_check_letters => k_is)
    (case a_check_word => k_is)
    (case l_check_word => k_is)
    (case c_check_word => k_is)
    (case k_check_word => k_is)
    (case a_order_key => k_is)
    (case l_order_key => k_is)
    (case c_order_key => k_is)
    (case k_order_key => k_is)
    (case a_in_order => k_is)
    (case l_in_order => k_is)
    (case c_in_order => k_is)
    (case k_in_order => k_is)
    (case a_check_words => k_is)
    (case l_check_words => k_is)
    (case c_check_words => k_is)
    (case k_check_words => k_is)
    (case l_Sample___init => k_is)
    (case c_Sample___init => k_is)
    (case k_Sample___init => k_is)
    (case a_written => k_is)
    (case l_written => k_is)
    (case c_written => k_is)
    (case k_written => k_is)
    (case a_word_of => k_is)
    (case l_word_of => k_is)
    (case c_word_of => k_is)
    (case k_word_of => k_is)
    (case a_are_letters => k_is)
    (case l_are_letters => k_is)
    (case c_are_letters => k_is)
    (case k_are_letters => k_is)
    (case a_sample_text => k_is)
    (case l_sample_text => k_is)
    (case c_sample_text => k_is)
    (case k_sample_text => k_is)
    (case a_read_sample => k_is)
    (case l_read_sample => k_is)
    (case c_read_sample => k_is)
    (case k_read_sample => k_is)
    (case a_law_start => k_is)
    (case l_law_start => k_is)
    (case c_law_start => k_is)
    (case k_law_start => k_is)
    (case a_law_next => k_is)
    (case l_law_next => k_is)
    (case c_law_next => k_is)
    (case k_law_next => k_is)
    (case a_law_integer => k_is)
    (case l_law_integer => k_is)
    (case c_law_integer => k_is)
    (case k_law_integer => k_is)
    (case a_law_alphabet => k_is)
    (case l_law_alphabet => k_is)
    (case c_law_alphabet => k_is)
    (case k_law_alphabet => k_is)
    (case a_law_word => k_is)
    (case l_law_word => k_is)
    (case c_law_word => k_is)
    (case k_law_word => k_is)
    (case a_law_ordered => k_is)
    (case l_law_ordered => k_is)
    (case c_law_ordered => k_is)
    (case k_law_ordered => k_is)
    (case a_law_text => k_is)
    (case l_law_text => k_is)
    (case c_law_text => k_is)
    (case k_law_text => k_is)
    (case a_law_good_letters => k_is)
    (case l_law_good_letters => k_is)
    (case c_law_good_letters => k_is)
    (case k_law_good_letters => k_is)
    (case a_law_read => k_is)
    (case l_law_read => k_is)
    (case c_law_read => k_is)
    (case k_law_read => k_is)
    (case a_law_words_are => k_is)
    (case l_law_words_are => k_is)
    (case c_law_words_are => k_is)
    (case k_law_words_are => k_is)
    (case a_law_reads => k_is)
    (case l_law_reads => k_is)
    (case c_law_reads => k_is)
    (case k_law_reads => k_is)
    (case a_law_word_at => k_is)
    (case l_law_word_at => k_is)
    (case c_law_word_at => k_is)
    (case k_law_word_at => k_is)
    (case a_law_climbing => k_is)
    (case l_law_climbing => k_is)
    (case c_law_climbing => k_is)
    (case k_law_climbing => k_is)
    (case a_law_spoilt => k_is)
    (case l_law_spoilt => k_is)
    (case c_law_spoilt => k_is)
    (case k_law_spoilt => k_is)
    (case a_law_large => k_is)
    (case l_law_large => k_is)
    (case c_law_large => k_is)
    (case k_law_large => k_is)
    (case a_law => k_is)
    (case l_law => k_is)
    (case c_law => k_is)
    (case k_law => k_is)
    (case v_MOST_KINDS_OF_LETTERS => k_is)
    (case v_MOST_LETTERS => k_is)
    (case v_MOST_WORDS => k_is)
    (case v_SMALL => k_is)
    (case ex_BadLetters__BadLetters => first | k_is | kx_is | k_exc | rfl | decide +kernel)
    (case ex_BadText__LanguageError => first | k_is | kx_is | k_exc | rfl | decide +kernel)
    (case pg_Sample => first | k_is | kx_is | k_exc | rfl | decide +kernel)
    (case hd_Sample => first | k_is | kx_is | k_exc | rfl | decide +kernel)
    (case po_Sample => first | k_is | kx_is | k_exc | rfl | decide +kernel)
    (case sa_Sample => first | k_is | kx_is | k_exc | rfl | decide +kernel)
    (case ca_Sample => first | k_is | kx_is | k_exc | rfl | decide +kernel)
    (case ocn => first | k_is | kx_is | k_exc | rfl | decide +kernel)
    (case oct => first | k_is | kx_is | k_exc | rfl | decide +kernel)
    (case cm_Sample => first | k_is | kx_is | k_exc | rfl | decide +kernel)
    (case me_Sample => first | k_is | kx_is | k_exc | rfl | decide +kernel)
    (case kk_BadText__BadLetters => first | k_is | kx_is | k_exc | rfl | decide +kernel)
    (case kk_BadText__BadText => first | k_is | kx_is | k_exc | rfl | decide +kernel)
    (case kk_BadText__BadWord => first | k_is | kx_is | k_exc | rfl | decide +kernel)
    (case kk_BadText__TooMany => first | k_is | kx_is | k_exc | rfl | decide +kernel)
    (case z_abs => k_is)
    (case z_all => k_is)
    (case z_any => k_is)
    (case z_bool => k_is)
    (case z_enumerate => k_is)
    (case z_int => k_is)
    (case z_isinstance => k_is)
    (case z_len => k_is)
    (case z_list => k_is)
    (case z_range => k_is)
    (case z_sorted => k_is)
    (case z_str => k_is)
    (case z_tuple => k_is)
    (case na_Sample__letters => first | k_is | kx_is | k_exc | rfl | decide +kernel)
    (case na_Sample__no => first | k_is | kx_is | k_exc | rfl | decide +kernel)
    (case na_Sample__yes => first | k_is | kx_is | k_exc | rfl | decide +kernel)
    (case q_BadLetters => k_exc)
    (case kp_BadLetters => k_is)
    (case sb_BadLetters => k_is)
    (case ty_BadLetters => k_is)
    (case cl_BadText => first | k_is | kx_is | k_exc | rfl | decide +kernel)
    (case ga_BadText => first | k_is | kx_is | k_exc | rfl | decide +kernel)
    (case gg_BadText => first | k_is | kx_is | k_exc | rfl | decide +kernel)
    (case xs_BadText => first | k_is | kx_is | k_exc | rfl | decide +kernel)
    (case ca_BadText => first | k_is | kx_is | k_exc | rfl | decide +kernel)
    (case cm_BadText => first | k_is | kx_is | k_exc | rfl | decide +kernel)
    (case hd_BadText => first | k_is | kx_is | k_exc | rfl | decide +kernel)
    (case xna_BadText__line => first | k_is | kx_is | k_exc | rfl | decide +kernel)
    (case xL_BadText => k_is)
    (case xB_BadText => first | k_is | kx_is | k_exc | rfl | decide +kernel)
    (case saX_BadText => first | k_is | kx_is | k_exc | rfl | decide +kernel)
    (case tyX_BadText => first | k_is | kx_is | k_exc | rfl | decide +kernel)
    (case kcX_BadText => first | k_is | kx_is | k_exc | rfl | decide +kernel)
    (case iW_BadText => first | k_is | kx_is | k_exc | rfl | decide +kernel)
    (case tI_BadText => first | k_is | kx_is | k_exc | rfl | decide +kernel)
    (case lI_BadText => k_is)
    (case cI_BadText => k_is)
    (case cell_BadText => k_is)
    (case xcode_BadText => k_is)
    (case xv_BadText => first | k_is | kx_is | k_exc | rfl | decide +kernel)
    (case xfl_BadText => first | k_is | kx_is | k_exc | rfl | decide +kernel)
    (case mW_BadText => first | k_is | kx_is | k_exc | rfl | decide +kernel)
    (case sW_BadText => first | k_is | kx_is | k_exc | rfl | decide +kernel)
    (case vW_BadText => first | k_is | kx_is | k_exc | rfl | decide +kernel)
    (case opq => first | k_is | kx_is | k_exc | rfl | decide +kernel)
    (case iniW_BadText => first | k_is | kx_is | k_exc | rfl | decide +kernel)
    (case topN => first | k_is | kx_is | k_exc | rfl | decide +kernel)
    (case zsup => first | k_is | kx_is | k_exc | rfl | decide +kernel)
    (case cl_BadWord => first | k_is | kx_is | k_exc | rfl | decide +kernel)
    (case ga_BadWord => first | k_is | kx_is | k_exc | rfl | decide +kernel)
    (case gg_BadWord => first | k_is | kx_is | k_exc | rfl | decide +kernel)
    (case xs_BadWord => first | k_is | kx_is | k_exc | rfl | decide +kernel)
    (case ca_BadWord => first | k_is | kx_is | k_exc | rfl | decide +kernel)
    (case cm_BadWord => first | k_is | kx_is | k_exc | rfl | decide +kernel)
    (case hd_BadWord => first | k_is | kx_is | k_exc | rfl | decide +kernel)
    (case xL_BadWord => k_is)
    (case xB_BadWord => first | k_is | kx_is | k_exc | rfl | decide +kernel)
    (case saX_BadWord => first | k_is | kx_is | k_exc | rfl | decide +kernel)
    (case tyX_BadWord => first | k_is | kx_is | k_exc | rfl | decide +kernel)
    (case kcX_BadWord => first | k_is | kx_is | k_exc | rfl | decide +kernel)
    (case iW_BadWord => first | k_is | kx_is | k_exc | rfl | decide +kernel)
    (case tI_BadWord => first | k_is | kx_is | k_exc | rfl | decide +kernel)
    (case lI_BadWord => k_is)
    (case cI_BadWord => k_is)
    (case cell_BadWord => k_is)
    (case xcode_BadWord => k_is)
    (case xv_BadWord => first | k_is | kx_is | k_exc | rfl | decide +kernel)
    (case xfl_BadWord => first | k_is | kx_is | k_exc | rfl | decide +kernel)
    (case mW_BadWord => first | k_is | kx_is | k_exc | rfl | decide +kernel)
    (case sW_BadWord => first | k_is | kx_is | k_exc | rfl | decide +kernel)
    (case vW_BadWord => first | k_is | kx_is | k_exc | rfl | decide +kernel)
    (case iniW_BadWord => first | k_is | kx_is | k_exc | rfl | decide +kernel)
    (case xna_BadWord__word => first | k_is | kx_is | k_exc | rfl | decide +kernel)
    (case xna_BadWord__place => first | k_is | kx_is | k_exc | rfl | decide +kernel)
    (case cl_TooMany => first | k_is | kx_is | k_exc | rfl | decide +kernel)
    (case ga_TooMany => first | k_is | kx_is | k_exc | rfl | decide +kernel)
    (case gg_TooMany => first | k_is | kx_is | k_exc | rfl | decide +kernel)
    (case xs_TooMany => first | k_is | kx_is | k_exc | rfl | decide +kernel)
    (case ca_TooMany => first | k_is | kx_is | k_exc | rfl | decide +kernel)
    (case cm_TooMany => first | k_is | kx_is | k_exc | rfl | decide +kernel)
    (case hd_TooMany => first | k_is | kx_is | k_exc | rfl | decide +kernel)
    (case xL_TooMany => k_is)
    (case xB_TooMany => first | k_is | kx_is | k_exc | rfl | decide +kernel)
    (case saX_TooMany => first | k_is | kx_is | k_exc | rfl | decide +kernel)
    (case tyX_TooMany => first | k_is | kx_is | k_exc | rfl | decide +kernel)
    (case kcX_TooMany => first | k_is | kx_is | k_exc | rfl | decide +kernel)
    (case iW_TooMany => first | k_is | kx_is | k_exc | rfl | decide +kernel)
    (case tI_TooMany => first | k_is | kx_is | k_exc | rfl | decide +kernel)
    (case lI_TooMany => k_is)
    (case cI_TooMany => k_is)
    (case cell_TooMany => k_is)
    (case xcode_TooMany => k_is)
    (case xv_TooMany => first | k_is | kx_is | k_exc | rfl | decide +kernel)
    (case xfl_TooMany => first | k_is | kx_is | k_exc | rfl | decide +kernel)
    (case mW_TooMany => first | k_is | kx_is | k_exc | rfl | decide +kernel)
    (case sW_TooMany => first | k_is | kx_is | k_exc | rfl | decide +kernel)
    (case vW_TooMany => first | k_is | kx_is | k_exc | rfl | decide +kernel)
    (case iniW_TooMany => first | k_is | kx_is | k_exc | rfl | decide +kernel)
    (case xna_TooMany__limit => first | k_is | kx_is | k_exc | rfl | decide +kernel)
    (case mk1_Sample => first | k_is | kx_is | k_exc | rfl | decide +kernel)
    (case mk3_Sample => first | k_is | kx_is | k_exc | rfl | decide +kernel)
    (case mk4_Sample => first | k_is | kx_is | k_exc | rfl | decide +kernel)

