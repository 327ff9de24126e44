import PyProof.Rows.All
import Wide.All
import OpenK.AllK
import Wide.FinOn
import HandS.ForMost
import HandS.Exc
import HandS.ExcOwn
import HandS.TryOnly
import HandS.WordsExc
import HandS.IsInst
import HandS.TupAny
import HandS.Deep
import HandS.Wide
import HandS.Conv
import HandS.Codes
import HandS.DeepEq
import HandS.Style
import HandS.TupSets
import HandS.SortRule
import KE.KDictSum
import PySem.Challenge.RW_jughouse_k06_whole_two_jugs
set_option Elab.async false
set_option linter.all false
set_option maxRecDepth 100000
set_option maxHeartbeats 4000000
/-! J: an abstract store of pure data with ownership, over the hand layer. -/
namespace J
open PySem PySem.Spec L2

/-- every tuple of H stands in F -/
def TupIn (F H : Hp) : Prop := ∀ a vs, H a = some (.tup vs) → F a = some (.tup vs)
/-! ### heaps: F is the part of H that never changes any more -/
structure Grow (F H F' H' : Hp) : Prop where
  ff : Same F F'
  hh : Same H H'
  fh : Same F' H'
  nw : ∀ a, H a ≠ none → F a = none → F' a = none
  tt : TupIn F H → TupIn F' H'
theorem Grow.refl {F H : Hp} (fh : Same F H) : Grow F H F H := ⟨Same.refl F, Same.refl H, fh, fun _ _ h => h, fun t => t⟩
theorem Grow.trans {F H F1 H1 F2 H2 : Hp} (a : Grow F H F1 H1) (b : Grow F1 H1 F2 H2) : Grow F H F2 H2 :=
  ⟨a.ff.trans b.ff, a.hh.trans b.hh, b.fh, fun x h n => b.nw x (fun e => h (a.hh.free e)) (a.nw x h n), fun t => b.tt (a.tt t)⟩
theorem same_upd {H : Hp} {p : Addr} {o : HO} (h : H p = none) : Same H (upd H p o) := fun b u e => by
  rw [upd_ne (ne_of_none e h)]
  exact e
theorem same_updR {F H : Hp} {p : Addr} {o : HO} (s : Same F H) (h : F p = none) : Same F (upd H p o) := fun b u e => by
  rw [upd_ne (ne_of_none e h)]
  exact s b u e
/-- a new object, not yet in F -/
theorem tt_upd {F H : Hp} {p : Addr} {o : HO} (t : TupIn F H) (hn : ∀ vs, o ≠ .tup vs) : TupIn F (upd H p o) := fun a vs e => by
  by_cases ha : a = p
  · subst ha
    rw [upd_same] at e
    exact absurd (Option.some.inj e) (hn vs)
  · rw [upd_ne ha] at e
    exact t a vs e
theorem Grow.newH {F H : Hp} {p : Addr} {o : HO} (fh : Same F H) (h : H p = none) (hn : ∀ vs, o ≠ .tup vs := by intro _ h; cases h) : Grow F H F (upd H p o) :=
  ⟨Same.refl F, same_upd h, same_updR fh (fh.free h), fun _ _ n => n, fun t => tt_upd t hn⟩
/-- a new object, in F at once -/
theorem Grow.newF {F H : Hp} {p : Addr} {o : HO} (fh : Same F H) (h : H p = none) : Grow F H (upd F p o) (upd H p o) := by
  refine ⟨same_upd (fh.free h), same_upd h, fun b u e => ?_, fun a ha n => ?_, fun t a vs e => ?_⟩
  · by_cases hb : b = p
    · subst hb
      rw [upd_same] at e ⊢
      exact e
    · rw [upd_ne hb] at e ⊢
      exact fh b u e
  · have hne : a ≠ p := fun e => ha (by rw [e]; exact h)
    rw [upd_ne hne]
    exact n
  · by_cases ha : a = p
    · subst ha
      rw [upd_same] at e ⊢
      exact e
    · rw [upd_ne ha] at e ⊢
      exact t a vs e
/-- freezing what is new since (F, H) -/
theorem Grow.freeze {F H F' H' : Hp} {p : Addr} {o : HO} (g : Grow F H F' H') (h : H p = none) (hf : F' p = none) (hp : H' p = some o) : Grow F H (upd F' p o) H' := by
  refine ⟨g.ff.trans (same_upd hf), g.hh, fun b u e => ?_, fun a ha n => ?_, fun t a vs e => same_upd hf _ _ (g.tt t a vs e)⟩
  · by_cases hb : b = p
    · subst hb
      rw [upd_same] at e
      rw [← e]
      exact hp
    · rw [upd_ne hb] at e
      exact g.fh b u e
  · have hne : a ≠ p := fun e => ha (by rw [e]; exact h)
    rw [upd_ne hne]
    exact g.nw a ha n

/-! ### what a value is, what an object is -/
structure Slot where
  P : Hp → V → Prop
  mono : ∀ {H H' : Hp} {v : V}, Same H H' → P H v → P H' v
structure Own where
  P : Hp → Addr → HO → Prop
  mono : ∀ {H H' : Hp} {a : Addr} {o : HO}, Same H H' → P H a o → P H' a o
/-- a constant -/
def kS (x : V) : Slot := ⟨fun _ v => v = x, fun _ h => h⟩
abbrev iS (i : Int) : Slot := kS (.int i)
abbrev bS (b : Bool) : Slot := kS (.bl b)
abbrev sS (s : Str) : Slot := kS (.str s)
abbrev nS : Slot := kS .non
/-- what stands for ever at an address -/
def refS (o : Own) : Slot := ⟨fun F v => ∃ a ho, v = .ref a ∧ F a = some ho ∧ o.P F a ho, fun {H H' v} s ⟨a, ho, e, h, p⟩ => ⟨a, ho, e, s a _ h, o.mono s p⟩⟩
abbrev PairS (F : Hp) : List V → List Slot → Prop := Paired fun v S => S.P F v
theorem PairS.mono {F F' : Hp} {vs : List V} {ss : List Slot} (s : Same F F') (h : PairS F vs ss) : PairS F' vs ss := Paired.mapP h fun _ S p => S.mono s p
def lstO (ss : List Slot) : Own := ⟨fun F _ ho => ∃ vs, ho = .lst vs ∧ PairS F vs ss, fun s ⟨vs, e, p⟩ => ⟨vs, e, PairS.mono s p⟩⟩
def tupO (ss : List Slot) : Own := ⟨fun F _ ho => ∃ vs, ho = .tup vs ∧ PairS F vs ss, fun s ⟨vs, e, p⟩ => ⟨vs, e, PairS.mono s p⟩⟩
abbrev PairF (F : Hp) : List (Str × V) → List (Str × Slot) → Prop := Paired fun p q => p.1 = q.1 ∧ q.2.P F p.2
def insO (C : Addr) (fs : List (Str × Slot)) : Own :=
  ⟨fun F _ ho => ∃ dx fv, ho = .ins C dx fv ∧ PairF F fv fs, fun s ⟨dx, fv, e, p⟩ => ⟨dx, fv, e, Paired.mapP p fun _ q z => ⟨z.1, q.2.mono s z.2⟩⟩⟩
/-- a dict with tuple keys (the empty one is both), with keys that are ints or texts -/
def dicO (kvs : List (List Key × Slot)) : Own :=
  ⟨fun F _ ho => ∃ kv, ho = .dT kv ∧ Paired (fun (p : List Key × V) (q : List Key × Slot) => p.1 = q.1 ∧ q.2.P F p.2) kv kvs, fun s ⟨kv, e, p⟩ => ⟨kv, e, Paired.mapP p fun _ q z => ⟨z.1, q.2.mono s z.2⟩⟩⟩
def dikO (kvs : List (Key × Slot)) : Own :=
  ⟨fun F _ ho => ∃ kv, ho = .dK kv ∧ Paired (fun (p : Key × V) (q : Key × Slot) => p.1 = q.1 ∧ q.2.P F p.2) kv kvs, fun s ⟨kv, e, p⟩ => ⟨kv, e, Paired.mapP p fun _ q z => ⟨z.1, q.2.mono s z.2⟩⟩⟩
abbrev lstS (ss : List Slot) : Slot := refS (lstO ss)
abbrev tupS (ss : List Slot) : Slot := refS (tupO ss)
abbrev objS (C : Addr) (fs : List (Str × Slot)) : Slot := refS (insO C fs)

/-! ### the abstract store -/
inductive Ent where
  | un
  | v (S : Slot)
  /-- one's own: may be changed -/
  | ow (o : Own)
  /-- lent: stands as it is while the call runs -/
  | bo (o : Own)
def ArgOk (F H : Hp) (v : V) : Ent → Prop
  | .v S => S.P F v
  | .bo o => ∃ p ho, v = .ref p ∧ H p = some ho ∧ o.P F p ho
  | _ => False
theorem ArgOk.grow {F H F' H' : Hp} {v : V} {e : Ent} (g : Grow F H F' H') (h : ArgOk F H v e) : ArgOk F' H' v e := by
  cases e with
  | un => exact h
  | v S => exact S.mono g.ff h
  | ow o => exact h
  | bo o =>
    obtain ⟨p, ho, e, hp, q⟩ := h
    exact ⟨p, ho, e, g.hh p _ hp, o.mono g.ff q⟩
structure St (F0 H0 F H : Hp) (σ : L2.St) (δ : List Ent) : Prop where
  g : Grow F0 H0 F H
  len : σ.length = δ.length
  at_ : ∀ (i : Nat) (S : Slot), δ[i]? = some (.v S) → ∃ v, σ[i]? = some (some v) ∧ S.P F v
  ow : ∀ (i : Nat) (o : Own), δ[i]? = some (.ow o) → ∃ p ho, σ[i]? = some (some (.ref p)) ∧ H0 p = none ∧ F p = none ∧ H p = some ho ∧ o.P F p ho
  bo : ∀ (i : Nat) (o : Own), δ[i]? = some (.bo o) → ∃ p ho, σ[i]? = some (some (.ref p)) ∧ H0 p = some ho ∧ o.P F p ho
  sep : ∀ (i j : Nat) (o o' : Own) (p : Addr), i ≠ j → δ[i]? = some (.ow o) → δ[j]? = some (.ow o') → σ[i]? = some (some (.ref p)) → σ[j]? = some (some (.ref p)) → False
  tt : TupIn F H
section
variable {F0 H0 F H F' H' : Hp} {σ : L2.St} {δ : List Ent}
theorem St.fh (s : St F0 H0 F H σ δ) : Same F H := s.g.fh
theorem St.grow (s : St F0 H0 F H σ δ) (g : Grow F H F' H') : St F0 H0 F' H' σ δ where
  g := s.g.trans g
  len := s.len
  at_ := fun i S h => let ⟨v, e, p⟩ := s.at_ i S h; ⟨v, e, S.mono g.ff p⟩
  ow := fun i o h => let ⟨p, ho, e, h0, hf, hp, q⟩ := s.ow i o h; ⟨p, ho, e, h0, g.nw p (by rw [hp]; exact fun z => nomatch z) hf, g.hh p _ hp, o.mono g.ff q⟩
  bo := fun i o h => let ⟨p, ho, e, hp, q⟩ := s.bo i o h; ⟨p, ho, e, hp, o.mono g.ff q⟩
  sep := s.sep
  tt := g.tt s.tt
/-- F0 taken anew -/
def Base (F0 H0 F1 : Hp) : Prop := ∀ {F' H' : Hp}, Grow F1 H0 F' H' → Grow F0 H0 F' H'
theorem St.base (s : St F0 H0 F H σ δ) : Base F0 H0 F := fun g => ⟨s.g.ff.trans g.ff, g.hh, g.fh, fun a h n => g.nw a h (s.g.nw a h n), fun t => g.tt fun a vs e => s.g.ff a _ (t a vs e)⟩
theorem St.rebase (s : St F0 H0 F H σ δ) : St F H0 F H σ δ := ⟨⟨Same.refl F, s.g.hh, s.g.fh, fun _ _ n => n, fun _ => s.tt⟩, s.len, s.at_, s.ow, s.bo, s.sep, s.tt⟩
theorem St.unbase {F1 : Hp} (b : Base F0 H0 F1) (s : St F1 H0 F H σ δ) : St F0 H0 F H σ δ := ⟨b s.g, s.len, s.at_, s.ow, s.bo, s.sep, s.tt⟩
theorem get_set {α : Type} {l : List α} {i j : Nat} {x y : α} (h : (l.set i x)[j]? = some y) : (j = i ∧ y = x ∧ i < l.length) ∨ (j ≠ i ∧ l[j]? = some y) := by
  by_cases e : j = i
  · subst e
    have hl : j < l.length := by
      have := (List.getElem?_eq_some_iff.mp h).1
      rwa [List.length_set] at this
    rw [List.getElem?_set_self hl] at h
    exact .inl ⟨rfl, (Option.some.inj h).symm, hl⟩
  · rw [List.getElem?_set_ne (fun z => e z.symm)] at h
    exact .inr ⟨e, h⟩
theorem St.set_v (s : St F0 H0 F H σ δ) {i : Nat} {v : V} {S : Slot} (p : S.P F v) : St F0 H0 F H (σ.set i (some v)) (δ.set i (.v S)) where
  g := s.g
  tt := s.tt
  len := by rw [List.length_set, List.length_set]; exact s.len
  at_ := fun j S' h => by
    rcases get_set h with ⟨rfl, e, hl⟩ | ⟨ne, h⟩
    · cases e
      exact ⟨v, List.getElem?_set_self (by rw [s.len]; exact hl), p⟩
    · obtain ⟨w, e, q⟩ := s.at_ j S' h
      exact ⟨w, by rw [List.getElem?_set_ne (fun z => ne z.symm)]; exact e, q⟩
  ow := fun j o h => by
    rcases get_set h with ⟨rfl, e, hl⟩ | ⟨ne, h⟩
    · cases e
    · obtain ⟨w, ho, e, q⟩ := s.ow j o h
      exact ⟨w, ho, by rw [List.getElem?_set_ne (fun z => ne z.symm)]; exact e, q⟩
  bo := fun j o h => by
    rcases get_set h with ⟨rfl, e, hl⟩ | ⟨ne, h⟩
    · cases e
    · obtain ⟨w, ho, e, q⟩ := s.bo j o h
      exact ⟨w, ho, by rw [List.getElem?_set_ne (fun z => ne z.symm)]; exact e, q⟩
  sep := fun j k o o' a ne h1 h2 h3 h4 => by
    rcases get_set h1 with ⟨rfl, e, hl⟩ | ⟨ne1, h1⟩
    · cases e
    · rcases get_set h2 with ⟨rfl, e, hl⟩ | ⟨ne2, h2⟩
      · cases e
      · rw [List.getElem?_set_ne (fun z => ne1 z.symm)] at h3
        rw [List.getElem?_set_ne (fun z => ne2 z.symm)] at h4
        exact s.sep j k o o' a ne h1 h2 h3 h4
/-- a slot forgotten -/
theorem St.set_un (s : St F0 H0 F H σ δ) {i : Nat} (x : Option V) : St F0 H0 F H (σ.set i x) (δ.set i .un) where
  g := s.g
  tt := s.tt
  len := by rw [List.length_set, List.length_set]; exact s.len
  at_ := fun j S' h => by
    rcases get_set h with ⟨rfl, e, hl⟩ | ⟨ne, h⟩
    · cases e
    · obtain ⟨w, e, q⟩ := s.at_ j S' h
      exact ⟨w, by rw [List.getElem?_set_ne (fun z => ne z.symm)]; exact e, q⟩
  ow := fun j o h => by
    rcases get_set h with ⟨rfl, e, hl⟩ | ⟨ne, h⟩
    · cases e
    · obtain ⟨w, ho, e, q⟩ := s.ow j o h
      exact ⟨w, ho, by rw [List.getElem?_set_ne (fun z => ne z.symm)]; exact e, q⟩
  bo := fun j o h => by
    rcases get_set h with ⟨rfl, e, hl⟩ | ⟨ne, h⟩
    · cases e
    · obtain ⟨w, ho, e, q⟩ := s.bo j o h
      exact ⟨w, ho, by rw [List.getElem?_set_ne (fun z => ne z.symm)]; exact e, q⟩
  sep := fun j k o o' a ne h1 h2 h3 h4 => by
    rcases get_set h1 with ⟨rfl, e, hl⟩ | ⟨ne1, h1⟩
    · cases e
    · rcases get_set h2 with ⟨rfl, e, hl⟩ | ⟨ne2, h2⟩
      · cases e
      · rw [List.getElem?_set_ne (fun z => ne1 z.symm)] at h3
        rw [List.getElem?_set_ne (fun z => ne2 z.symm)] at h4
        exact s.sep j k o o' a ne h1 h2 h3 h4
/-- a new object given to a slot -/
theorem St.set_ow (s : St F0 H0 F H σ δ) {i : Nat} {p : Addr} {ho : HO} {o : Own} (g : Grow F H F' H') (hn : H p = none) (hf : F' p = none) (hp : H' p = some ho) (q : o.P F' p ho) :
    St F0 H0 F' H' (σ.set i (some (.ref p))) (δ.set i (.ow o)) where
  g := s.g.trans g
  tt := g.tt s.tt
  len := by rw [List.length_set, List.length_set]; exact s.len
  at_ := fun j S' h => by
    rcases get_set h with ⟨rfl, e, hl⟩ | ⟨ne, h⟩
    · cases e
    · obtain ⟨w, e, q⟩ := (s.grow g).at_ j S' h
      exact ⟨w, by rw [List.getElem?_set_ne (fun z => ne z.symm)]; exact e, q⟩
  ow := fun j o' h => by
    rcases get_set h with ⟨rfl, e, hl⟩ | ⟨ne, h⟩
    · cases e
      exact ⟨p, ho, List.getElem?_set_self (by rw [s.len]; exact hl), s.g.hh.free hn, hf, hp, q⟩
    · obtain ⟨w, ho, e, q⟩ := (s.grow g).ow j o' h
      exact ⟨w, ho, by rw [List.getElem?_set_ne (fun z => ne z.symm)]; exact e, q⟩
  bo := fun j o h => by
    rcases get_set h with ⟨rfl, e, hl⟩ | ⟨ne, h⟩
    · cases e
    · obtain ⟨w, ho, e, q⟩ := (s.grow g).bo j o h
      exact ⟨w, ho, by rw [List.getElem?_set_ne (fun z => ne z.symm)]; exact e, q⟩
  sep := fun j k o1 o2 a ne h1 h2 h3 h4 => by
    have away : ∀ {m : Nat} {o3 : Own}, δ[m]? = some (.ow o3) → σ[m]? = some (some (V.ref p)) → False := fun {m o3} hm hs => by
      obtain ⟨w, hw, e, _, _, hh, _⟩ := s.ow m o3 hm
      rw [hs] at e
      cases e
      rw [hn] at hh
      cases hh
    rcases get_set h1 with ⟨z1, e, hl⟩ | ⟨ne1, g1⟩
    · rcases get_set h2 with ⟨z2, e', hl'⟩ | ⟨ne2, g2⟩
      · exact ne (z1.trans z2.symm)
      · rw [z1, List.getElem?_set_self (by rw [s.len]; exact hl)] at h3
        rw [List.getElem?_set_ne (fun z => ne2 z.symm)] at h4
        cases h3
        exact away g2 h4
    · rw [List.getElem?_set_ne (fun z => ne1 z.symm)] at h3
      rcases get_set h2 with ⟨z2, e', hl'⟩ | ⟨ne2, g2⟩
      · rw [z2, List.getElem?_set_self (by rw [s.len]; exact hl')] at h4
        cases h4
        exact away g1 h3
      · rw [List.getElem?_set_ne (fun z => ne2 z.symm)] at h4
        exact s.sep j k o1 o2 a ne g1 g2 h3 h4
/-- an own object changed -/
theorem St.mut (s : St F0 H0 F H σ δ) {i : Nat} {p : Addr} {ho : HO} {o o' : Own} (hi : δ[i]? = some (.ow o)) (hs : σ[i]? = some (some (.ref p))) (q : o'.P F p ho) (hn : ∀ vs, ho ≠ .tup vs := by intro _ h; cases h) :
    St F0 H0 F (upd H p ho) σ (δ.set i (.ow o')) := by
  obtain ⟨p', ho', e, h0, hf, hp, _⟩ := s.ow i o hi
  rw [hs] at e
  cases e
  have hl : i < δ.length := (List.getElem?_eq_some_iff.mp hi).1
  refine ⟨⟨s.g.ff, same_updR s.g.hh h0, same_updR s.g.fh hf, s.g.nw, fun _ => tt_upd s.tt hn⟩, by rw [List.length_set]; exact s.len, fun j S' h => ?_, fun j o2 h => ?_, fun j o2 h => ?_, fun j k o1 o2 a ne h1 h2 h3 h4 => ?_, tt_upd s.tt hn⟩
  · rcases get_set h with ⟨rfl, e, _⟩ | ⟨ne, h⟩
    · cases e
    · exact s.at_ j S' h
  · rcases get_set h with ⟨rfl, e, _⟩ | ⟨ne, h⟩
    · cases e
      exact ⟨p, ho, hs, h0, hf, upd_same, q⟩
    · obtain ⟨w, ho2, e, z0, zf, zp, zq⟩ := s.ow j o2 h
      have hne : w ≠ p := fun z => by
        subst z
        exact s.sep j i o2 o w ne h hi e hs
      exact ⟨w, ho2, e, z0, zf, by rw [upd_ne hne]; exact zp, zq⟩
  · rcases get_set h with ⟨rfl, e, _⟩ | ⟨ne, h⟩
    · cases e
    · exact s.bo j o2 h
  · have h1' : ∃ o3, δ[j]? = some (.ow o3) := by
      rcases get_set h1 with ⟨rfl, e, _⟩ | ⟨_, h⟩
      · exact ⟨o, hi⟩
      · exact ⟨o1, h⟩
    have h2' : ∃ o3, δ[k]? = some (.ow o3) := by
      rcases get_set h2 with ⟨rfl, e, _⟩ | ⟨_, h⟩
      · exact ⟨o, hi⟩
      · exact ⟨o2, h⟩
    obtain ⟨o3, h1'⟩ := h1'
    obtain ⟨o4, h2'⟩ := h2'
    exact s.sep j k o3 o4 a ne h1' h2' h3 h4
/-- an own object never changed any more -/
theorem St.freeze (s : St F0 H0 F H σ δ) {i : Nat} {o : Own} (hi : δ[i]? = some (.ow o)) : ∃ F', St F0 H0 F' H σ (δ.set i (.v (refS o))) := by
  obtain ⟨p, ho, hs, h0, hf, hp, q⟩ := s.ow i o hi
  have hl : i < δ.length := (List.getElem?_eq_some_iff.mp hi).1
  have sm : Same F (upd F p ho) := same_upd hf
  refine ⟨upd F p ho, s.g.freeze h0 hf hp, by rw [List.length_set]; exact s.len, fun j S' h => ?_, fun j o2 h => ?_, fun j o2 h => ?_, fun j k o1 o2 a ne h1 h2 h3 h4 => ?_, fun a vs e => sm _ _ (s.tt a vs e)⟩
  · rcases get_set h with ⟨rfl, e, _⟩ | ⟨ne, h⟩
    · cases e
      exact ⟨.ref p, hs, p, ho, rfl, upd_same, o.mono sm q⟩
    · obtain ⟨w, e, q⟩ := s.at_ j S' h
      exact ⟨w, e, S'.mono sm q⟩
  · rcases get_set h with ⟨rfl, e, _⟩ | ⟨ne, h⟩
    · cases e
    · obtain ⟨w, ho2, e, z0, zf, zp, zq⟩ := s.ow j o2 h
      have hne : w ≠ p := fun z => by
        subst z
        exact s.sep j i o2 o w ne h hi e hs
      exact ⟨w, ho2, e, z0, by rw [upd_ne hne]; exact zf, zp, o2.mono sm zq⟩
  · rcases get_set h with ⟨rfl, e, _⟩ | ⟨ne, h⟩
    · cases e
    · obtain ⟨w, ho2, e, z0, zq⟩ := s.bo j o2 h
      exact ⟨w, ho2, e, z0, o2.mono sm zq⟩
  · rcases get_set h1 with ⟨rfl, e, _⟩ | ⟨_, h1⟩
    · cases e
    · rcases get_set h2 with ⟨rfl, e, _⟩ | ⟨_, h2⟩
      · cases e
      · exact s.sep j k o1 o2 a ne h1 h2 h3 h4
end
end J

namespace J
open PySem PySem.Spec L2

/-! ### judgements -/
/-- an expression gives what e says -/
def EvE (te : TE) (δ : List Ent) (e : Ent) : Prop := ∀ (F0 H0 F H : Hp) (σ : L2.St), St F0 H0 F H σ δ → ∀ Q : VK, (∀ v F' H', Grow F H F' H' → ArgOk F' H' v e → Q v H') → te σ H Q
/-- .. a new object -/
def EvO (te : TE) (δ : List Ent) (o : Own) : Prop := ∀ (F0 H0 F H : Hp) (σ : L2.St), St F0 H0 F H σ δ → ∀ Q : VK, (∀ p ho F' H', Grow F H F' H' → H p = none → F' p = none → H' p = some ho → o.P F' p ho → Q (.ref p) H') → te σ H Q
def EvT (tt : TT) (δ : List Ent) (b : Bool) : Prop := ∀ (F0 H0 F H : Hp) (σ : L2.St), St F0 H0 F H σ δ → ∀ Q : Bool → Hp → Prop, (∀ F' H', Grow F H F' H' → Q b H') → tt σ H Q
def EvAs (ta : TA) (δ : List Ent) (es : List Ent) : Prop := ∀ (F0 H0 F H : Hp) (σ : L2.St), St F0 H0 F H σ δ → ∀ Q : List V → Hp → Prop, (∀ vs F' H', Grow F H F' H' → Paired (ArgOk F' H') vs es → Q vs H') → ta σ H Q
/-- .. raises: E is the wish -/
def EvX (te : TE) (δ : List Ent) (E : XK) (c : Addr) : Prop := ∀ (F0 H0 F H : Hp) (σ : L2.St), St F0 H0 F H σ δ → (∀ F' H', Grow F H F' H' → E (.ref c) none H') → ∀ Q : VK, te σ H Q
section
variable {te ta tb : TE} {tt tu : TT} {δ : List Ent} {e e1 e2 e3 : Ent} {o : Own} {S : Slot}
theorem EvO.v (h : EvO te δ o) : EvE te δ (.v (refS o)) := fun F0 H0 F H σ s Q q => h F0 H0 F H σ s Q fun p ho F' H' g hn hf hp ho' =>
  q _ (upd F' p ho) H' (g.freeze hn hf hp) ⟨p, ho, rfl, upd_same, o.mono (same_upd hf) ho'⟩
theorem EvO.b (h : EvO te δ o) : EvE te δ (.bo o) := fun F0 H0 F H σ s Q q => h F0 H0 F H σ s Q fun p ho F' H' g hn hf hp ho' => q _ F' H' g ⟨p, ho, rfl, hp, ho'⟩
theorem EvE.b (h : EvE te δ (.v (refS o))) : EvE te δ (.bo o) := fun F0 H0 F H σ s Q q => h F0 H0 F H σ s Q fun v F' H' g ⟨p, ho, e, hp, z⟩ => q v F' H' g ⟨p, ho, e, g.fh p _ hp, z⟩
theorem EvE.to (h : EvE te δ e) (k : e = e1) : EvE te δ e1 := k ▸ h
theorem EvO.to {o' : Own} (h : EvO te δ o) (k : o = o') : EvO te δ o' := k ▸ h
theorem EvT.to {a b : Bool} (h : EvT tt δ a) (k : a = b) : EvT tt δ b := k ▸ h
/-- names -/
theorem ev_v {i : Nat} (h : δ[i]? = some (.v S)) : EvE (tVar i) δ (.v S) := fun F0 H0 F H σ s Q q => let ⟨v, e, p⟩ := s.at_ i S h; ⟨v, e, q v F H (Grow.refl s.fh) p⟩
theorem ev_ow {i : Nat} (h : δ[i]? = some (.ow o)) : EvE (tVar i) δ (.bo o) := fun F0 H0 F H σ s Q q => let ⟨p, ho, e, _, _, hp, z⟩ := s.ow i o h; ⟨.ref p, e, q _ F H (Grow.refl s.fh) ⟨p, ho, rfl, hp, z⟩⟩
theorem ev_bo {i : Nat} (h : δ[i]? = some (.bo o)) : EvE (tVar i) δ (.bo o) := fun F0 H0 F H σ s Q q =>
  let ⟨p, ho, e, hp, z⟩ := s.bo i o h
  ⟨.ref p, e, q _ F H (Grow.refl s.fh) ⟨p, ho, rfl, s.g.hh p _ hp, z⟩⟩
theorem ev_c {v : V} : EvE (tC v) δ (.v (kS v)) := fun F0 H0 F H σ s Q q => q v F H (Grow.refl s.fh) rfl

/-! ### operators on values -/
def OpE (r : R2) (e1 e2 e3 : Ent) : Prop := ∀ (F H : Hp) (x y : V), Same F H → ArgOk F H x e1 → ArgOk F H y e2 → ∀ Q : VK, (∀ v F' H', Grow F H F' H' → ArgOk F' H' v e3 → Q v H') → r x y H Q
def OpO (r : R2) (e1 e2 : Ent) (o : Own) : Prop := ∀ (F H : Hp) (x y : V), Same F H → ArgOk F H x e1 → ArgOk F H y e2 → ∀ Q : VK, (∀ p ho F' H', Grow F H F' H' → H p = none → F' p = none → H' p = some ho → o.P F' p ho → Q (.ref p) H') → r x y H Q
theorem ev_op {r : R2} (ha : EvE ta δ e1) (hb : EvE tb δ e2) (hr : OpE r e1 e2 e3) : EvE (tOp r ta tb) δ e3 := fun F0 H0 F H σ s Q q =>
  ha F0 H0 F H σ s _ fun x F1 H1 g1 a1 => hb F0 H0 F1 H1 σ (s.grow g1) _ fun y F2 H2 g2 a2 => hr F2 H2 x y g2.fh (a1.grow g2) a2 Q fun v F3 H3 g3 a3 => q v F3 H3 ((g1.trans g2).trans g3) a3
theorem eo_op {r : R2} (ha : EvE ta δ e1) (hb : EvE tb δ e2) (hr : OpO r e1 e2 o) : EvO (tOp r ta tb) δ o := fun F0 H0 F H σ s Q q =>
  ha F0 H0 F H σ s _ fun x F1 H1 g1 a1 => hb F0 H0 F1 H1 σ (s.grow g1) _ fun y F2 H2 g2 a2 => hr F2 H2 x y g2.fh (a1.grow g2) a2 Q fun p ho F3 H3 g3 hn hf hp z =>
    q p ho F3 H3 ((g1.trans g2).trans g3) ((g1.hh.trans g2.hh).free hn) hf hp z
def UnE (r : V → Hp → VK → Prop) (e1 e2 : Ent) : Prop := ∀ (F H : Hp) (x : V), Same F H → ArgOk F H x e1 → ∀ Q : VK, (∀ v F' H', Grow F H F' H' → ArgOk F' H' v e2 → Q v H') → r x H Q
theorem ev_un {r : V → Hp → VK → Prop} (ha : EvE ta δ e1) (hr : UnE r e1 e2) : EvE (tUn r ta) δ e2 := fun F0 H0 F H σ s Q q =>
  ha F0 H0 F H σ s _ fun x F1 H1 g1 a1 => hr F1 H1 x g1.fh a1 Q fun v F3 H3 g3 a3 => q v F3 H3 (g1.trans g3) a3
theorem OpE.inl {r r' : R2} (h : OpE r e1 e2 e3) : OpE (fun x y H Q => r x y H Q ∨ r' x y H Q) e1 e2 e3 := fun F H x y s a b Q q => .inl (h F H x y s a b Q q)
theorem OpE.inr {r r' : R2} (h : OpE r' e1 e2 e3) : OpE (fun x y H Q => r x y H Q ∨ r' x y H Q) e1 e2 e3 := fun F H x y s a b Q q => .inr (h F H x y s a b Q q)
theorem OpO.inl {r r' : R2} (h : OpO r e1 e2 o) : OpO (fun x y H Q => r x y H Q ∨ r' x y H Q) e1 e2 o := fun F H x y s a b Q q => .inl (h F H x y s a b Q q)
theorem OpO.inr {r r' : R2} (h : OpO r' e1 e2 o) : OpO (fun x y H Q => r x y H Q ∨ r' x y H Q) e1 e2 o := fun F H x y s a b Q q => .inr (h F H x y s a b Q q)
theorem op_k {r : R2} {x y z : V} (h : ∀ (H : Hp) (Q : VK), Q z H → r x y H Q) : OpE r (.v (kS x)) (.v (kS y)) (.v (kS z)) := fun F H a b s ha hb Q q => by
  cases ha
  cases hb
  exact h H Q (q _ F H (Grow.refl s) rfl)
theorem op_I0 {g : Int → Int → V} {i j : Int} : OpE (rI0 g) (.v (iS i)) (.v (iS j)) (.v (kS (g i j))) := op_k fun _ _ q => ⟨i, j, rfl, rfl, q⟩
theorem op_I {C : Int → Int → Prop} {g : Int → Int → V} {i j : Int} (h : C i j) : OpE (rI C g) (.v (iS i)) (.v (iS j)) (.v (kS (g i j))) := op_k fun _ _ q => ⟨i, j, rfl, rfl, h, q⟩
theorem op_Eq {x y : V} (h : scal x y = true) : OpE rEq (.v (kS x)) (.v (kS y)) (.v (bS (decide (x = y)))) := op_k fun _ _ q => ⟨h, q⟩
theorem op_Ne {x y : V} (h : scal x y = true) : OpE rNe (.v (kS x)) (.v (kS y)) (.v (bS (!decide (x = y)))) := op_k fun _ _ q => ⟨h, q⟩
theorem un_I {g : Int → V} {i : Int} : UnE (rU g) (.v (iS i)) (.v (kS (g i))) := fun F H x s ha Q q => by
  cases ha
  exact ⟨i, rfl, q _ F H (Grow.refl s) rfl⟩

/-! ### what is read: given, or lent -/
def IsR (e : Ent) (o : Own) : Prop := e = .bo o ∨ e = .v (refS o)
theorem IsR.get {F H : Hp} {x : V} (h : IsR e o) (a : ArgOk F H x e) (s : Same F H) : ∃ p ho, x = .ref p ∧ H p = some ho ∧ o.P F p ho := by
  rcases h with rfl | rfl
  · exact a
  · obtain ⟨p, ho, e, hp, z⟩ := a
    exact ⟨p, ho, e, s p _ hp, z⟩
theorem isR_b : IsR (.bo o) o := .inl rfl
theorem isR_v : IsR (.v (refS o)) o := .inr rfl
theorem PairS.get {F : Hp} : ∀ {vs : List V} {ss : List Slot} {i : Nat} {S : Slot}, PairS F vs ss → ss[i]? = some S → ∃ v, vs[i]? = some v ∧ S.P F v
  | _, _, _, _, .nil, h => by simp at h
  | _, _, 0, _, .cons p _, h => by cases h; exact ⟨_, rfl, p⟩
  | _, _, i + 1, _, .cons _ t, h => by
    obtain ⟨v, e, p⟩ := PairS.get (i := i) t (by simpa using h)
    exact ⟨v, by simpa using e, p⟩
theorem PairS.kmap {F : Hp} {α : Type} {f : α → V} : ∀ {vs : List V} {xs : List α}, PairS F vs (xs.map fun x => kS (f x)) → vs = xs.map f
  | [], [], _ => rfl
  | _, x :: xs, .cons p t => by
    cases p
    rw [PairS.kmap t]
    rfl
theorem PairS.ofk {F : Hp} {α : Type} (f : α → V) : ∀ xs : List α, PairS F (xs.map f) (xs.map fun x => kS (f x))
  | [] => .nil
  | x :: xs => .cons rfl (PairS.ofk f xs)
theorem PairS.app {F : Hp} : ∀ {vs ws : List V} {ss ts : List Slot}, PairS F vs ss → PairS F ws ts → PairS F (vs ++ ws) (ss ++ ts)
  | _, _, _, _, .nil, h => h
  | _, _, _, _, .cons p t, h => .cons p (PairS.app t h)
theorem PairS.take {F : Hp} : ∀ {vs : List V} {ss : List Slot} (n : Nat), PairS F vs ss → PairS F (vs.take n) (ss.take n)
  | _, _, 0, _ => .nil
  | _, _, _ + 1, .nil => .nil
  | _, _, n + 1, .cons p t => .cons p (PairS.take n t)
theorem PairS.drop {F : Hp} : ∀ {vs : List V} {ss : List Slot} (n : Nat), PairS F vs ss → PairS F (vs.drop n) (ss.drop n)
  | _, _, 0, h => h
  | _, _, _ + 1, .nil => .nil
  | _, _, n + 1, .cons p t => PairS.drop n t

/-! ### tests -/
theorem et_B {b : Bool} (h : EvE te δ (.v (bS b))) : EvT (tB te) δ b := fun F0 H0 F H σ s Q q => h F0 H0 F H σ s _ fun v F' H' g a => ⟨b, a, q F' H' g⟩
theorem et_Test {b : Bool} (h : EvE te δ (.v (bS b))) : EvT (tTest te) δ b := fun F0 H0 F H σ s Q q => h F0 H0 F H σ s _ fun v F' H' g a => ⟨b, a, q F' H' g⟩
theorem et_and {a b : Bool} (h1 : EvT tt δ a) (h2 : a = true → EvT tu δ b) : EvT (tAnd tt tu) δ (a && b) := fun F0 H0 F H σ s Q q => h1 F0 H0 F H σ s _ fun F1 H1 g1 => by
  cases a with
  | true =>
    show tu σ H1 Q
    exact h2 rfl F0 H0 F1 H1 σ (s.grow g1) Q fun F2 H2 g2 => q F2 H2 (g1.trans g2)
  | false =>
    show Q false H1
    exact q F1 H1 g1
theorem et_or {a b : Bool} (h1 : EvT tt δ a) (h2 : a = false → EvT tu δ b) : EvT (tOr tt tu) δ (a || b) := fun F0 H0 F H σ s Q q => h1 F0 H0 F H σ s _ fun F1 H1 g1 => by
  cases a with
  | true =>
    show Q true H1
    exact q F1 H1 g1
  | false =>
    show tu σ H1 Q
    exact h2 rfl F0 H0 F1 H1 σ (s.grow g1) Q fun F2 H2 g2 => q F2 H2 (g1.trans g2)
theorem et_not {a : Bool} (h1 : EvT tt δ a) : EvT (tNot tt) δ (!a) := fun F0 H0 F H σ s Q q => h1 F0 H0 F H σ s _ fun F1 H1 g1 => q F1 H1 g1
theorem et_yes : EvT tYes δ true := fun F0 H0 F H σ s Q q => q F H (Grow.refl s.fh)
theorem ev_and {a b : Bool} (h1 : EvE ta δ (.v (bS a))) (h2 : a = true → EvE tb δ (.v (bS b))) : EvE (tAndV ta tb) δ (.v (bS (a && b))) := fun F0 H0 F H σ s Q q => h1 F0 H0 F H σ s _ fun v F1 H1 g1 hv => ⟨a, hv, by
  cases a with
  | true =>
    show tb σ H1 Q
    exact h2 rfl F0 H0 F1 H1 σ (s.grow g1) Q fun v F2 H2 g2 hv => q v F2 H2 (g1.trans g2) hv
  | false =>
    show Q (.bl false) H1
    exact q _ F1 H1 g1 rfl⟩
theorem ev_or {a b : Bool} (h1 : EvE ta δ (.v (bS a))) (h2 : a = false → EvE tb δ (.v (bS b))) : EvE (tOrV ta tb) δ (.v (bS (a || b))) := fun F0 H0 F H σ s Q q => h1 F0 H0 F H σ s _ fun v F1 H1 g1 hv => ⟨a, hv, by
  cases a with
  | true =>
    show Q (.bl true) H1
    exact q _ F1 H1 g1 rfl
  | false =>
    show tb σ H1 Q
    exact h2 rfl F0 H0 F1 H1 σ (s.grow g1) Q fun v F2 H2 g2 hv => q v F2 H2 (g1.trans g2) hv⟩
theorem ev_not {a : Bool} (h1 : EvE ta δ (.v (bS a))) : EvE (tNotV ta) δ (.v (bS (!a))) := fun F0 H0 F H σ s Q q => h1 F0 H0 F H σ s _ fun v F1 H1 g1 hv => ⟨a, hv, q _ F1 H1 g1 rfl⟩
theorem ev_if {b : Bool} (h : EvT tt δ b) (h1 : b = true → EvE ta δ e) (h2 : b = false → EvE tb δ e) : EvE (tIf tt ta tb) δ e := fun F0 H0 F H σ s Q q => h F0 H0 F H σ s _ fun F1 H1 g1 => by
  cases b with
  | true =>
    show ta σ H1 Q
    exact h1 rfl F0 H0 F1 H1 σ (s.grow g1) Q fun v F2 H2 g2 hv => q v F2 H2 (g1.trans g2) hv
  | false =>
    show tb σ H1 Q
    exact h2 rfl F0 H0 F1 H1 σ (s.grow g1) Q fun v F2 H2 g2 hv => q v F2 H2 (g1.trans g2) hv
theorem ev_ifTF {b : Bool} {a1 a2 : V} (h : EvT tt δ b) (h1 : b = true → EvE ta δ (.v (kS a1))) (h2 : b = false → EvE tb δ (.v (kS a2))) : EvE (tIf tt ta tb) δ (.v (kS (if b = true then a1 else a2))) := by
  refine ev_if h (fun e => ?_) (fun e => ?_)
  · rw [if_pos e]
    exact h1 e
  · rw [e, if_neg Bool.false_ne_true]
    exact h2 e
theorem ev_chain {r r' : R2} {tc : TE} {a b : Bool} (h1 : EvE ta δ e1) (h2 : EvE tb δ e2) (h3 : a = true → EvE tc δ e3) (o1 : OpE r e1 e2 (.v (bS a))) (o2 : a = true → OpE r' e2 e3 (.v (bS b))) :
    EvE (tChain r r' ta tb tc) δ (.v (bS (a && b))) := fun F0 H0 F H σ s Q q =>
  h1 F0 H0 F H σ s _ fun x F1 H1 g1 a1 => h2 F0 H0 F1 H1 σ (s.grow g1) _ fun y F2 H2 g2 a2 => o1 F2 H2 x y g2.fh (a1.grow g2) a2 _ fun v F3 H3 g3 a3 => ⟨a, a3, by
    have g := (g1.trans g2).trans g3
    cases a with
    | true =>
      show tc σ H3 _
      exact h3 rfl F0 H0 F3 H3 σ (s.grow g) _ fun z F4 H4 g4 a4 => o2 rfl F4 H4 y z g4.fh ((a2.grow g3).grow g4) a4 Q fun v F5 H5 g5 a5 => q v F5 H5 ((g.trans g4).trans g5) a5
    | false =>
      show Q (.bl false) H3
      exact q _ F3 H3 g rfl⟩

/-! ### arguments, displays -/
variable {tr : TA} {es : List Ent}
theorem ea_nil : EvAs tNil δ [] := fun F0 H0 F H σ s Q q => q [] F H (Grow.refl s.fh) .nil
theorem ea_cons (h : EvE te δ e) (hr : EvAs tr δ es) : EvAs (tCons te tr) δ (e :: es) := fun F0 H0 F H σ s Q q =>
  h F0 H0 F H σ s _ fun x F1 H1 g1 a1 => hr F0 H0 F1 H1 σ (s.grow g1) _ fun vs F2 H2 g2 a2 => q _ F2 H2 (g1.trans g2) (.cons (a1.grow g2) a2)
theorem args_v {F H : Hp} : ∀ {vs : List V} {ss : List Slot}, Paired (ArgOk F H) vs (ss.map .v) → PairS F vs ss
  | _, [], .nil => .nil
  | _, _ :: _, .cons p t => .cons p (args_v t)
theorem eo_lst {ta : TA} {ss : List Slot} (h : EvAs ta δ (ss.map .v)) (hl : ss.length ≤ 100000) : EvO (tLst ta) δ (lstO ss) := fun F0 H0 F H σ s Q q =>
  h F0 H0 F H σ s _ fun vs F1 H1 g1 a1 => ⟨by rw [(args_v a1).length]; exact Nat.le_trans hl (by decide), fun p hp =>
    q p _ F1 _ (g1.trans (Grow.newH g1.fh hp)) (g1.hh.free hp) (g1.fh.free hp) upd_same ⟨vs, rfl, args_v a1⟩⟩
theorem ev_tup {ta : TA} {ss : List Slot} (h : EvAs ta δ (ss.map .v)) (hl : ss.length ≤ 100000) : EvE (tTup ta) δ (.v (tupS ss)) := fun F0 H0 F H σ s Q q =>
  h F0 H0 F H σ s _ fun vs F1 H1 g1 a1 => ⟨by rw [(args_v a1).length]; exact Nat.le_trans hl (by decide), fun p hp => by
    have g2 := Grow.newF (o := .tup vs) g1.fh hp
    exact q _ _ _ (g1.trans g2) ⟨p, _, rfl, upd_same, vs, rfl, PairS.mono g2.ff (args_v a1)⟩⟩
theorem size_ok {n : Nat} (h : n ≤ 100000) : n ≤ sizeLine := Nat.le_trans h (by decide)
end

/-! ### calls: what a def promises -/
inductive Res where
  | v (S : Slot)
  | o (o : Own)
  | x (c : Addr)
  /-- a tuple of two own objects -/
  | p (o1 o2 : Own)
def Res.post (r : Res) (F H : Hp) (Q : VK) (E : XK) : Prop := match r with
  | .v S => ∀ v F' H', Grow F H F' H' → S.P F' v → Q v H'
  | .o w => ∀ p ho F' H', Grow F H F' H' → H p = none → F' p = none → H' p = some ho → w.P F' p ho → Q (.ref p) H'
  | .x c => ∀ F' H', Grow F H F' H' → E (.ref c) none H'
  | .p o1 o2 => ∀ t p1 p2 h1 h2 F' H', Grow F H F' H' → F' t = some (.tup [.ref p1, .ref p2]) → (H p1 = none ∧ H p2 = none) → (F' p1 = none ∧ F' p2 = none) → (H' p1 = some h1 ∧ H' p2 = some h2) → p1 ≠ p2 → (o1.P F' p1 h1 ∧ o2.P F' p2 h2) → Q (.ref t) H'
theorem post_v {S : Slot} {F H : Hp} {Q : VK} {E : XK} (h : ∀ v F' H', Grow F H F' H' → S.P F' v → Q v H') : (Res.v S).post F H Q E := h
theorem post_o {o : Own} {F H : Hp} {Q : VK} {E : XK} (h : ∀ p ho F' H', Grow F H F' H' → H p = none → F' p = none → H' p = some ho → o.P F' p ho → Q (.ref p) H') : (Res.o o).post F H Q E := h
theorem post_x {c : Addr} {F H : Hp} {Q : VK} {E : XK} (h : ∀ F' H', Grow F H F' H' → E (.ref c) none H') : (Res.x c).post F H Q E := h
theorem arg_v {S : Slot} {F H : Hp} {v : V} (h : S.P F v) : ArgOk F H v (.v S) := h
abbrev Rel := List Ent → Res → Prop
def SpOf (R : Rel) : Sp := fun vs H Q E => ∃ (F : Hp) (es : List Ent) (r : Res), Same F H ∧ TupIn F H ∧ Paired (ArgOk F H) vs es ∧ R es r ∧ r.post F H Q E
section
variable {te : TE} {ta : TA} {δ es : List Ent} {R : Rel} {S : Slot} {o : Own} {E : XK} {C c : Addr} {m : Str} {fs : List (Str × Slot)}
theorem pair_app {α β : Type} {G : α → β → Prop} : ∀ {a : List α} {b : List β}, Paired G a b → Paired G (a ++ []) b := fun h => by rw [List.append_nil]; exact h
theorem ev_call (h : EvAs ta δ es) (hR : R es (.v S)) : EvE (tCall (SpOf R) [] E ta) δ (.v S) := fun F0 H0 F H σ s Q q =>
  h F0 H0 F H σ s _ fun vs F1 H1 g1 a1 => ⟨F1, es, .v S, g1.fh, (s.grow g1).tt, pair_app a1, hR, post_v fun v F' H' g hv => q v F' H' (g1.trans g) hv⟩
theorem eo_call (h : EvAs ta δ es) (hR : R es (.o o)) : EvO (tCall (SpOf R) [] E ta) δ o := fun F0 H0 F H σ s Q q =>
  h F0 H0 F H σ s _ fun vs F1 H1 g1 a1 => ⟨F1, es, .o o, g1.fh, (s.grow g1).tt, pair_app a1, hR, post_o fun p ho F' H' g hn hf hp z => q p ho F' H' (g1.trans g) (g1.hh.free hn) hf hp z⟩
theorem ex_call (h : EvAs ta δ es) (hR : R es (.x c)) : EvX (tCall (SpOf R) [] E ta) δ E c := fun F0 H0 F H σ s q Q =>
  h F0 H0 F H σ s _ fun vs F1 H1 g1 a1 => ⟨F1, es, .x c, g1.fh, (s.grow g1).tt, pair_app a1, hR, post_x fun F' H' g => q F' H' (g1.trans g)⟩
theorem PairF.lookup {F : Hp} {f : Str} : ∀ {fv : List (Str × V)} {fs : List (Str × Slot)}, PairF F fv fs → match fs.lookup f with
    | some S => ∃ v, fv.lookup f = some v ∧ S.P F v
    | none => fv.lookup f = none
  | _, _, .nil => rfl
  | (g, v) :: fv, (g', S) :: fs, .cons ⟨p1, p2⟩ t => by
    have ih := PairF.lookup (f := f) t
    have e : g = g' := p1
    subst e
    rw [List.lookup_cons, List.lookup_cons]
    cases hb : f == g with
    | true => exact ⟨v, rfl, p2⟩
    | false => exact ih
theorem PairF.some {F : Hp} {f : Str} {fv : List (Str × V)} {fs : List (Str × Slot)} (h : PairF F fv fs) (hl : fs.lookup f = some S) : ∃ v, fv.lookup f = some v ∧ S.P F v := by
  have z := PairF.lookup (f := f) h
  rw [hl] at z
  exact z
theorem PairF.none {F : Hp} {f : Str} {fv : List (Str × V)} {fs : List (Str × Slot)} (h : PairF F fv fs) (hl : fs.lookup f = none) : fv.lookup f = none := by
  have z := PairF.lookup (f := f) h
  rw [hl] at z
  exact z
/-- a field: the class, no such class attribute -/
structure FldOk (K : PySem.W.Frag) (C : Addr) (f : Str) : Prop where
  c : Cls K C
  n : NoAttr K C f
theorem ev_fld {K : PySem.W.Frag} {e : Ent} {f : Str} (h : EvE te δ e) (hr : IsR e (insO C fs)) (k : FldOk K C f) (hl : fs.lookup f = some S) : EvE (tFld K te f) δ (.v S) := fun F0 H0 F H σ s Q q =>
  h F0 H0 F H σ s _ fun v F' H' g a => by
    obtain ⟨p, ho, rfl, hp, dx, fv, rfl, pf⟩ := hr.get a g.fh
    obtain ⟨w, e1, e2⟩ := PairF.some pf hl
    exact ⟨p, C, dx, fv, w, rfl, hp, k.c, k.n, e1, q w F' H' g e2⟩
/-- a method of the object's class -/
theorem ev_meth (h : EvE te δ (.v (objS C fs))) (hm : fs.lookup m = none) (ha : EvAs ta δ es) (hR : R (.v (objS C fs) :: es) (.v S)) : EvE (tMeth C m (SpOf R) [] E te ta) δ (.v S) := fun F0 H0 F H σ s Q q =>
  h F0 H0 F H σ s _ fun v F1 H1 g1 a1 => by
    obtain ⟨p, ho, rfl, hp, dx, fv, rfl, pf⟩ := id a1
    refine ⟨p, dx, fv, rfl, g1.fh p _ hp, PairF.none pf hm, ha F0 H0 F1 H1 σ (s.grow g1) _ fun vs F2 H2 g2 a2 => ?_⟩
    exact ⟨F2, _, .v S, g2.fh, ((s.grow g1).grow g2).tt, .cons (arg_v ((objS C fs).mono g2.ff a1)) (pair_app a2), hR, post_v fun v F' H' g hv => q v F' H' ((g1.trans g2).trans g) hv⟩
theorem eo_meth (h : EvE te δ (.v (objS C fs))) (hm : fs.lookup m = none) (ha : EvAs ta δ es) (hR : R (.v (objS C fs) :: es) (.o o)) : EvO (tMeth C m (SpOf R) [] E te ta) δ o := fun F0 H0 F H σ s Q q =>
  h F0 H0 F H σ s _ fun v F1 H1 g1 a1 => by
    obtain ⟨p, ho, rfl, hp, dx, fv, rfl, pf⟩ := id a1
    refine ⟨p, dx, fv, rfl, g1.fh p _ hp, PairF.none pf hm, ha F0 H0 F1 H1 σ (s.grow g1) _ fun vs F2 H2 g2 a2 => ?_⟩
    exact ⟨F2, _, .o o, g2.fh, ((s.grow g1).grow g2).tt, .cons (arg_v ((objS C fs).mono g2.ff a1)) (pair_app a2), hR, post_o fun p ho F' H' g hn hf hp z => q p ho F' H' ((g1.trans g2).trans g) ((g1.trans g2).hh.free hn) hf hp z⟩
theorem ex_meth (h : EvE te δ (.v (objS C fs))) (hm : fs.lookup m = none) (ha : EvAs ta δ es) (hR : R (.v (objS C fs) :: es) (.x c)) : EvX (tMeth C m (SpOf R) [] E te ta) δ E c := fun F0 H0 F H σ s q Q =>
  h F0 H0 F H σ s _ fun v F1 H1 g1 a1 => by
    obtain ⟨p, ho, rfl, hp, dx, fv, rfl, pf⟩ := id a1
    refine ⟨p, dx, fv, rfl, g1.fh p _ hp, PairF.none pf hm, ha F0 H0 F1 H1 σ (s.grow g1) _ fun vs F2 H2 g2 a2 => ?_⟩
    exact ⟨F2, _, .x c, g2.fh, ((s.grow g1).grow g2).tt, .cons (arg_v ((objS C fs).mono g2.ff a1)) (pair_app a2), hR, post_x fun F' H' g => q F' H' ((g1.trans g2).trans g)⟩

/-! ### a new instance: __init__ -/
/-- what __init__ makes of its arguments: the fields, or a raise -/
abbrev RelI := List Ent → Except Addr (List (Str × Slot)) → Prop
/-- the heap without p -/
def era (H : Hp) (p : Addr) : Hp := fun b => if b = p then none else H b
def SpInit (C : Addr) (R : RelI) : Sp := fun vs H Q E => ∃ (p dx : Addr) (ws : List V) (F : Hp) (es : List Ent) (r : Except Addr (List (Str × Slot))), vs = .ref p :: ws ∧ H p = some (.ins C dx []) ∧ Same F (era H p) ∧ TupIn F (era H p) ∧
  Paired (ArgOk F (era H p)) ws es ∧ R es r ∧ match r with
    | .ok fs => ∀ F' H' dx' fv, Grow F (era H p) F' (era H' p) → H' p = some (.ins C dx' fv) → F' p = none → PairF F' fv fs → Q .non H'
    | .error c => ∀ F' H', Grow F (era H p) F' H' → E (.ref c) none H'
theorem era_same {H : Hp} {p : Addr} : era H p p = none := by unfold era; rw [if_pos rfl]
theorem era_ne {H : Hp} {p b : Addr} (h : b ≠ p) : era H p b = H b := by unfold era; rw [if_neg h]
theorem era_sub {H : Hp} {p : Addr} : Same (era H p) H := fun b o e => by
  by_cases h : b = p
  · rw [h, era_same] at e; cases e
  · rw [era_ne h] at e; exact e
theorem made_grow {F H : Hp} {x dx : Addr} (fh : Same F H) (hx : H x = none) (hd : H dx = none) (ne : dx ≠ x) {u : HO} : Grow F H F (era (upd (upd H dx (.own x)) x u) x) := by
  refine ⟨Same.refl F, fun b o e => ?_, fun b o e => ?_, fun _ _ n => n, fun t a vs e => ?_⟩
  · rw [era_ne (ne_of_none e hx), upd_ne (ne_of_none e hx), upd_ne (ne_of_none e hd)]
    exact e
  · have e' := fh b o e
    rw [era_ne (ne_of_none e' hx), upd_ne (ne_of_none e' hx), upd_ne (ne_of_none e' hd)]
    exact e'
  · have hax : a ≠ x := fun z => by rw [z, era_same] at e; cases e
    rw [era_ne hax, upd_ne hax] at e
    by_cases had : a = dx
    · rw [had, upd_same] at e
      cases e
    · rw [upd_ne had] at e
      exact t a vs e
theorem same_era {H : Hp} {x : Addr} (h : H x = none) {H' : Hp} (s : Same H (era H' x)) : Same H H' := fun b o e => era_sub b o (s b o e)
theorem ev_make {RI : RelI} (h : EvAs ta δ es) (hR : RI es (.ok fs)) : EvE (tMake C (SpInit C RI) [] E ta) δ (.v (objS C fs)) := fun F0 H0 F H σ s Q q =>
  h F0 H0 F H σ s _ fun vs F1 H1 g1 a1 => fun x dx hx hd ne => by
    have g2 := made_grow g1.fh hx hd ne (u := .ins C dx [])
    refine ⟨x, dx, vs ++ [], F1, es, .ok fs, rfl, upd_same, g2.fh, g2.tt (s.grow g1).tt, ?_, hR, ?_⟩
    · exact pair_app (Paired.mapP a1 fun _ _ z => z.grow g2)
    · intro F' H' dx' fv g hp hf pf
      refine ⟨rfl, ?_⟩
      have g3 := g2.trans g
      have sm : Same F' (upd F' x (.ins C dx' fv)) := same_upd hf
      have gg : Grow F1 H1 (upd F' x (.ins C dx' fv)) H' := by
        refine ⟨g3.ff.trans sm, fun b o e => era_sub b o (g3.hh b o e), fun b o e => ?_, fun a ha n => ?_, fun t a vs e => ?_⟩
        · by_cases hb : b = x
          · subst hb
            rw [upd_same] at e
            rw [← e]
            exact hp
          · rw [upd_ne hb] at e
            exact era_sub b o (g3.fh b o e)
        · have hne : a ≠ x := fun e => ha (by rw [e]; exact hx)
          rw [upd_ne hne]
          exact g3.nw a ha n
        · have hax : a ≠ x := fun z => by rw [z, hp] at e; cases e
          have e2 : era H' x a = some (.tup vs) := by rw [era_ne hax]; exact e
          exact sm _ _ (g3.tt t a vs e2)
      exact q _ _ H' (g1.trans gg) ⟨x, _, rfl, upd_same, dx', fv, rfl, Paired.mapP pf fun _ q z => ⟨z.1, q.2.mono sm z.2⟩⟩
theorem eo_make {RI : RelI} (h : EvAs ta δ es) (hR : RI es (.ok fs)) : EvO (tMake C (SpInit C RI) [] E ta) δ (insO C fs) := fun F0 H0 F H σ s Q q =>
  h F0 H0 F H σ s _ fun vs F1 H1 g1 a1 => fun x dx hx hd ne => by
    have g2 := made_grow g1.fh hx hd ne (u := .ins C dx [])
    refine ⟨x, dx, vs ++ [], F1, es, .ok fs, rfl, upd_same, g2.fh, g2.tt (s.grow g1).tt, ?_, hR, ?_⟩
    · exact pair_app (Paired.mapP a1 fun _ _ z => z.grow g2)
    · intro F' H' dx' fv g hp hf pf
      have g3 := g2.trans g
      exact ⟨rfl, q x _ F' H' (g1.trans ⟨g3.ff, same_era hx g3.hh, fun b o e => era_sub b o (g3.fh b o e), g3.nw, fun t a vs e => g3.tt t a vs (by rw [era_ne (fun z => by rw [z, hp] at e; cases e)]; exact e)⟩) (g1.hh.free hx) hf hp ⟨dx', fv, rfl, pf⟩⟩
theorem ex_make {RI : RelI} (h : EvAs ta δ es) (hR : RI es (.error c)) : EvX (tMake C (SpInit C RI) [] E ta) δ E c := fun F0 H0 F H σ s q Q =>
  h F0 H0 F H σ s _ fun vs F1 H1 g1 a1 => fun x dx hx hd ne => by
    have g2 := made_grow g1.fh hx hd ne (u := .ins C dx [])
    refine ⟨x, dx, vs ++ [], F1, es, .error c, rfl, upd_same, g2.fh, g2.tt (s.grow g1).tt, ?_, hR, ?_⟩
    · exact pair_app (Paired.mapP a1 fun _ _ z => z.grow g2)
    · intro F' H' g
      exact q F' H' (g1.trans (g2.trans g))
end
end J

namespace J
open PySem PySem.Spec L2

/-! ### statements: s the store ahead; k what follows -/
section
variable {F0 H0 F H : Hp} {σ : L2.St} {δ es : List Ent} {te ta tb : TE} {tt : TT} {tu tw tz : TS} {D : Ends} {S : Slot} {e : Ent} {o : Own} {E : XK} {c : Addr} {i j : Nat} {K : PySem.W.Frag}
theorem q_set (s : St F0 H0 F H σ δ) (h : EvE te δ (.v S)) (k : ∀ σ' F' H', St F0 H0 F' H' σ' (δ.set i (.v S)) → tz D σ' H') : tSeq (tAsg te (gName i)) tz D σ H :=
  h F0 H0 F H σ s _ fun v F' H' g a => k _ F' H' ((s.grow g).set_v a)
theorem q_setO (s : St F0 H0 F H σ δ) (h : EvO te δ o) (k : ∀ σ' F' H', St F0 H0 F' H' σ' (δ.set i (.ow o)) → tz D σ' H') : tSeq (tAsg te (gName i)) tz D σ H :=
  h F0 H0 F H σ s _ fun p ho F' H' g hn hf hp z => k _ F' H' (s.set_ow g hn hf hp z)
theorem q_drop (s : St F0 H0 F H σ δ) (h : EvE te δ e) (k : ∀ σ' F' H', St F0 H0 F' H' σ' δ → tz D σ' H') : tSeq (tDrop te) tz D σ H :=
  h F0 H0 F H σ s _ fun v F' H' g a => k _ F' H' (s.grow g)
theorem q_ret (s : St F0 H0 F H σ δ) (h : EvE te δ (.v S)) (k : ∀ v F' H', Grow F0 H0 F' H' → S.P F' v → D.rt v H') : tSeq (tRet te) tz D σ H :=
  h F0 H0 F H σ s _ fun v F' H' g a => k v F' H' (s.g.trans g) a
theorem q_retO (s : St F0 H0 F H σ δ) (h : EvO te δ o) (k : ∀ p ho F' H', Grow F0 H0 F' H' → H0 p = none → F' p = none → H' p = some ho → o.P F' p ho → D.rt (.ref p) H') : tSeq (tRet te) tz D σ H :=
  h F0 H0 F H σ s _ fun p ho F' H' g hn hf hp z => k p ho F' H' (s.g.trans g) (s.g.hh.free hn) hf hp z
theorem q_retOw (s : St F0 H0 F H σ δ) (hi : δ[i]? = some (.ow o)) (k : ∀ p ho F' H', Grow F0 H0 F' H' → H0 p = none → F' p = none → H' p = some ho → o.P F' p ho → D.rt (.ref p) H') : tSeq (tRet (tVar i)) tz D σ H := by
  obtain ⟨p, ho, e, h0, hf, hp, z⟩ := s.ow i o hi
  exact ⟨.ref p, e, k p ho F H s.g h0 hf hp z⟩
theorem q_freeze (s : St F0 H0 F H σ δ) (i : Nat) (hi : δ[i]? = some (.ow o)) {P : Prop} (k : ∀ F', St F0 H0 F' H σ (δ.set i (.v (refS o))) → P) : P := let ⟨F', z⟩ := s.freeze hi; k F' z
theorem q_if {b : Bool} (s : St F0 H0 F H σ δ) (h : EvT tt δ b) (h1 : b = true → ∀ σ' F' H', St F0 H0 F' H' σ' δ → tu { D with nx := tz D } σ' H') (h2 : b = false → ∀ σ' F' H', St F0 H0 F' H' σ' δ → tw { D with nx := tz D } σ' H') :
    tSeq (tIfS tt tu tw) tz D σ H := h F0 H0 F H σ s _ fun F' H' g => by
  cases b with
  | true =>
    show tu { D with nx := tz D } σ H'
    exact h1 rfl σ F' H' (s.grow g)
  | false =>
    show tw { D with nx := tz D } σ H'
    exact h2 rfl σ F' H' (s.grow g)
theorem q_ifT {b : Bool} (s : St F0 H0 F H σ δ) (h : EvT tt δ b) (hb : b = true) (h1 : ∀ σ' F' H', St F0 H0 F' H' σ' δ → tu { D with nx := tz D } σ' H') : tSeq (tIfS tt tu tw) tz D σ H := q_if s h (fun _ => h1) fun z => by rw [hb] at z; cases z
theorem q_ifF {b : Bool} (s : St F0 H0 F H σ δ) (h : EvT tt δ b) (hb : b = false) (h2 : ∀ σ' F' H', St F0 H0 F' H' σ' δ → tw { D with nx := tz D } σ' H') : tSeq (tIfS tt tu tw) tz D σ H := q_if s h (fun z => by rw [hb] at z; cases z) fun _ => h2
/-- without an else -/
theorem q_when {b : Bool} (s : St F0 H0 F H σ δ) (h : EvT tt δ b) (h1 : b = true → ∀ σ' F' H', St F0 H0 F' H' σ' δ → tu { D with nx := tz D } σ' H') (h2 : b = false → ∀ σ' F' H', St F0 H0 F' H' σ' δ → tz D σ' H') : tSeq (tIfS tt tu tNext) tz D σ H := q_if s h h1 h2
theorem q_whenF {b : Bool} (s : St F0 H0 F H σ δ) (h : EvT tt δ b) (hb : b = false) (h2 : ∀ σ' F' H', St F0 H0 F' H' σ' δ → tz D σ' H') : tSeq (tIfS tt tu tNext) tz D σ H := q_ifF s h hb h2
theorem q_thru {nx bk ct : L2.St → Hp → Prop} {rt : VK} (h : nx σ H) : tNext ⟨nx, rt, bk, ct⟩ σ H := h
/-- raise of an own class -/
def tRaise (E : XK) (c : Addr) : TS := fun _ _ H => E (.ref c) none H
theorem q_raise (s : St F0 H0 F H σ δ) (k : ∀ F' H', Grow F0 H0 F' H' → E (.ref c) none H') : tSeq (tRaise E c) tz D σ H := k F H s.g
theorem q_dropX (s : St F0 H0 F H σ δ) (h : EvX te δ E c) (k : ∀ F' H', Grow F0 H0 F' H' → E (.ref c) none H') : tSeq (tDrop te) tz D σ H := h F0 H0 F H σ s (fun F' H' g => k F' H' (s.g.trans g)) _
theorem q_setX {g : TG} (s : St F0 H0 F H σ δ) (h : EvX te δ E c) (k : ∀ F' H', Grow F0 H0 F' H' → E (.ref c) none H') : tSeq (tAsg te g) tz D σ H := h F0 H0 F H σ s (fun F' H' g => k F' H' (s.g.trans g)) _
theorem q_retX (s : St F0 H0 F H σ δ) (h : EvX te δ E c) (k : ∀ F' H', Grow F0 H0 F' H' → E (.ref c) none H') : tSeq (tRet te) tz D σ H := h F0 H0 F H σ s (fun F' H' g => k F' H' (s.g.trans g)) _

/-! ### lists of one's own -/
theorem St.loc (s : St F0 H0 F H σ δ) (hi : δ[i]? = some (.ow o)) : ∃ p ho, σ[i]? = some (some (.ref p)) ∧ H p = some ho ∧ o.P F p ho := let ⟨p, ho, e, _, _, hp, z⟩ := s.ow i o hi; ⟨p, ho, e, hp, z⟩
theorem PairS.snoc {vs : List V} {v : V} {ss : List Slot} (h : PairS F vs ss) (p : S.P F v) : PairS F (vs ++ [v]) (ss ++ [S]) := PairS.app h (.cons p .nil)
theorem sizeLt {n : Nat} (h : n < 100000) : n < sizeLine := Nat.lt_of_lt_of_le h (by decide)
theorem q_app {ss : List Slot} (s : St F0 H0 F H σ δ) (hi : δ[i]? = some (.ow (lstO ss))) (h : EvE te δ (.v S)) (hz : ss.length < 100000) (k : ∀ σ' F' H', St F0 H0 F' H' σ' (δ.set i (.ow (lstO (ss ++ [S])))) → tz D σ' H') :
    tSeq (tDrop (tBM K "list" rAppend (tVar i) (tCons te tNil))) tz D σ H := by
  obtain ⟨p, ho, e, hp, vs, rfl, pv⟩ := s.loc hi
  refine ⟨.ref p, e, .inl ⟨rfl, vs, SqL.of hp⟩, h F0 H0 F H σ s _ fun v F' H' g a => ?_⟩
  have s' := s.grow g
  refine ⟨p, vs, v, rfl, rfl, g.hh p _ hp, by rw [pv.length]; exact sizeLt hz, ?_⟩
  exact k _ F' _ (s'.mut hi e ⟨_, rfl, PairS.snoc (PairS.mono g.ff pv) a⟩)
theorem q_ext {ss ts : List Slot} {e1 : Ent} (s : St F0 H0 F H σ δ) (hi : δ[i]? = some (.ow (lstO ss))) (h : EvE te δ e1) (hr : IsR e1 (lstO ts)) (hz : ss.length + ts.length ≤ 100000) (k : ∀ σ' F' H', St F0 H0 F' H' σ' (δ.set i (.ow (lstO (ss ++ ts)))) → tz D σ' H') :
    tSeq (tDrop (tBM K "list" rExtend (tVar i) (tCons te tNil))) tz D σ H := by
  obtain ⟨p, ho, e, hp, vs, rfl, pv⟩ := s.loc hi
  refine ⟨.ref p, e, .inl ⟨rfl, vs, SqL.of hp⟩, h F0 H0 F H σ s _ fun v F' H' g a => ?_⟩
  have s' := s.grow g
  obtain ⟨q, ho, rfl, hq, ws, rfl, pw⟩ := hr.get a g.fh
  refine ⟨p, q, vs, ws, rfl, rfl, g.hh p _ hp, hq, by rw [pv.length, pw.length]; exact size_ok hz, ?_⟩
  exact k _ F' _ (s'.mut hi e ⟨_, rfl, PairS.app (PairS.mono g.ff pv) pw⟩)
theorem q_clear {ss : List Slot} (s : St F0 H0 F H σ δ) (hi : δ[i]? = some (.ow (lstO ss))) (k : ∀ σ' F' H', St F0 H0 F' H' σ' (δ.set i (.ow (lstO []))) → tz D σ' H') :
    tSeq (tDrop (tBM0 K "list" rClear (tVar i))) tz D σ H := by
  obtain ⟨p, ho, e, hp, vs, rfl, pv⟩ := s.loc hi
  exact ⟨.ref p, e, .inl ⟨rfl, vs, SqL.of hp⟩, p, vs, rfl, rfl, hp, k _ F _ (s.mut hi e ⟨[], rfl, .nil⟩)⟩
theorem PairS.set {F : Hp} {v : V} : ∀ {vs : List V} {ss : List Slot} {n : Nat}, PairS F vs ss → S.P F v → PairS F (vs.set n v) (ss.set n S)
  | _, _, _, .nil, _ => .nil
  | _, _, 0, .cons _ t, h => .cons h t
  | _, _, n + 1, .cons p t, h => .cons p (PairS.set t h)
theorem ixN_nat {n j : Nat} (hj : j < n) : ixN n (j : Int) = some j := by
  unfold ixN
  rw [if_pos (by omega), if_pos (by omega)]
  simp
/-- l[n] = e -/
theorem q_setIx {ss : List Slot} {n : Nat} (s : St F0 H0 F H σ δ) (hi : δ[i]? = some (.ow (lstO ss))) (h : EvE te δ (.v S)) (hb : EvE tb δ (.v (iS n))) (hn : n < ss.length) (k : ∀ σ' F' H', St F0 H0 F' H' σ' (δ.set i (.ow (lstO (ss.set n S)))) → tz D σ' H') :
    tSeq (tAsg te (gSub (tVar i) tb rSetL)) tz D σ H := by
  refine h F0 H0 F H σ s _ fun v F1 H1 g1 a1 => ?_
  have s1 := s.grow g1
  obtain ⟨p, ho, e, hp, vs, rfl, pv⟩ := s1.loc hi
  refine ⟨.ref p, e, hb F0 H0 F1 H1 σ s1 _ fun w F2 H2 g2 a2 => ?_⟩
  cases a2
  have s2 := s1.grow g2
  refine ⟨p, vs, (n : Int), n, rfl, rfl, g2.hh p _ hp, ixN_nat (by rw [pv.length]; exact hn), ?_⟩
  exact k _ F2 _ (s2.mut hi e ⟨_, rfl, PairS.set (PairS.mono g2.ff pv) (S.mono g2.ff a1)⟩)

/-! ### fields of self, in __init__ -/
def putS (f : Str) (S : Slot) (fs : List (Str × Slot)) : List (Str × Slot) := fs ++ [(f, S)]
theorem PairF.put {f : Str} {v : V} : ∀ {fv : List (Str × V)} {fs : List (Str × Slot)}, PairF F fv fs → S.P F v → fs.lookup f = Option.none → PairF F (putF f v fv) (putS f S fs)
  | _, _, .nil, p, _ => .cons ⟨rfl, p⟩ .nil
  | (g, x) :: fv, (g', T) :: fs, .cons ⟨p1, p2⟩ t, p, h => by
    have e : g = g' := p1
    subst e
    rw [List.lookup_cons] at h
    have hne : ¬ g = f := fun z => by
      rw [z, beq_self_eq_true] at h
      cases h
    have hb : (f == g) = false := beq_false_of_ne fun z => hne z.symm
    rw [hb] at h
    unfold putF
    rw [if_neg hne]
    exact .cons ⟨rfl, p2⟩ (PairF.put t p h)
theorem q_fld {fs : List (Str × Slot)} {f : Str} {C : Addr} (s : St F0 H0 F H σ δ) (hi : δ[i]? = some (.ow (insO C fs))) (h : EvE te δ (.v S)) (kf : FldOk K C f) (hn : fs.lookup f = Option.none) (hz : fs.length < 900)
    (k : ∀ σ' F' H', St F0 H0 F' H' σ' (δ.set i (.ow (insO C (putS f S fs)))) → tz D σ' H') : tSeq (sFld K (tVar i) te f) tz D σ H := by
  refine h F0 H0 F H σ s _ fun v F1 H1 g1 a1 => ?_
  have s1 := s.grow g1
  obtain ⟨p, ho, e, hp, dx, fv, rfl, pf⟩ := s1.loc hi
  refine ⟨.ref p, e, p, C, dx, fv, rfl, hp, kf.c, kf.n, by rw [pf.length]; omega, ?_⟩
  exact k _ F1 _ (s1.mut hi e ⟨dx, _, rfl, PairF.put pf a1 hn⟩)

/-! ### x += e -/
theorem q_aug {f : Int → Int → Int} {a b : Int} (s : St F0 H0 F H σ δ) (hi : δ[i]? = some (.v (iS a))) (h : EvE te δ (.v (iS b))) (k : ∀ σ' F' H', St F0 H0 F' H' σ' (δ.set i (.v (iS (f a b)))) → tz D σ' H') : tSeq (tAug i te (ipI f)) tz D σ H := by
  obtain ⟨v, e, z⟩ := s.at_ i _ hi
  cases z
  refine ⟨.int a, e, h F0 H0 F H σ s _ fun w F1 H1 g1 a1 => ?_⟩
  cases a1
  exact ⟨a, b, rfl, rfl, k _ F1 H1 ((s.grow g1).set_v (S := iS (f a b)) rfl)⟩

/-! ### targets that are tuples -/
theorem q_tup2 {S1 S2 : Slot} {i1 i2 : Nat} (s : St F0 H0 F H σ δ) (h : EvE te δ (.v (tupS [S1, S2]))) (k : ∀ σ' F' H', St F0 H0 F' H' σ' ((δ.set i1 (.v S1)).set i2 (.v S2)) → tz D σ' H') :
    tSeq (tAsg te (gTup K 2 (gCons (gName i1) (gCons (gName i2) gNil)))) tz D σ H := by
  refine h F0 H0 F H σ s _ fun v F1 H1 g1 a1 => ?_
  obtain ⟨p, ho, rfl, hp, vs, rfl, pv⟩ := a1
  cases pv with
  | cons p1 t => cases t with
    | cons p2 t => cases t with
      | nil => exact ⟨p, _, rfl, SqT.of (g1.fh p _ hp), rfl, _, _, rfl, _, _, rfl, rfl, k _ F1 H1 (((s.grow g1).set_v p1).set_v p2)⟩
theorem q_tup3 {S1 S2 S3 : Slot} {i1 i2 i3 : Nat} (s : St F0 H0 F H σ δ) (h : EvE te δ (.v (tupS [S1, S2, S3]))) (k : ∀ σ' F' H', St F0 H0 F' H' σ' (((δ.set i1 (.v S1)).set i2 (.v S2)).set i3 (.v S3)) → tz D σ' H') :
    tSeq (tAsg te (gTup K 3 (gCons (gName i1) (gCons (gName i2) (gCons (gName i3) gNil))))) tz D σ H := by
  refine h F0 H0 F H σ s _ fun v F1 H1 g1 a1 => ?_
  obtain ⟨p, ho, rfl, hp, vs, rfl, pv⟩ := a1
  cases pv with
  | cons p1 t => cases t with
    | cons p2 t => cases t with
      | cons p3 t => cases t with
        | nil => exact ⟨p, _, rfl, SqT.of (g1.fh p _ hp), rfl, _, _, rfl, _, _, rfl, _, _, rfl, rfl, k _ F1 H1 ((((s.grow g1).set_v p1).set_v p2).set_v p3)⟩
theorem q_par {S1 S2 : Slot} {i1 i2 : Nat} {ta : TA} (s : St F0 H0 F H σ δ) (h : EvAs ta δ [.v S1, .v S2]) (k : ∀ σ' F' H', St F0 H0 F' H' σ' ((δ.set i1 (.v S1)).set i2 (.v S2)) → tz D σ' H') : tSeq (tPar i1 i2 ta) tz D σ H := by
  refine h F0 H0 F H σ s _ fun vs F1 H1 g1 a1 => ?_
  cases a1 with
  | cons p1 t => cases t with
    | cons p2 t => cases t with
      | nil => exact ⟨_, _, rfl, k _ F1 H1 (((s.grow g1).set_v p1).set_v p2)⟩

/-! ### loops -/
def NX (F0 H0 : Hp) (I : List Ent → Prop) : L2.St → Hp → Prop := fun σ H => ∃ F δ, St F0 H0 F H σ δ ∧ I δ
theorem q_nx {I : List Ent → Prop} {rt : VK} {bk ct : L2.St → Hp → Prop} (s : St F0 H0 F H σ δ) (h : I δ) : tNext ⟨NX F0 H0 I, rt, bk, ct⟩ σ H := ⟨F, δ, s, h⟩
/-- what a for walks: a list, a tuple, a dict's keys -/
def iAny (K : PySem.W.Frag) (tl : TE) : TI := fun σ H R => iList K tl σ H R ∨ iTup K tl σ H R ∨ iKeys tl σ H R
/-- over a list that stands still -/
theorem q_forL {ss : List Slot} (s : St F0 H0 F H σ δ) (h : EvE ta δ (.v (lstS ss))) (I : Nat → List Ent → Prop) (h0 : I 0 δ)
    (hs : ∀ F1, Base F0 H0 F1 → ∀ n T δ' σ' F' H', ss[n]? = some T → I n δ' → St F1 H0 F' H' σ' (δ'.set j (.v T)) → tu ⟨NX F1 H0 (I (n + 1)), D.rt, tz D, NX F1 H0 (I (n + 1))⟩ σ' H')
    (hd : ∀ δ' σ' F' H', I ss.length δ' → St F0 H0 F' H' σ' δ' → tz D σ' H') : tSeq (tFor (iAny K ta) (gName j) tu) tz D σ H := by
  refine .inl (h F0 H0 F H σ s _ fun v F1 H1 g1 a1 => ?_)
  obtain ⟨p, ho, rfl, hp, vs, rfl, pv⟩ := a1
  have s1 := s.grow g1
  refine ⟨p, rfl, ⟨vs, SqL.of (g1.fh p _ hp)⟩, for_list (D := { D with nx := tz D }) (xs := vs) (fun n => NX F1 H0 (I n)) ⟨F1, δ, s1.rebase, h0⟩ ?_ ?_ ?_⟩
  · rintro n σ' H' _ ⟨F', δ', s', _⟩
    exact SqL.of (s'.fh p _ (s'.g.ff p _ hp))
  · rintro n x σ' H' hx ⟨F', δ', s', hI⟩
    obtain ⟨T, hT, px⟩ : ∃ T, ss[n]? = some T ∧ T.P F' x := by
      have hn : n < vs.length := (List.getElem?_eq_some_iff.mp hx).1
      rw [pv.length] at hn
      obtain ⟨w, hw, q⟩ := PairS.get (PairS.mono s'.g.ff pv) (List.getElem?_eq_getElem hn)
      rw [hx] at hw
      cases hw
      exact ⟨_, List.getElem?_eq_getElem hn, q⟩
    exact hs F1 s1.base n T δ' _ F' H' hT hI (s'.set_v px)
  · rintro σ' H' ⟨F', δ', s', hI⟩
    rw [pv.length] at hI
    exact hd δ' σ' F' H' hI (s'.unbase s1.base)
/-- over a tuple -/
theorem q_forT {ss : List Slot} (s : St F0 H0 F H σ δ) (h : EvE ta δ (.v (tupS ss))) (I : Nat → List Ent → Prop) (h0 : I 0 δ)
    (hs : ∀ F1, Base F0 H0 F1 → ∀ n T δ' σ' F' H', ss[n]? = some T → I n δ' → St F1 H0 F' H' σ' (δ'.set j (.v T)) → tu ⟨NX F1 H0 (I (n + 1)), D.rt, tz D, NX F1 H0 (I (n + 1))⟩ σ' H')
    (hd : ∀ δ' σ' F' H', I ss.length δ' → St F0 H0 F' H' σ' δ' → tz D σ' H') : tSeq (tFor (iAny K ta) (gName j) tu) tz D σ H := by
  refine .inr (.inl (h F0 H0 F H σ s _ fun v F1 H1 g1 a1 => ?_))
  obtain ⟨p, ho, rfl, hp, vs, rfl, pv⟩ := a1
  have s1 := s.grow g1
  refine ⟨p, rfl, ⟨vs, SqT.of (g1.fh p _ hp)⟩, for_tup (D := { D with nx := tz D }) (xs := vs) (fun n => NX F1 H0 (I n)) ⟨F1, δ, s1.rebase, h0⟩ ?_ ?_ ?_⟩
  · rintro n σ' H' _ ⟨F', δ', s', _⟩
    exact SqT.of (s'.fh p _ (s'.g.ff p _ hp))
  · rintro n x σ' H' hx ⟨F', δ', s', hI⟩
    obtain ⟨T, hT, px⟩ : ∃ T, ss[n]? = some T ∧ T.P F' x := by
      have hn : n < vs.length := (List.getElem?_eq_some_iff.mp hx).1
      rw [pv.length] at hn
      obtain ⟨w, hw, q⟩ := PairS.get (PairS.mono s'.g.ff pv) (List.getElem?_eq_getElem hn)
      rw [hx] at hw
      cases hw
      exact ⟨_, List.getElem?_eq_getElem hn, q⟩
    exact hs F1 s1.base n T δ' _ F' H' hT hI (s'.set_v px)
  · rintro σ' H' ⟨F', δ', s', hI⟩
    rw [pv.length] at hI
    exact hd δ' σ' F' H' hI (s'.unbase s1.base)
/-- over a lent list -/
theorem q_forB {ss : List Slot} {i : Nat} (s : St F0 H0 F H σ δ) (h : δ[i]? = some (.bo (lstO ss))) (I : Nat → List Ent → Prop) (h0 : I 0 δ)
    (hs : ∀ F1, Base F0 H0 F1 → ∀ n T δ' σ' F' H', ss[n]? = some T → I n δ' → St F1 H0 F' H' σ' (δ'.set j (.v T)) → tu ⟨NX F1 H0 (I (n + 1)), D.rt, tz D, NX F1 H0 (I (n + 1))⟩ σ' H')
    (hd : ∀ δ' σ' F' H', I ss.length δ' → St F0 H0 F' H' σ' δ' → tz D σ' H') : tSeq (tFor (iAny K (tVar i)) (gName j) tu) tz D σ H := by
  obtain ⟨p, ho, e, hp, vs, rfl, pv⟩ := s.bo i _ h
  refine .inl ⟨.ref p, e, p, rfl, ⟨vs, SqL.of (s.g.hh p _ hp)⟩, for_list (D := { D with nx := tz D }) (xs := vs) (fun n => NX F H0 (I n)) ⟨F, δ, s.rebase, h0⟩ ?_ ?_ ?_⟩
  · rintro n σ' H' _ ⟨F', δ', s', _⟩
    exact SqL.of (s'.g.hh p _ hp)
  · rintro n x σ' H' hx ⟨F', δ', s', hI⟩
    obtain ⟨T, hT, px⟩ : ∃ T, ss[n]? = some T ∧ T.P F' x := by
      have hn : n < vs.length := (List.getElem?_eq_some_iff.mp hx).1
      rw [pv.length] at hn
      obtain ⟨w, hw, q⟩ := PairS.get (PairS.mono s'.g.ff pv) (List.getElem?_eq_getElem hn)
      rw [hx] at hw
      cases hw
      exact ⟨_, List.getElem?_eq_getElem hn, q⟩
    exact hs F s.base n T δ' _ F' H' hT hI (s'.set_v px)
  · rintro σ' H' ⟨F', δ', s', hI⟩
    rw [pv.length] at hI
    exact hd δ' σ' F' H' hI (s'.unbase s.base)
/-- for j in range(n) -/
theorem q_forR {n : Nat} {z : Int} {tl : TA} (s : St F0 H0 F H σ δ) (h : EvAs tl δ [.v (iS z)]) (hz : z.toNat = n) (hn : z ≤ 100000 ∧ -100000 ≤ z) (I : Nat → List Ent → Prop) (h0 : I 0 δ)
    (hs : ∀ m δ' σ' F' H', m < n → I m δ' → St F0 H0 F' H' σ' (δ'.set j (.v (iS (m : Int)))) → tu ⟨NX F0 H0 (I (m + 1)), D.rt, tz D, NX F0 H0 (I (m + 1))⟩ σ' H')
    (hd : ∀ δ' σ' F' H', I n δ' → St F0 H0 F' H' σ' δ' → tz D σ' H') : tSeq (tFor (iRng1 tl) (gName j) tu) tz D σ H := by
  refine h F0 H0 F H σ s _ fun vs F1 H1 g1 a1 => ?_
  cases a1 with
  | cons p1 t => cases t with
    | nil =>
      cases p1
      refine ⟨z, rfl, by omega, by omega, for_range (lo := 0) (n := z.toNat) (D := { D with nx := tz D }) (fun m => NX F0 H0 (I m)) ⟨F1, δ, s.grow g1, h0⟩ ?_ ?_⟩
      · rintro m σ' H' hm ⟨F', δ', s', hI⟩
        have e0 : (0 : Int) + (m : Int) = (m : Int) := Int.zero_add _
        show tu ⟨NX F0 H0 (I (m + 1)), D.rt, tz D, NX F0 H0 (I (m + 1))⟩ (σ'.set j (some (.int ((0 : Int) + (m : Int))))) H'
        rw [e0]
        exact hs m δ' _ F' H' (hz ▸ hm) hI (s'.set_v (S := iS (m : Int)) rfl)
      · rintro σ' H' ⟨F', δ', s', hI⟩
        rw [hz] at hI
        exact hd δ' σ' F' H' hI s'
/-- for j in range(lo, hi) -/
theorem q_forR2 {n : Nat} {lo hi : Int} {tl : TA} (s : St F0 H0 F H σ δ) (h : EvAs tl δ [.v (iS lo), .v (iS hi)]) (hz : (hi - lo).toNat = n) (hn : (hi ≤ 100000 ∧ -100000 ≤ hi) ∧ (lo ≤ 100000 ∧ -100000 ≤ lo)) (I : Nat → List Ent → Prop) (h0 : I 0 δ)
    (hs : ∀ m δ' σ' F' H', m < n → I m δ' → St F0 H0 F' H' σ' (δ'.set j (.v (iS (lo + (m : Int))))) → tu ⟨NX F0 H0 (I (m + 1)), D.rt, tz D, NX F0 H0 (I (m + 1))⟩ σ' H')
    (hd : ∀ δ' σ' F' H', I n δ' → St F0 H0 F' H' σ' δ' → tz D σ' H') : tSeq (tFor (iRng2 tl) (gName j) tu) tz D σ H := by
  refine h F0 H0 F H σ s _ fun vs F1 H1 g1 a1 => ?_
  cases a1 with
  | cons p1 t => cases t with
    | cons p2 t => cases t with
      | nil =>
        cases p1
        cases p2
        refine ⟨lo, hi, rfl, ⟨by omega, by omega, by omega, by omega⟩, for_range (lo := lo) (n := (hi - lo).toNat) (D := { D with nx := tz D }) (fun m => NX F0 H0 (I m)) ⟨F1, δ, s.grow g1, h0⟩ ?_ ?_⟩
        · rintro m σ' H' hm ⟨F', δ', s', hI⟩
          exact hs m δ' _ F' H' (hz ▸ hm) hI (s'.set_v (S := iS (lo + (m : Int))) rfl)
        · rintro σ' H' ⟨F', δ', s', hI⟩
          rw [hz] at hI
          exact hd δ' σ' F' H' hI s'
/-- while: I by what falls -/
theorem q_while (s : St F0 H0 F H σ δ) (I : Nat → List Ent → Prop) (m0 : Nat) (h0 : I m0 δ)
    (hs : ∀ m δ' σ' F' H', I m δ' → St F0 H0 F' H' σ' δ' → ∃ b, EvT tt δ' b ∧ (b = true → ∀ σ' F' H', St F0 H0 F' H' σ' δ' → tu ⟨NX F0 H0 (fun d => ∃ m', m' < m ∧ I m' d), D.rt, tz D, NX F0 H0 (fun d => ∃ m', m' < m ∧ I m' d)⟩ σ' H') ∧
      (b = false → ∀ σ' F' H', St F0 H0 F' H' σ' δ' → tz D σ' H')) : tSeq (tWhile tt tu) tz D σ H := by
  refine ⟨fun m => NX F0 H0 (I m), ⟨m0, F, δ, s, h0⟩, ?_⟩
  rintro m σ' H' ⟨F', δ', s', hI⟩
  obtain ⟨b, hb, h1, h2⟩ := hs m δ' σ' F' H' hI s'
  refine hb F0 H0 F' H' σ' s' _ fun F2 H2 g => ?_
  cases b with
  | true =>
    refine ⟨NX F0 H0 (fun d => ∃ m', m' < m ∧ I m' d), ?_, h1 rfl σ' F2 H2 (s'.grow g)⟩
    rintro σ3 H3 ⟨F3, δ3, s3, m', hm, hI'⟩
    exact ⟨m', hm, F3, δ3, s3, hI'⟩
  | false => exact h2 rfl σ' F2 H2 (s'.grow g)

/-! ### comprehensions -/
theorem wipe1 {j : Nat} {x : V} : wipe ((wipe σ [j]).set j (some x)) [j] = wipe σ [j] := by
  show ((σ.set j none).set j (some x)).set j none = σ.set j none
  rw [List.set_set, List.set_set]
theorem St.wipe (s : St F0 H0 F H σ δ) (j : Nat) : St F0 H0 F H (L2.wipe σ [j]) (δ.set j .un) := s.set_un none
theorem set_set_e {α : Type} {l : List α} {j : Nat} {x y : α} : (l.set j x).set j y = l.set j y := List.set_set ..
/-- the list that grows -/
def LcI (F1 H1 : Hp) (Dl : Addr) (ss : List Slot) (H' : Hp) : Prop := ∃ F' acc, Grow F1 H1 F' H' ∧ F' Dl = none ∧ H' Dl = some (.lst acc) ∧ PairS F' acc ss
theorem LcI.start (fh : Same F H) {Dl : Addr} (h : H Dl = none) : LcI F H Dl [] (upd H Dl (.lst [])) := ⟨F, [], Grow.newH fh h, fh.free h, upd_same, .nil⟩
theorem lc_turn {Dl : Addr} {ss : List Slot} {b : Bool} {T S : Slot} {x : V} {H' : Hp} {Nx : Hp → Prop} (s : St F0 H0 F H σ δ) (hD : H Dl = none) (hl : ss.length < 50000) (px : ∀ F', Grow F H F' H' → T.P F' x) (p : LcI F H Dl ss H')
    (ht : EvT tt (δ.set j (.v T)) b) (he : b = true → EvE te (δ.set j (.v T)) (.v S)) (hn : ∀ H', LcI F H Dl (if b = true then ss ++ [S] else ss) H' → Nx H') :
    tt ((L2.wipe σ [j]).set j (some x)) H' fun b H3 => if b = true then te ((L2.wipe σ [j]).set j (some x)) H3 fun y H4 => ∃ acc, H4 Dl = some (.lst acc) ∧ acc.length < sizeLine ∧ Nx (upd H4 Dl (.lst (acc ++ [y]))) else Nx H3 := by
  obtain ⟨F', acc, g, hf, hp, pa⟩ := p
  have s' : St F0 H0 F' H' ((L2.wipe σ [j]).set j (some x)) (δ.set j (.v T)) := by
    have z := ((s.wipe j).grow g).set_v (i := j) (px F' g)
    rw [set_set_e] at z
    exact z
  refine ht F0 H0 F' H' _ s' _ fun F3 H3 g3 => ?_
  have nf : F3 Dl = none := g3.nw Dl (by rw [hp]; exact fun z => nomatch z) hf
  cases hb : b with
  | false =>
    rw [hb, if_neg Bool.false_ne_true] at hn
    exact hn H3 ⟨F3, acc, g.trans g3, nf, g3.hh Dl _ hp, PairS.mono g3.ff pa⟩
  | true =>
    rw [hb, if_pos rfl] at hn
    show te _ H3 _
    refine he hb F0 H0 F3 H3 _ (s'.grow g3) _ fun y F4 H4 g4 a4 => ⟨acc, g4.hh Dl _ (g3.hh Dl _ hp), by rw [pa.length]; exact sizeLt (by omega), hn _ ?_⟩
    have n4 : F4 Dl = none := g4.nw Dl (by rw [g3.hh Dl _ hp]; exact fun z => nomatch z) nf
    have gg := (g.trans g3).trans g4
    exact ⟨F4, acc ++ [y], ⟨gg.ff, same_updR gg.hh hD, same_updR gg.fh n4, gg.nw, fun t => tt_upd (gg.tt t) (by intro _ h; cases h)⟩, n4, upd_same, PairS.snoc (PairS.mono (g3.trans g4).ff pa) a4⟩
/-- what is kept of the first i items -/
def kept {α : Type} (p : α → Bool) (f : α → Slot) (xs : List α) (i : Nat) : List Slot := ((xs.take i).filter p).map f
theorem kept_succ {α : Type} {p : α → Bool} {f : α → Slot} {xs : List α} {i : Nat} {x : α} (h : xs[i]? = some x) : kept p f xs (i + 1) = if p x = true then kept p f xs i ++ [f x] else kept p f xs i := by
  unfold kept
  rw [List.take_add_one, h, List.filter_append, List.map_append]
  show _ ++ List.map f (List.filter p [x]) = _
  rw [List.filter_cons]
  split <;> simp
theorem kept_all {α : Type} {p : α → Bool} {f : α → Slot} {xs : List α} : kept p f xs xs.length = (xs.filter p).map f := by
  unfold kept
  rw [List.take_length]
theorem kept_le {α : Type} {p : α → Bool} {f : α → Slot} {xs : List α} {i : Nat} : (kept p f xs i).length ≤ i := by
  unfold kept
  rw [List.length_map]
  have h1 := List.length_filter_le p (xs.take i)
  have h2 := List.length_take_le i xs
  omega
/-- [te for j in ta if tt], ta a list -/
theorem eo_lcL {α : Type} (ex : α → Slot) (xs : List α) (p : α → Bool) (f : α → Slot) {e1 : Ent} (h : EvE ta δ e1) (hr : IsR e1 (lstO (xs.map ex))) (hz : xs.length ≤ 40000)
    (ht : ∀ x ∈ xs, EvT tt (δ.set j (.v (ex x))) (p x)) (he : ∀ x ∈ xs, p x = true → EvE te (δ.set j (.v (ex x))) (.v (f x))) :
    EvO (tLc (iAny K ta) (gName j) tt te [j]) δ (lstO ((xs.filter p).map f)) := fun F0 H0 F H σ s Q q => by
  refine .inl (h F0 H0 F H σ s _ fun v F1 H1 g1 a1 => ?_)
  obtain ⟨a, ho, rfl, hp, vs, rfl, pv⟩ := hr.get a1 g1.fh
  have s1 := s.grow g1
  have hlen : vs.length = xs.length := by rw [pv.length, List.length_map]
  refine ⟨a, rfl, ⟨vs, SqL.of hp⟩, fun Dl hD => lc_list (xs := vs) (fun i H' => LcI F1 H1 Dl (kept p f xs i) H') (LcI.start g1.fh hD) ?_ ?_ ?_⟩
  · rintro i H' _ ⟨F', acc, g, _⟩
    exact SqL.of (g.hh a _ hp)
  · rintro i x H' hx hI
    have hi : i < xs.length := by
      rw [← hlen]
      exact (List.getElem?_eq_some_iff.mp hx).1
    have hxi : xs[i]? = some xs[i] := List.getElem?_eq_getElem hi
    have px : (ex xs[i]).P F1 x := by
      obtain ⟨w, hw, z⟩ := PairS.get (i := i) (S := ex xs[i]) pv (by rw [List.getElem?_map, hxi]; rfl)
      rw [hx] at hw
      cases hw
      exact z
    have hm : xs[i] ∈ xs := List.getElem_mem hi
    have hk := kept_le (p := p) (f := f) (xs := xs) (i := i)
    refine ⟨wipe1, lc_turn (b := p xs[i]) (T := ex xs[i]) (S := f xs[i]) (ss := kept p f xs i) s1 hD (by omega) (fun F' g => (ex xs[i]).mono g.ff px) hI (ht _ hm) (he _ hm) fun H' z => ?_⟩
    rw [kept_succ hxi]
    exact z
  · rintro H' ⟨F', acc, g, hf, hp', pa⟩
    rw [hlen, kept_all] at pa
    exact q Dl _ F' H' (g1.trans g) (g1.hh.free hD) hf hp' ⟨acc, rfl, pa⟩
/-- .. ta a range -/
theorem eo_lcR {n : Nat} {z : Int} {tl : TA} (p : Nat → Bool) (f : Nat → Slot) (h : EvAs tl δ [.v (iS z)]) (hz : z.toNat = n) (hn : z ≤ 40000 ∧ -100000 ≤ z)
    (ht : ∀ m, m < n → EvT tt (δ.set j (.v (iS (m : Int)))) (p m)) (he : ∀ m, m < n → p m = true → EvE te (δ.set j (.v (iS (m : Int)))) (.v (f m))) :
    EvO (tLc (iRng1 tl) (gName j) tt te [j]) δ (lstO (((List.range n).filter p).map f)) := fun F0 H0 F H σ s Q q => by
  refine h F0 H0 F H σ s _ fun vs F1 H1 g1 a1 => ?_
  cases a1 with
  | cons p1 t => cases t with
    | nil =>
      cases p1
      have s1 := s.grow g1
      refine ⟨z, rfl, by omega, by omega, fun Dl hD => lc_range (lo := 0) (n := z.toNat) (fun i H' => LcI F1 H1 Dl (kept p f (List.range n) i) H') (LcI.start g1.fh hD) ?_ ?_⟩
      · rintro m H' hm hI
        have e0 : (0 : Int) + (m : Int) = (m : Int) := Int.zero_add _
        rw [e0]
        have hk := kept_le (p := p) (f := f) (xs := List.range n) (i := m)
        refine ⟨wipe1, lc_turn (b := p m) (T := iS (m : Int)) (S := f m) (ss := kept p f (List.range n) m) s1 hD (by omega) (fun F' sm => rfl) hI (ht _ (hz ▸ hm)) (he _ (hz ▸ hm)) fun H' z => ?_⟩
        have hx : (List.range n)[m]? = some m := List.getElem?_range (hz ▸ hm)
        rw [kept_succ hx]
        exact z
      · rintro H' ⟨F', acc, g, hf, hp', pa⟩
        have e : z.toNat = (List.range n).length := by rw [List.length_range, hz]
        rw [e, kept_all] at pa
        exact q Dl _ F' H' (g1.trans g) (g1.hh.free hD) hf hp' ⟨acc, rfl, pa⟩
end
end J

namespace J
open PySem PySem.Spec L2 PyProof.Rows

/-! ### defs, methods, classes as they stand -/
structure CalX (P : Program) (w : World) (K : PySem.W.Frag) (mg : Str → Option Value) (base : Heap) (k : Nat) (x : Str) (sp : Sp) : Prop where
  ex : ∃ (f : Addr) (fd : FuncData) (ps : List Str), FnOk P w K mg base (L2.CX P w) k f fd ps sp ∧ mg x = some (.ref f) ∧ PySem.W.keepIn K (.ref f) = true ∧ Binds K fd ps []
structure MetX (P : Program) (w : World) (K : PySem.W.Frag) (mg : Str → Option Value) (base : Heap) (k : Nat) (C : Addr) (m : Str) (sp : Sp) : Prop where
  ex : ∃ (f : Addr) (fd : FuncData) (ps : List Str), Cls K C ∧ Meth K C m f ∧ FnOk P w K mg base (L2.CX P w) k f fd ps sp ∧ Binds K fd ps []
structure MakX (P : Program) (w : World) (K : PySem.W.Frag) (mg : Str → Option Value) (base : Heap) (k : Nat) (x : Str) (C : Addr) (sp : Sp) : Prop where
  ex : ∃ (f : Addr) (fd : FuncData) (ps : List Str), Mk K C f ∧ FnOk P w K mg base (L2.CX P w) k f fd ps sp ∧ mg x = some (.ref C) ∧ Binds K fd ps []
section
variable {X : Cx} {k j : Nat} {C : Addr} {x m : Str} {sp : Sp} {p pos apos : Pos} {e o : Expr} {es : List Expr} {ta : TE} {t : TA} {E : XK}
theorem pe_cX (c : CalX X.prog X.w X.K X.mg X.base k x sp) (hr : Room j X.A) (hk : k ≤ j) (hx : Passes (L2.CX X.prog X.w) X E) (hg : Gl X x) (ha : PA X (e :: es) t)
    (hdb : (x == ("__debug__" : Str)) = false := by decide) (he : starEach (e :: es) X.env = (false, eval e X.env) :: starEach es X.env := by rfl) (hpl : (backTo pos (starEach es X.env)).any (·.1) = false := by rfl) :
    PE X (.Call (.Name x p) (e :: es) [] pos) (tCall sp [] E t) := by
  obtain ⟨f, fd, ps, F, hm, kp, b⟩ := c.ex
  exact pe_call F (hr.mono hk) hg hm kp b .nil hx ha hdb he hpl
theorem pe_cX0 (c : CalX X.prog X.w X.K X.mg X.base k x sp) (hr : Room j X.A) (hk : k ≤ j) (hx : Passes (L2.CX X.prog X.w) X E) (hg : Gl X x) (hdb : (x == ("__debug__" : Str)) = false := by decide) :
    PE X (.Call (.Name x p) [] [] pos) (tCall sp [] E tNil) := by
  obtain ⟨f, fd, ps, F, hm, kp, b⟩ := c.ex
  exact pe_call0 F (hr.mono hk) hg hm kp b .nil hx hdb
theorem pe_mkX (c : MakX X.prog X.w X.K X.mg X.base k x C sp) (hr : Room j X.A) (hk : k + 1 ≤ j) (hx : Passes (L2.CX X.prog X.w) X E) (hg : Gl X x) (ha : PA X (e :: es) t)
    (hdb : (x == ("__debug__" : Str)) = false := by decide) (he : starEach (e :: es) X.env = (false, eval e X.env) :: starEach es X.env := by rfl) (hpl : (backTo pos (starEach es X.env)).any (·.1) = false := by rfl) :
    PE X (.Call (.Name x p) (e :: es) [] pos) (tMake C sp [] E t) := by
  obtain ⟨f, fd, ps, M, F, hm, b⟩ := c.ex
  exact pe_make M F (hr.mono hk) hg hm b .nil hx ha hdb he hpl
theorem pe_mtX {pl : Sem Bool} (c : MetX X.prog X.w X.K X.mg X.base k C m sp) (hr : Room j X.A) (hk : k ≤ j) (hx : Passes (L2.CX X.prog X.w) X E) (he : PE X o ta) (ha : PA X (e :: es) t)
    (hst : starEach (e :: es) X.env = (false, eval e X.env) :: starEach es X.env := by rfl) (hpl : (backTo pos (starEach es X.env)).any (·.1) = false := by rfl)
    (ht : eval (.Call (.Attribute o m apos) (e :: es) [] pos) X.env = (do
      let ov ← eval o X.env
      standAt apos.atName
      let (f, first) ← holding [ov] (getMethod ov m pl)
      callWith pos f first (backTo pos (starEach (e :: es) X.env)) (backToKw pos (keywordEach [] X.env))) := by rfl) :
    PE X (.Call (.Attribute o m apos) (e :: es) [] pos) (tMeth C m sp [] E ta t) := by
  obtain ⟨f, fd, ps, hc, hm, F, b⟩ := c.ex
  exact pe_meth (pl := pl) he hc hm F (hr.mono hk) b .nil hx ha hst hpl ht
theorem pe_mtX0 {pl : Sem Bool} (c : MetX X.prog X.w X.K X.mg X.base k C m sp) (hr : Room j X.A) (hk : k ≤ j) (hx : Passes (L2.CX X.prog X.w) X E) (he : PE X o ta)
    (ht : eval (.Call (.Attribute o m apos) [] [] pos) X.env = (do
      let ov ← eval o X.env
      standAt apos.atName
      let (f, first) ← holding [ov] (getMethod ov m pl)
      callWith pos f first (backTo pos (starEach [] X.env)) (backToKw pos (keywordEach [] X.env))) := by rfl) :
    PE X (.Call (.Attribute o m apos) [] [] pos) (tMeth C m sp [] E ta tNil) := by
  obtain ⟨f, fd, ps, hc, hm, F, b⟩ := c.ex
  exact pe_meth0 (pl := pl) he hc hm F (hr.mono hk) b .nil hx ht
/-- one of two readings -/
theorem pe_or2 {t u : TE} (h1 : PE X e t) (h2 : PE X e u) : PE X e (fun σ H Q => t σ H Q ∨ u σ H Q) := ⟨fun pins s σ H Q I h => h.elim (h1.run pins s σ H Q I) (h2.run pins s σ H Q I)⟩
theorem pt_or2 {t u : TT} (h1 : PT X e t) (h2 : PT X e u) : PT X e (fun σ H Q => t σ H Q ∨ u σ H Q) := ⟨fun pins s σ H Q I h => h.elim (h1.run pins s σ H Q I) (h2.run pins s σ H Q I)⟩
theorem pi_or2 {tg : Expr} {t u : TI} (h1 : PI X tg e t) (h2 : PI X tg e u) : PI X tg e (fun σ H Q => t σ H Q ∨ u σ H Q) := ⟨fun pins s σ H R I h => h.elim (h1.run pins s σ H R I) (h2.run pins s σ H R I)⟩
theorem pi_any {tg : Expr} {tl : TE} (h : PE X e tl) : PI X tg e (iAny X.K tl) := pi_or2 (pi_list h) (pi_or2 (pi_tup h) (pi_keys h))
/-- raise C("..") of an own class -/
structure ExcK (K : PySem.W.Frag) (mg : Str → Option Value) (x : Str) (C : Addr) : Prop where
  xi : PySem.W.excIn K C [.type "ValueError", .type "Exception", .type "BaseException", .type "object"] "ValueError.__new__" = true
  g : mg x = some (.ref C)
  k : PySem.W.keepIn K (.ref C) = true
  b : PySem.W.subIn K (.ref C) (.type "BaseException") = some true
  t : PySem.W.typeIn K (.ref C) = some (.type "type")
theorem ps_raiseX {msg : Str} {jz : Nat} {p2 pos' : Pos} (hc : X.calm = true) (tk : Takes X (fun c d _ H => E c d H)) (T : ExcK X.K X.mg x C) (hg : Gl X x) (hdb : (x == ("__debug__" : Str)) = false := by decide) :
    PS X (.Raise (some (.Call (.Name x p) [.Constant (.str msg) jz p2] [] pos)) none pos') (tRaise E C) :=
  ps_raise hc tk (pmk_own PySem.F.excBase_ValueError T.xi T.g T.k (raises_own T.b T.t) hg hdb)
end

/-! ### operators of any kind -/
def rAddJ (K : PySem.W.Frag) : R2 := fun x y H Q => rI0 (fun i j => .int (i + j)) x y H Q ∨ (∃ i j, x = .str i ∧ y = .str j ∧ i.length + j.length ≤ sizeLine ∧ Q (.str (i ++ j)) H) ∨ rCatA K x y H Q ∨ rCat x y H Q
def rEqJ (K : PySem.W.Frag) : R2 := fun x y H Q => rEq x y H Q ∨ rEqD K x y H Q
def rNeJ (K : PySem.W.Frag) : R2 := fun x y H Q => rNe x y H Q ∨ rNeD K x y H Q
def rSlJ (K : PySem.W.Frag) : V → Option Int → Option Int → Hp → VK → Prop := fun x lo hi H Q => rSlA K x lo hi H Q ∨ rSlL K x lo hi H Q ∨ C8.rSlX x lo hi H Q
def rLenJ (K : PySem.W.Frag) : List V → Hp → VK → Prop := fun xs H Q => (∃ p ys, xs = [.ref p] ∧ (SqL K H p ys ∨ SqT K H p ys) ∧ Q (.int ys.length) H) ∨ (∃ z, xs = [.str z] ∧ z.length ≤ sizeLine ∧ Q (.int z.length) H)
section
variable {X : Cx}
theorem jo_add : OpR X (binaryOp .Add) (rAddJ X.K) := OpR.or op_add (OpR.or op_add_str (OpR.or op_catA op_cat))
theorem jo_eq (hu : X.A.units + 64 < cLine) : OpR X (compareOp .Eq) (rEqJ X.K) := OpR.or op_eq (op_eqD hu)
theorem jo_ne (hu : X.A.units + 64 < cLine) : OpR X (compareOp .NotEq) (rNeJ X.K) := OpR.or op_ne (op_neD hu)
theorem jo_sl : SlR X (rSlJ X.K) := SlR.or sl_tupA (SlR.or sl_list C8.sl_txt)
theorem jc_len : CallR X (.builtin "len") (rLenJ X.K) := CallR.or call_len_seq call_len_str
end
/-- a[b]: of a list, a tuple, a text, a dict -/
def tIx (K : PySem.W.Frag) (ta tb : TE) : TE := fun σ H Q => tOp (rIx K) ta tb σ H Q ∨ tDGet ta tb σ H Q
def tInJ (K : PySem.W.Frag) (ta tb : TE) : TE := fun σ H Q => tOp (rIn K false) ta tb σ H Q ∨ tDIn ta tb σ H Q ∨ tOp (rInD K) ta tb σ H Q
def tNiJ (K : PySem.W.Frag) (ta tb : TE) : TE := fun σ H Q => tOp (rIn K true) ta tb σ H Q ∨ tDNotIn ta tb σ H Q ∨ tOp (rNotInD K) ta tb σ H Q
section
variable {X : Cx} {a b : Expr} {ta tb : TE} {pos : Pos} {k : Nat}
theorem Room.u65 {A : Around} (r : Room k A) : A.units + 65 < cLine := by have := r.un; omega
theorem pe_ixJ (hr : Room k X.A) (ha : PE X a ta) (hb : PE X b tb) (hs : PlainIx b) (hs2 : NoSl b) : PE X (.Subscript a b pos) (tIx X.K ta tb) := pe_or2 (pe_ix ix_seq ha hb hs) (pe_dget (Nat.lt_of_le_of_lt (by omega) (Room.u65 hr)) ha hb hs2)
theorem pe_inJ (hr : Room k X.A) (ha : PE X a ta) (hb : PE X b tb) (hm : behindInMarks .In b = false) : PE X (.Compare a [.In] [b] pos) (tInJ X.K ta tb) :=
  pe_or2 (pe_cmpR op_in_seq ha hb hm) (pe_or2 (pe_cmp (pc_din (Nat.lt_of_le_of_lt (by omega) (Room.u65 hr)) ha hb) hm) (pe_cmpR (op_inD (Room.u65 hr)) ha hb hm))
theorem pe_niJ (hr : Room k X.A) (ha : PE X a ta) (hb : PE X b tb) (hm : behindInMarks .NotIn b = false) : PE X (.Compare a [.NotIn] [b] pos) (tNiJ X.K ta tb) :=
  pe_or2 (pe_cmpR op_notIn_seq ha hb hm) (pe_or2 (pe_cmp (pc_dnotin (Nat.lt_of_le_of_lt (by omega) (Room.u65 hr)) ha hb) hm) (pe_cmpR (op_notInD (Room.u65 hr)) ha hb hm))
theorem tB_test {t : TE} : tB t = tTest t := rfl
theorem pt_inJ (hr : Room k X.A) (ha : PE X a ta) (hb : PE X b tb) (hm : behindInMarks .In b = false) : PT X (.Compare a [.In] [b] pos) (tTest (tInJ X.K ta tb)) := by
  refine ⟨fun pins s σ H Q I h => ?_⟩
  rcases h with h | h | h
  · exact (pt_cmpR op_in_seq ha hb hm).run pins s σ H Q I h
  · exact (pt_cmp (pc_din (Nat.lt_of_le_of_lt (by omega) (Room.u65 hr)) ha hb) hm).run pins s σ H Q I h
  · exact (pt_cmpR (op_inD (Room.u65 hr)) ha hb hm).run pins s σ H Q I h
theorem pt_niJ (hr : Room k X.A) (ha : PE X a ta) (hb : PE X b tb) (hm : behindInMarks .NotIn b = false) : PT X (.Compare a [.NotIn] [b] pos) (tTest (tNiJ X.K ta tb)) := by
  refine ⟨fun pins s σ H Q I h => ?_⟩
  rcases h with h | h | h
  · exact (pt_cmpR op_notIn_seq ha hb hm).run pins s σ H Q I h
  · exact (pt_cmp (pc_dnotin (Nat.lt_of_le_of_lt (by omega) (Room.u65 hr)) ha hb) hm).run pins s σ H Q I h
  · exact (pt_cmpR (op_notInD (Room.u65 hr)) ha hb hm).run pins s σ H Q I h
end

/-! ### what they give -/
section
variable {K : PySem.W.Frag} {te ta tb : TE} {tl th : TO} {tr : TA} {δ es : List Ent} {e e1 e2 : Ent} {o : Own} {S T : Slot} {ss ts : List Slot} {n m : Nat} {i j : Int}
theorem jv_add : OpE (rAddJ K) (.v (iS i)) (.v (iS j)) (.v (iS (i + j))) := OpE.inl op_I0
theorem jv_adds {x y : Str} (h : x.length + y.length ≤ 100000) : OpE (rAddJ K) (.v (sS x)) (.v (sS y)) (.v (sS (x ++ y))) := OpE.inr (OpE.inl (op_k fun _ _ q => ⟨x, y, rfl, rfl, size_ok h, q⟩))
theorem jv_addt (h : ss.length + ts.length ≤ 100000) : OpE (rAddJ K) (.v (tupS ss)) (.v (tupS ts)) (.v (tupS (ss ++ ts))) := OpE.inr (OpE.inr (OpE.inl fun F H x y s a b Q q => by
  obtain ⟨p, ho, rfl, hp, vs, rfl, pv⟩ := a
  obtain ⟨p', ho', rfl, hp', ws, rfl, pw⟩ := b
  refine ⟨p, p', vs, ws, rfl, rfl, SqT.of (s p _ hp), SqT.of (s p' _ hp'), by rw [pv.length, pw.length]; exact size_ok h, ?_, ?_, ?_⟩
  · rintro rfl
    cases pv
    exact q _ F H (Grow.refl s) ⟨p', _, rfl, hp', ws, rfl, pw⟩
  · rintro _ rfl
    cases pw
    exact q _ F H (Grow.refl s) ⟨p, _, rfl, hp, vs, rfl, by rw [List.append_nil]; exact pv⟩
  · intro _ _ r hr
    have g := Grow.newF (o := .tup (vs ++ ws)) s hr
    exact q _ _ _ g ⟨r, _, rfl, upd_same, _, rfl, PairS.mono g.ff (PairS.app pv pw)⟩))
theorem jo_addl (h1 : IsR e1 (lstO ss)) (h2 : IsR e2 (lstO ts)) (h : ss.length + ts.length ≤ 100000) : OpO (rAddJ K) e1 e2 (lstO (ss ++ ts)) := OpO.inr (OpO.inr (OpO.inr fun F H x y s a b Q q => by
  obtain ⟨p, ho, rfl, hp, vs, rfl, pv⟩ := h1.get a s
  obtain ⟨p', ho', rfl, hp', ws, rfl, pw⟩ := h2.get b s
  exact ⟨p, p', vs, ws, rfl, rfl, hp, hp', by rw [pv.length, pw.length]; exact size_ok h, fun r hr => q r _ F _ (Grow.newH s hr) hr (s.free hr) upd_same ⟨_, rfl, PairS.app pv pw⟩⟩))
theorem jv_eq {x y : V} (h : scal x y = true) : OpE (rEqJ K) (.v (kS x)) (.v (kS y)) (.v (bS (decide (x = y)))) := OpE.inl (op_Eq h)
theorem jv_eqi : OpE (rEqJ K) (.v (iS i)) (.v (iS j)) (.v (bS (decide (i = j)))) := by
  have z := jv_eq (K := K) (x := .int i) (y := .int j) rfl
  have e : decide (V.int i = V.int j) = decide (i = j) := by
    by_cases h : i = j
    · rw [h, decide_eq_true rfl, decide_eq_true rfl]
    · rw [decide_eq_false h, decide_eq_false fun q => h (V.int.inj q)]
  rw [e] at z
  exact z
theorem jv_nei : OpE (rNeJ K) (.v (iS i)) (.v (iS j)) (.v (bS (!decide (i = j)))) := by
  have z : OpE (rNeJ K) (.v (iS i)) (.v (iS j)) (.v (bS (!decide (V.int i = V.int j)))) := OpE.inl (op_Ne rfl)
  have e : decide (V.int i = V.int j) = decide (i = j) := by
    by_cases h : i = j
    · rw [h, decide_eq_true rfl, decide_eq_true rfl]
    · rw [decide_eq_false h, decide_eq_false fun q => h (V.int.inj q)]
  rw [e] at z
  exact z
theorem jv_eqb {a b : Bool} : OpE (rEqJ K) (.v (bS a)) (.v (bS b)) (.v (bS (decide (a = b)))) := by
  have z := jv_eq (K := K) (x := .bl a) (y := .bl b) rfl
  have e : decide (V.bl a = V.bl b) = decide (a = b) := by cases a <;> cases b <;> rfl
  rw [e] at z
  exact z
theorem jv_neb {a b : Bool} : OpE (rNeJ K) (.v (bS a)) (.v (bS b)) (.v (bS (!decide (a = b)))) := by
  have z : OpE (rNeJ K) (.v (bS a)) (.v (bS b)) (.v (bS (!decide (V.bl a = V.bl b)))) := OpE.inl (op_Ne rfl)
  have e : decide (V.bl a = V.bl b) = decide (a = b) := by cases a <;> cases b <;> rfl
  rw [e] at z
  exact z
theorem jv_eqs {a b : Str} : OpE (rEqJ K) (.v (sS a)) (.v (sS b)) (.v (bS (decide (a = b)))) := by
  have z := jv_eq (K := K) (x := .str a) (y := .str b) rfl
  have e : decide (V.str a = V.str b) = decide (a = b) := by
    by_cases h : a = b
    · rw [h, decide_eq_true rfl, decide_eq_true rfl]
    · rw [decide_eq_false h, decide_eq_false fun q => h (V.str.inj q)]
  rw [e] at z
  exact z
/-- data, whatever it is -/
structure Dat (K : PySem.W.Frag) (e : Ent) (d : PyData) : Prop where
  to : ∀ (F H : Hp) (x : V), Same F H → ArgOk F H x e → Dp K H x d
  sh : SeqAt.shaped d = true
structure DatS (K : PySem.W.Frag) (ss : List Slot) (ds : List PyData) : Prop where
  to : ∀ (F H : Hp) (vs : List V), Same F H → PairS F vs ss → DpAll K H vs ds
theorem jv_eqD {d1 d2 : PyData} (h1 : Dat K e1 d1) (h2 : Dat K e2 d2) : OpE (rEqJ K) e1 e2 (.v (bS (PyData.eqv d1 d2))) := OpE.inr fun F H x y s a b Q q => ⟨d1, d2, h1.to F H x s a, h2.to F H y s b, h1.sh, h2.sh, q _ F H (Grow.refl s) rfl⟩
theorem jv_neD {d1 d2 : PyData} (h1 : Dat K e1 d1) (h2 : Dat K e2 d2) : OpE (rNeJ K) e1 e2 (.v (bS (!PyData.eqv d1 d2))) := OpE.inr fun F H x y s a b Q q => ⟨d1, d2, h1.to F H x s a, h2.to F H y s b, h1.sh, h2.sh, q _ F H (Grow.refl s) rfl⟩

/-! ### places -/
theorem jv_ixl {xs : List Slot} (h : IsR e1 (lstO xs)) (hx : xs[n]? = some S) : OpE (rIx K) e1 (.v (iS (n : Int))) (.v S) := fun F H x y s a b Q q => by
  obtain ⟨p, ho, rfl, hp, vs, rfl, pv⟩ := h.get a s
  cases b
  obtain ⟨v, hv, z⟩ := PairS.get pv hx
  exact .inl ⟨p, vs, (n : Int), v, rfl, rfl, SqL.of hp, atI_nat hv, q v F H (Grow.refl s) z⟩
theorem jv_ixt {xs : List Slot} (h : IsR e1 (tupO xs)) (hx : xs[n]? = some S) : OpE (rIx K) e1 (.v (iS (n : Int))) (.v S) := fun F H x y s a b Q q => by
  obtain ⟨p, ho, rfl, hp, vs, rfl, pv⟩ := h.get a s
  cases b
  obtain ⟨v, hv, z⟩ := PairS.get pv hx
  exact .inr (.inl ⟨p, vs, (n : Int), v, rfl, rfl, SqT.of hp, atI_nat hv, q v F H (Grow.refl s) z⟩)
theorem ev_ix (ha : EvE ta δ e1) (hb : EvE tb δ e2) (h : OpE (rIx K) e1 e2 e) : EvE (tIx K ta tb) δ e := fun F0 H0 F H σ s Q q => .inl (ev_op ha hb h F0 H0 F H σ s Q q)
/-- t[lo:hi] -/
def EvPO (to : TO) (δ : List Ent) (r : Option Int) : Prop := ∀ (F0 H0 F H : Hp) (σ : L2.St), St F0 H0 F H σ δ → ∀ Q : Option Int → Hp → Prop, (∀ F' H', Grow F H F' H' → Q r H') → to σ H Q
theorem eo_none : EvPO tNoPart δ none := fun F0 H0 F H σ s Q q => q F H (Grow.refl s.fh)
theorem eo_some (h : EvE te δ (.v (iS i))) : EvPO (tPart te) δ (some i) := fun F0 H0 F H σ s Q q => h F0 H0 F H σ s _ fun v F' H' g a => ⟨i, a, q F' H' g⟩
def cutS' (ss : List Slot) (lo hi : Option Int) : List Slot := (ss.drop (HT.sIx ss.length 0 lo)).take (HT.sIx ss.length ss.length hi - HT.sIx ss.length 0 lo)
theorem ev_slt {lo hi : Option Int} (h : EvE te δ (.v (tupS ss))) (h1 : EvPO tl δ lo) (h2 : EvPO th δ hi) : EvE (tSl (rSlJ K) te tl th) δ (.v (tupS (cutS' ss lo hi))) := fun F0 H0 F H σ s Q q =>
  h F0 H0 F H σ s _ fun x F1 H1 g1 a1 => h1 F0 H0 F1 H1 σ (s.grow g1) _ fun F2 H2 g2 => h2 F0 H0 F2 H2 σ ((s.grow g1).grow g2) _ fun F3 H3 g3 => by
    have g := (g1.trans g2).trans g3
    obtain ⟨p, ho, rfl, hp, vs, rfl, pv⟩ := (tupS ss).mono (g2.trans g3).ff a1
    refine .inl ⟨p, vs, rfl, SqT.of (g3.fh p _ hp), fun ⟨z1, z2⟩ => ?_, fun _ r hr => ?_⟩
    · refine q _ F3 H3 g ⟨p, _, rfl, hp, vs, rfl, ?_⟩
      unfold cutS'
      rw [pv.length] at z1 z2
      rw [z1, z2, List.drop_zero, Nat.sub_zero, List.take_length]
      exact pv
    · have g4 := Grow.newF (o := .tup (cutV vs lo hi)) g3.fh hr
      refine q _ _ _ (g.trans g4) ⟨r, _, rfl, upd_same, _, rfl, PairS.mono g4.ff ?_⟩
      unfold cutS' cutV
      rw [pv.length]
      exact PairS.take _ (PairS.drop _ pv)
theorem eo_sll {lo hi : Option Int} (h : EvE te δ e1) (hr : IsR e1 (lstO ss)) (h1 : EvPO tl δ lo) (h2 : EvPO th δ hi) : EvO (tSl (rSlJ K) te tl th) δ (lstO (cutS' ss lo hi)) := fun F0 H0 F H σ s Q q =>
  h F0 H0 F H σ s _ fun x F1 H1 g1 a1 => h1 F0 H0 F1 H1 σ (s.grow g1) _ fun F2 H2 g2 => h2 F0 H0 F2 H2 σ ((s.grow g1).grow g2) _ fun F3 H3 g3 => by
    have g := (g1.trans g2).trans g3
    obtain ⟨p, ho, rfl, hp, vs, rfl, pv⟩ := hr.get (a1.grow (g2.trans g3)) g3.fh
    refine .inr (.inl ⟨p, vs, rfl, SqL.of hp, fun r hr => ?_⟩)
    refine q r _ F3 _ (g.trans (Grow.newH g3.fh hr)) (g.hh.free hr) (g3.fh.free hr) upd_same ⟨_, rfl, ?_⟩
    unfold cutS' cutV
    rw [pv.length]
    exact PairS.take _ (PairS.drop _ pv)
theorem cut_to (k : Nat) : cutS' ss none (some (k : Int)) = ss.take k := by
  unfold cutS'
  rw [HT.sIx_none, HT.sIx_nat, List.drop_zero, Nat.sub_zero]
  by_cases h : k ≤ ss.length
  · rw [Nat.min_eq_left h]
  · rw [Nat.min_eq_right (by omega), List.take_length, List.take_of_length_le (by omega)]
theorem cut_from (k : Nat) : cutS' ss (some (k : Int)) none = ss.drop k := by
  unfold cutS'
  rw [HT.sIx_none, HT.sIx_nat]
  by_cases h : k ≤ ss.length
  · rw [Nat.min_eq_left h, List.take_of_length_le (by rw [List.length_drop]; omega)]
  · rw [Nat.min_eq_right (by omega), List.drop_length, List.drop_of_length_le (by omega)]
    simp

/-! ### built-in functions -/
def CbE (r : List V → Hp → VK → Prop) (es : List Ent) (e : Ent) : Prop := ∀ (F H : Hp) (xs : List V), Same F H → Paired (ArgOk F H) xs es → ∀ Q : VK, (∀ v F' H', Grow F H F' H' → ArgOk F' H' v e → Q v H') → r xs H Q
def CbO (r : List V → Hp → VK → Prop) (es : List Ent) (o : Own) : Prop := ∀ (F H : Hp) (xs : List V), Same F H → Paired (ArgOk F H) xs es → ∀ Q : VK, (∀ p ho F' H', Grow F H F' H' → H p = none → F' p = none → H' p = some ho → o.P F' p ho → Q (.ref p) H') → r xs H Q
theorem ev_cb {r : List V → Hp → VK → Prop} (h : EvAs tr δ es) (hr : CbE r es e) : EvE (tCB r tr) δ e := fun F0 H0 F H σ s Q q =>
  h F0 H0 F H σ s _ fun vs F1 H1 g1 a1 => hr F1 H1 vs g1.fh a1 Q fun v F2 H2 g2 a2 => q v F2 H2 (g1.trans g2) a2
theorem eo_cb {r : List V → Hp → VK → Prop} (h : EvAs tr δ es) (hr : CbO r es o) : EvO (tCB r tr) δ o := fun F0 H0 F H σ s Q q =>
  h F0 H0 F H σ s _ fun vs F1 H1 g1 a1 => hr F1 H1 vs g1.fh a1 Q fun p ho F2 H2 g2 hn hf hp z => q p ho F2 H2 (g1.trans g2) (g1.hh.free hn) hf hp z
theorem one {F H : Hp} {xs : List V} (h : Paired (ArgOk F H) xs [e]) : ∃ x, xs = [x] ∧ ArgOk F H x e := by
  cases h with
  | cons p t => cases t with
    | nil => exact ⟨_, rfl, p⟩
theorem two {F H : Hp} {xs : List V} (h : Paired (ArgOk F H) xs [e1, e2]) : ∃ x y, xs = [x, y] ∧ ArgOk F H x e1 ∧ ArgOk F H y e2 := by
  cases h with
  | cons p t => cases t with
    | cons p2 t => cases t with
      | nil => exact ⟨_, _, rfl, p, p2⟩
theorem cb_len (h : IsR e1 (lstO ss)) : CbE (rLenJ K) [e1] (.v (iS (ss.length : Int))) := fun F H xs s a Q q => by
  obtain ⟨x, rfl, a1⟩ := one a
  obtain ⟨p, ho, rfl, hp, vs, rfl, pv⟩ := h.get a1 s
  exact .inl ⟨p, vs, rfl, .inl (SqL.of hp), by rw [pv.length]; exact q _ F H (Grow.refl s) rfl⟩
theorem cb_lent (h : IsR e1 (tupO ss)) : CbE (rLenJ K) [e1] (.v (iS (ss.length : Int))) := fun F H xs s a Q q => by
  obtain ⟨x, rfl, a1⟩ := one a
  obtain ⟨p, ho, rfl, hp, vs, rfl, pv⟩ := h.get a1 s
  exact .inl ⟨p, vs, rfl, .inr (SqT.of hp), by rw [pv.length]; exact q _ F H (Grow.refl s) rfl⟩
theorem cb_lens {z : Str} (h : z.length ≤ 100000) : CbE (rLenJ K) [.v (sS z)] (.v (iS (z.length : Int))) := fun F H xs s a Q q => by
  obtain ⟨x, rfl, a1⟩ := one a
  cases a1
  exact .inr ⟨z, rfl, size_ok h, q _ F H (Grow.refl s) rfl⟩
theorem cb_max2 : CbE (fun xs H Q => ∃ i j : Int, xs = [.int i, .int j] ∧ Q (.int (if j > i then j else i)) H) [.v (iS i), .v (iS j)] (.v (iS (max i j))) := fun F H xs s a Q q => by
  obtain ⟨x, y, rfl, a1, a2⟩ := two a
  cases a1
  cases a2
  refine ⟨i, j, rfl, ?_⟩
  have e : (if j > i then j else i) = max i j := by split <;> omega
  rw [e]
  exact q _ F H (Grow.refl s) rfl
theorem cb_min2 : CbE (fun xs H Q => ∃ i j : Int, xs = [.int i, .int j] ∧ Q (.int (if j < i then j else i)) H) [.v (iS i), .v (iS j)] (.v (iS (min i j))) := fun F H xs s a Q q => by
  obtain ⟨x, y, rfl, a1, a2⟩ := two a
  cases a1
  cases a2
  refine ⟨i, j, rfl, ?_⟩
  have e : (if j < i then j else i) = min i j := by split <;> omega
  rw [e]
  exact q _ F H (Grow.refl s) rfl
/-- a value's type, a class -/
def TyE (K : PySem.W.Frag) (e : Ent) (t : Value) : Prop := ∀ (F H : Hp) (x : V), Same F H → ArgOk F H x e → TyX K H x t
theorem cb_isi {t u : Value} {c : V} {b : Bool} (h : TyE K e1 t) (hc : ClsV c u) (hb : PySem.W.kitOne K t u = some b) : CbE (rIsi K) [e1, .v (kS c)] (.v (bS b)) := fun F H xs s a Q q => by
  obtain ⟨x, y, rfl, a1, a2⟩ := two a
  cases a2
  exact ⟨x, c, t, u, b, rfl, hc, h F H x s a1, hb, q _ F H (Grow.refl s) rfl⟩
theorem ty_int : TyE K (.v (iS i)) (.type "int") := fun F H x s a => by cases a; exact .base (.int i)
theorem ty_bl {b : Bool} : TyE K (.v (bS b)) (.type "bool") := fun F H x s a => by cases a; exact .base (.bl b)
theorem ty_str {b : Str} : TyE K (.v (sS b)) (.type "str") := fun F H x s a => by cases a; exact .base (.str b)
theorem ty_non : TyE K (.v nS) (.type "NoneType") := fun F H x s a => by cases a; exact .base .non
theorem ty_lst (h : IsR e1 (lstO ss)) : TyE K e1 (.type "list") := fun F H x s a => by
  obtain ⟨p, ho, rfl, hp, vs, rfl, pv⟩ := h.get a s
  exact .base (.lst hp)
theorem ty_tup (h : IsR e1 (tupO ss)) : TyE K e1 (.type "tuple") := fun F H x s a => by
  obtain ⟨p, ho, rfl, hp, vs, rfl, pv⟩ := h.get a s
  exact .base (.tup hp)
structure InsK (K : PySem.W.Frag) (C : Addr) : Prop where
  cl : Cls K C
  ha : PySem.W.findIn K (.ref C) "__class__" = some (some (.builtin "object.__class__"))
  hn : PySem.W.specialIn K (.builtin "object.__class__") "__get__" = some (some (.builtin "getset_descriptor.__get__"))
  tk : PySem.W.takesIn K (.builtin "object.__class__") = some true
  hm : PySem.W.mroIn K C (.type "object") = some true
theorem ty_ins {C : Addr} {fs : List (Str × Slot)} (k : InsK K C) (h : IsR e1 (insO C fs)) : TyE K e1 (.ref C) := fun F H x s a => by
  obtain ⟨p, ho, rfl, hp, dx, fv, rfl, pv⟩ := h.get a s
  exact .base (.ins hp k.cl k.ha k.hn k.tk k.hm)
/-- list(..), tuple(..) of a list, a tuple -/
theorem co_list (h : IsR e1 (lstO ss)) : CbO (fun xs H Q => ∃ p ys, xs = [.ref p] ∧ (SqL K H p ys ∨ SqT K H p ys) ∧ ∀ l, H l = none → Q (.ref l) (upd H l (.lst ys))) [e1] (lstO ss) := fun F H xs s a Q q => by
  obtain ⟨x, rfl, a1⟩ := one a
  obtain ⟨p, ho, rfl, hp, vs, rfl, pv⟩ := h.get a1 s
  exact ⟨p, vs, rfl, .inl (SqL.of hp), fun l hl => q l _ F _ (Grow.newH s hl) hl (s.free hl) upd_same ⟨vs, rfl, pv⟩⟩
theorem co_listT (h : IsR e1 (tupO ss)) : CbO (fun xs H Q => ∃ p ys, xs = [.ref p] ∧ (SqL K H p ys ∨ SqT K H p ys) ∧ ∀ l, H l = none → Q (.ref l) (upd H l (.lst ys))) [e1] (lstO ss) := fun F H xs s a Q q => by
  obtain ⟨x, rfl, a1⟩ := one a
  obtain ⟨p, ho, rfl, hp, vs, rfl, pv⟩ := h.get a1 s
  exact ⟨p, vs, rfl, .inr (SqT.of hp), fun l hl => q l _ F _ (Grow.newH s hl) hl (s.free hl) upd_same ⟨vs, rfl, pv⟩⟩
theorem cb_tuple (h : IsR e1 (lstO ss)) : CbE (fun xs H Q => ∃ p ys, xs = [.ref p] ∧ ((SqL K H p ys ∧ ∀ l, H l = none → Q (.ref l) (upd H l (.tup ys))) ∨ (SqT K H p ys ∧ Q (.ref p) H))) [e1] (.v (tupS ss)) := fun F H xs s a Q q => by
  obtain ⟨x, rfl, a1⟩ := one a
  obtain ⟨p, ho, rfl, hp, vs, rfl, pv⟩ := h.get a1 s
  refine ⟨p, vs, rfl, .inl ⟨SqL.of hp, fun l hl => ?_⟩⟩
  have g := Grow.newF (o := .tup vs) s hl
  exact q _ _ _ g ⟨l, _, rfl, upd_same, vs, rfl, PairS.mono g.ff pv⟩
end

/-! ### a def's body keeps its promise -/
theorem args_start {F H : Hp} : ∀ {vs : List V} {es : List Ent} {k : Nat}, Same F H → TupIn F H → Paired (ArgOk F H) vs es → St F H F H (vs.map some ++ List.replicate k none) (es ++ List.replicate k .un) := by
  intro vs es k s tt h
  have hl := h.length
  refine ⟨Grow.refl s, by simp [hl], fun i S hi => ?_, fun i o hi => ?_, fun i o hi => ?_, fun i j o o' a _ h1 _ _ _ => ?_, tt⟩
  all_goals
    have key : ∀ {n : Nat} {e : Ent}, e ≠ .un → (es ++ List.replicate k Ent.un)[n]? = some e → ∃ v, (vs.map some ++ List.replicate k (none : Option V))[n]? = some (some v) ∧ ArgOk F H v e := by
      intro n e he hn
      by_cases hlt : n < es.length
      · rw [List.getElem?_append_left hlt] at hn
        rw [List.getElem?_append_left (by rw [List.length_map]; omega)]
        have get : ∀ {vs : List V} {es : List Ent} {n : Nat}, Paired (ArgOk F H) vs es → es[n]? = some e → ∃ v, vs[n]? = some v ∧ ArgOk F H v e := by
          intro vs es n h
          induction h generalizing n with
          | nil => intro z; simp at z
          | cons p t ih =>
            intro z
            cases n with
            | zero =>
              cases z
              exact ⟨_, rfl, p⟩
            | succ n =>
              obtain ⟨v, e1, e2⟩ := ih (by simpa using z)
              exact ⟨v, by simpa using e1, e2⟩
        obtain ⟨v, e1, e2⟩ := get h hn
        exact ⟨v, by rw [List.getElem?_map, e1]; rfl, e2⟩
      · rw [List.getElem?_append_right (by omega)] at hn
        rw [List.getElem?_replicate] at hn
        split at hn
        · exact (he (Option.some.inj hn).symm).elim
        · cases hn
  · exact key (e := .v S) (by intro z; cases z) hi
  · obtain ⟨v, _, z⟩ := key (e := .ow o) (by intro z; cases z) hi
    exact z.elim
  · obtain ⟨v, e1, p, ho, rfl, hp, z⟩ := key (e := .bo o) (by intro z; cases z) hi
    exact ⟨p, ho, e1, hp, z⟩
  · obtain ⟨v, _, z⟩ := key (e := .ow o) (by intro z; cases z) h1
    exact z.elim
section
variable {P : Program} {w : World} {K : PySem.W.Frag} {mg : Str → Option Value} {base : Heap}
theorem fn_ok {x qual : Str} {st : Stmt} {f : Addr} {fd : FuncData} {N ps : List Str} {k : Nat} {R : Rel} (F : Fun K x qual st f fd) (S : FnScope N ps (defScope st)) (len : ∀ es r, R es r → es.length = ps.length)
    (hbody : ∀ (cdv : Value) (A : Around) (outer : List Env) (s : Shared) (H : Hp) (E : XK), Room k (A.deeper (envOfC qual (defScope st) s.heap.objs.size f cdv)) →
      ∃ t, PSs (cxOf (L2.CX P w) P w K mg base N qual (defScope st) f cdv A outer s H E) (defBody st) t ∧
        ∀ (es : List Ent) (r : Res) (F : Hp) (σ : L2.St) (Q : VK), R es r → St F H F H σ (es ++ List.replicate (N.length - es.length) .un) → r.post F H Q E → t { nx := fun _ H' => Q .non H', rt := Q } σ H) :
    FnOk P w K mg base (L2.CX P w) (k + 1) f fd ps (SpOf R) := by
  refine F.okX S (fun vs H Q E ⟨F, es, r, _, _, ha, hR, _⟩ => ha.length.trans (len es r hR)) (fun cdv A outer s H vs Q E hr ⟨F, es, r, sm, tt, ha, hR, k⟩ => ?_)
  obtain ⟨t, ht, hq⟩ := hbody cdv A outer s H E hr
  refine ⟨t, ht, hq es r F _ Q hR ?_ k⟩
  have e := ha.length
  unfold L2.start
  rw [e]
  exact args_start sm tt ha
/-- self, in __init__ -/
def selO (p C : Addr) (fs : List (Str × Slot)) : Own := ⟨fun F a ho => a = p ∧ (insO C fs).P F a ho, fun s h => ⟨h.1, (insO C fs).mono s h.2⟩⟩
theorem St.self {F H : Hp} {p dx C : Addr} {vs : List V} {es : List Ent} {k : Nat} (sm : Same F (era H p)) (tt : TupIn F (era H p)) (ha : Paired (ArgOk F (era H p)) vs es) (hp : H p = some (.ins C dx [])) :
    St F (era H p) F H ((V.ref p :: vs).map some ++ List.replicate k none) ((.ow (selO p C []) :: es) ++ List.replicate k .un) := by
  have s0 : St F (era H p) F (era H p) (some (V.ref p) :: (vs.map some ++ List.replicate k none)) (.un :: (es ++ List.replicate k .un)) := by
    have z := args_start (k := k) sm tt ha
    refine ⟨z.g, by rw [List.length_cons, List.length_cons, z.len], fun i S hi => ?_, fun i o hi => ?_, fun i o hi => ?_, fun i j o o' a ne h1 h2 h3 h4 => ?_, z.tt⟩
    · cases i with
      | zero => cases hi
      | succ i => exact z.at_ i S hi
    · cases i with
      | zero => cases hi
      | succ i => exact z.ow i o hi
    · cases i with
      | zero => cases hi
      | succ i => exact z.bo i o hi
    · cases i with
      | zero => cases h1
      | succ i => cases j with
        | zero => cases h2
        | succ j => exact z.sep i j o o' a (fun q => ne (by rw [q])) h1 h2 h3 h4
  have g : Grow F (era H p) F H := ⟨Same.refl F, era_sub, fun b o e => era_sub b o (sm b o e), fun _ _ n => n, fun t a vs e => t a vs (by rw [era_ne (fun z => by rw [z, hp] at e; cases e)]; exact e)⟩
  have hf : F p = none := by
    cases q : F p with
    | none => rfl
    | some u =>
      have := sm p u q
      rw [era_same] at this
      cases this
  exact s0.set_ow (i := 0) (p := p) g era_same hf hp ⟨rfl, dx, [], rfl, .nil⟩
theorem q_self {F0 H0 F H : Hp} {σ : L2.St} {δ : List Ent} {te : TE} {tz : TS} {D : Ends} {S : Slot} {i : Nat} {fs : List (Str × Slot)} {f : Str} {p C : Addr} (s : St F0 H0 F H σ δ) (hi : δ[i]? = some (.ow (selO p C fs))) (h : EvE te δ (.v S)) (kf : FldOk K C f)
    (hn : fs.lookup f = none) (hz : fs.length < 900) (k : ∀ σ' F' H', St F0 H0 F' H' σ' (δ.set i (.ow (selO p C (putS f S fs)))) → tz D σ' H') : tSeq (sFld K (tVar i) te f) tz D σ H := by
  refine h F0 H0 F H σ s _ fun v F1 H1 g1 a1 => ?_
  have s1 := s.grow g1
  obtain ⟨p', ho, e, hp, rfl, dx, fv, rfl, pf⟩ := s1.loc hi
  refine ⟨.ref p', e, p', C, dx, fv, rfl, hp, kf.c, kf.n, by rw [pf.length]; omega, ?_⟩
  exact k _ F1 _ (s1.mut hi e ⟨rfl, dx, _, rfl, PairF.put pf a1 hn⟩)
theorem init_ok {qual : Str} {st : Stmt} {f C : Addr} {fd : FuncData} {N ps : List Str} {k : Nat} {R : RelI} (F : Fun K "__init__" qual st f fd) (S : FnScope N ps (defScope st)) (len : ∀ es r, R es r → es.length + 1 = ps.length)
    (hbody : ∀ (cdv : Value) (A : Around) (outer : List Env) (s : Shared) (H : Hp) (E : XK), Room k (A.deeper (envOfC qual (defScope st) s.heap.objs.size f cdv)) →
      ∃ t, PSs (cxOf (L2.CX P w) P w K mg base N qual (defScope st) f cdv A outer s H E) (defBody st) t ∧
        ∀ (p : Addr) (es : List Ent) (r : Except Addr (List (Str × Slot))) (F H0 H : Hp) (σ : L2.St) (D : Ends), R es r → St F H0 F H σ ((.ow (selO p C []) :: es) ++ List.replicate (N.length - (es.length + 1)) .un) →
          (match r with
            | .ok fs => ∀ σ' F' H' δ, St F H0 F' H' σ' δ → δ[0]? = some (.ow (selO p C fs)) → D.nx σ' H'
            | .error c => ∀ F' H', Grow F H0 F' H' → E (.ref c) none H') → t D σ H) :
    FnOk P w K mg base (L2.CX P w) (k + 1) f fd ps (SpInit C R) := by
  refine F.okX S (fun vs H Q E ⟨p, dx, ws, F, es, r, e, _, _, _, ha, hR, _⟩ => by rw [e, List.length_cons, ha.length]; exact len es r hR) (fun cdv A outer s H vs Q E hr ⟨p, dx, ws, F, es, r, e, hp, sm, tt, ha, hR, k⟩ => ?_)
  obtain ⟨t, ht, hq⟩ := hbody cdv A outer s H E hr
  refine ⟨t, ht, ?_⟩
  subst e
  have hl := ha.length
  refine hq p es r F (era H p) H _ _ hR ?_ ?_
  · unfold L2.start
    rw [List.length_cons, hl]
    exact St.self sm tt ha hp
  · have er : ∀ {F' H' : Hp}, Grow F (era H p) F' H' → F' p = none → Grow F (era H p) F' (era H' p) := fun {F' H'} g n => by
      refine ⟨g.ff, fun b o e => ?_, fun b o e => ?_, g.nw, fun t a vs e => g.tt t a vs (era_sub _ _ e)⟩
      · have hb : b ≠ p := fun z => by
          rw [z, era_same] at e
          cases e
        rw [era_ne hb]
        exact g.hh b o e
      · have hb : b ≠ p := ne_of_none e n
        rw [era_ne hb]
        exact g.fh b o e
    cases r with
    | ok fs =>
      intro σ' F' H' δ s' hδ
      obtain ⟨p', ho, _, _, hf, hp', rfl, dx', fv, rfl, pf⟩ := s'.ow 0 _ hδ
      exact k F' H' dx' fv (er s'.g hf) hp' hf pf
    | error c =>
      exact k
end
end J

namespace J
open PySem PySem.Spec L2 PyProof.Rows
/-! ### the built-in names -/
theorem bt_len : bootBuiltins "len" = some (.builtin "len") := by decide +kernel
theorem bt_isinstance : bootBuiltins "isinstance" = some (.builtin "isinstance") := by decide +kernel
theorem bt_sum : bootBuiltins "sum" = some (.builtin "sum") := by decide +kernel
theorem bt_any : bootBuiltins "any" = some (.builtin "any") := by decide +kernel
theorem bt_all : bootBuiltins "all" = some (.builtin "all") := by decide +kernel
theorem bt_sorted : bootBuiltins "sorted" = some (.builtin "sorted") := by decide +kernel
theorem bt_max : bootBuiltins "max" = some (.builtin "max") := by decide +kernel
theorem bt_min : bootBuiltins "min" = some (.builtin "min") := by decide +kernel
theorem bt_list : bootBuiltins "list" = some (.type "list") := by decide +kernel
theorem bt_tuple : bootBuiltins "tuple" = some (.type "tuple") := by decide +kernel
theorem bt_str : bootBuiltins "str" = some (.type "str") := by decide +kernel
theorem bt_int : bootBuiltins "int" = some (.type "int") := by decide +kernel
theorem bt_bool : bootBuiltins "bool" = some (.type "bool") := by decide +kernel
theorem bt_dict : bootBuiltins "dict" = some (.type "dict") := by decide +kernel
theorem bt_ValueError : bootBuiltins "ValueError" = some (.type "ValueError") := by decide +kernel
/-! ### a def, a method, a class of the text -/
structure DefT (K : PySem.W.Frag) (mg : Str → Option Value) (x : Str) (st : Stmt) (ps : List Str) : Prop where
  ex : ∃ (f : Addr) (fd : FuncData), Fun K x x st f fd ∧ mg x = some (.ref f) ∧ Binds K fd ps []
structure MetT (K : PySem.W.Frag) (C : Addr) (m qual : Str) (st : Stmt) (ps : List Str) : Prop where
  ex : ∃ (f : Addr) (fd : FuncData), Fun K m qual st f fd ∧ Cls K C ∧ Meth K C m f ∧ Binds K fd ps []
structure IniT (K : PySem.W.Frag) (mg : Str → Option Value) (x : Str) (C : Addr) (qual : Str) (st : Stmt) (ps : List Str) : Prop where
  ex : ∃ (f : Addr) (fd : FuncData), Fun K "__init__" qual st f fd ∧ Mk K C f ∧ mg x = some (.ref C) ∧ Binds K fd ps []
section
variable {P : Program} {w : World} {K : PySem.W.Frag} {mg : Str → Option Value} {base : Heap} {N : List Str} {q : Str} {sc : Scope} {f : Addr} {cd : Value} {A : Around} {outer : List Env} {s : Shared} {H : Hp} {E : XK}
theorem cx_K : (cxOf (L2.CX P w) P w K mg base N q sc f cd A outer s H E).K = K := rfl
theorem tk_of : Takes (cxOf (L2.CX P w) P w K mg base N q sc f cd A outer s H E) (fun c d _ H => E c d H) := takes_of rfl rfl rfl rfl
theorem px_of : Passes (L2.CX P w) (cxOf (L2.CX P w) P w K mg base N q sc f cd A outer s H E) E := passes_call tk_of fun _ _ _ _ h => h
end
theorem Room.u64 {A : Around} {k : Nat} (r : Room k A) : A.units + 64 < cLine := r.units
section
variable {X : Cx}
theorem jo_mul : OpR X (binaryOp .Mult) (rI CMul fun i j => .int (i * j)) := op_mul
theorem jc_list : CallR X (.type "list") (fun xs H Q => ∃ p ys, xs = [.ref p] ∧ (SqL X.K H p ys ∨ SqT X.K H p ys) ∧ ∀ l, H l = none → Q (.ref l) (upd H l (.lst ys))) := call_list_of
end
/-! ### types -/
theorem kt_ii {K : PySem.W.Frag} : PySem.W.kitOne K (.type "int") (.type "int") = some true := kit_ty (by decide +kernel)
theorem kt_ib {K : PySem.W.Frag} : PySem.W.kitOne K (.type "int") (.type "bool") = some false := kit_ty (by decide +kernel)
theorem kt_bb {K : PySem.W.Frag} : PySem.W.kitOne K (.type "bool") (.type "bool") = some true := kit_ty (by decide +kernel)
theorem kt_bi {K : PySem.W.Frag} : PySem.W.kitOne K (.type "bool") (.type "int") = some true := kit_ty (by decide +kernel)
theorem kt_ll {K : PySem.W.Frag} : PySem.W.kitOne K (.type "list") (.type "list") = some true := kit_ty (by decide +kernel)
theorem kt_tt {K : PySem.W.Frag} : PySem.W.kitOne K (.type "tuple") (.type "tuple") = some true := kit_ty (by decide +kernel)
theorem kt_ss {K : PySem.W.Frag} : PySem.W.kitOne K (.type "str") (.type "str") = some true := kit_ty (by decide +kernel)
/-! ### the same rules with the written part by name -/
section
variable {X : Cx} {K : PySem.W.Frag} {a b o e : Expr} {es : List Expr} {ta tb te to : TE} {t : TA} {pos apos : Pos} {k : Nat} {f : Str}
theorem ko_add (hK : X.K = K) : OpR X (binaryOp .Add) (rAddJ K) := by subst hK; exact jo_add
theorem ko_eq (hK : X.K = K) (hr : Room k X.A) : OpR X (compareOp .Eq) (rEqJ K) := by subst hK; exact jo_eq (Room.u64 hr)
theorem ko_ne (hK : X.K = K) (hr : Room k X.A) : OpR X (compareOp .NotEq) (rNeJ K) := by subst hK; exact jo_ne (Room.u64 hr)
theorem ko_sl (hK : X.K = K) : SlR X (rSlJ K) := by subst hK; exact jo_sl
theorem kc_len (hK : X.K = K) : CallR X (.builtin "len") (rLenJ K) := by subst hK; exact jc_len
theorem kc_isi (hK : X.K = K) : CallR X (.builtin "isinstance") (rIsi K) := by subst hK; exact call_isi
def rLstJ (K : PySem.W.Frag) : List V → Hp → VK → Prop := fun xs H Q => ∃ p ys, xs = [.ref p] ∧ (SqL K H p ys ∨ SqT K H p ys) ∧ ∀ l, H l = none → Q (.ref l) (upd H l (.lst ys))
def rTupJ (K : PySem.W.Frag) : List V → Hp → VK → Prop := fun xs H Q => ∃ p ys, xs = [.ref p] ∧ ((SqL K H p ys ∧ ∀ l, H l = none → Q (.ref l) (upd H l (.tup ys))) ∨ (SqT K H p ys ∧ Q (.ref p) H))
theorem kc_list (hK : X.K = K) : CallR X (.type "list") (rLstJ K) := by subst hK; exact call_list_of
theorem kc_tuple (hK : X.K = K) : CallR X (.type "tuple") (rTupJ K) := by subst hK; exact call_tuple_of
theorem kc_sum (hK : X.K = K) (hc : X.calm = true) : CallR X (.builtin "sum") (rSum K) := by subst hK; exact cr_sum hc
theorem kc_any (hK : X.K = K) (hc : X.calm = true) : CallR X (.builtin "any") (rAny K) := by subst hK; exact cr_any hc
theorem kc_all (hK : X.K = K) (hc : X.calm = true) : CallR X (.builtin "all") (rAll K) := by subst hK; exact cr_all hc
theorem kc_max (hK : X.K = K) (hc : X.calm = true) : CallR X (.builtin "max") (rMax K) := by subst hK; exact cr_max hc
theorem kc_min (hK : X.K = K) (hc : X.calm = true) : CallR X (.builtin "min") (rMin K) := by subst hK; exact cr_min hc
def rMax2 : List V → Hp → VK → Prop := fun xs H Q => ∃ i j : Int, xs = [.int i, .int j] ∧ Q (.int (if j > i then j else i)) H
def rMin2 : List V → Hp → VK → Prop := fun xs H Q => ∃ i j : Int, xs = [.int i, .int j] ∧ Q (.int (if j < i then j else i)) H
theorem kc_max2 (hc : X.calm = true) : CallR X (.builtin "max") rMax2 := call_max2 hc
theorem kc_min2 (hc : X.calm = true) : CallR X (.builtin "min") rMin2 := call_min2 hc
theorem ke_fld (hK : X.K = K) (he : PE X e te) (hb : attributeBase e f X.env (eval e X.env) = eval e X.env) : PE X (.Attribute e f pos) (tFld K te f) := by subst hK; exact pe_fld he hb
theorem ke_ix (hK : X.K = K) (hr : Room k X.A) (ha : PE X a ta) (hb : PE X b tb) (hs : PlainIx b) (hs2 : NoSl b) : PE X (.Subscript a b pos) (tIx K ta tb) := by subst hK; exact pe_ixJ hr ha hb hs hs2
theorem ke_in (hK : X.K = K) (hr : Room k X.A) (ha : PE X a ta) (hb : PE X b tb) (hm : behindInMarks .In b = false) : PE X (.Compare a [.In] [b] pos) (tInJ K ta tb) := by subst hK; exact pe_inJ hr ha hb hm
theorem ke_ni (hK : X.K = K) (hr : Room k X.A) (ha : PE X a ta) (hb : PE X b tb) (hm : behindInMarks .NotIn b = false) : PE X (.Compare a [.NotIn] [b] pos) (tNiJ K ta tb) := by subst hK; exact pe_niJ hr ha hb hm
theorem kt_in (hK : X.K = K) (hr : Room k X.A) (ha : PE X a ta) (hb : PE X b tb) (hm : behindInMarks .In b = false) : PT X (.Compare a [.In] [b] pos) (tTest (tInJ K ta tb)) := by subst hK; exact pt_inJ hr ha hb hm
theorem kt_ni (hK : X.K = K) (hr : Room k X.A) (ha : PE X a ta) (hb : PE X b tb) (hm : behindInMarks .NotIn b = false) : PT X (.Compare a [.NotIn] [b] pos) (tTest (tNiJ K ta tb)) := by subst hK; exact pt_niJ hr ha hb hm
theorem ki_any {tg l : Expr} {tl : TE} (hK : X.K = K) (h : PE X l tl) : PI X tg l (iAny K tl) := by subst hK; exact pi_any h
end
end J

namespace J
open PySem PySem.Spec L2 PyProof.Rows
section
variable {K : PySem.W.Frag} {te ta tb : TE} {tl th : TO} {tr : TA} {δ es : List Ent} {e e1 e2 : Ent} {o : Own} {S T : Slot} {ss ts : List Slot} {n m : Nat} {i j : Int}
theorem kb_max2 : CbE rMax2 [.v (iS i), .v (iS j)] (.v (iS (max i j))) := cb_max2
theorem kb_min2 : CbE rMin2 [.v (iS i), .v (iS j)] (.v (iS (min i j))) := cb_min2
theorem kb_tuple (h : IsR e1 (lstO ss)) : CbE (rTupJ K) [e1] (.v (tupS ss)) := cb_tuple h
theorem kb_list (h : IsR e1 (lstO ss)) : CbO (rLstJ K) [e1] (lstO ss) := co_list h
theorem kb_listT (h : IsR e1 (tupO ss)) : CbO (rLstJ K) [e1] (lstO ss) := co_listT h
/-! ### places, by a number that is not negative -/
theorem nat_of {i : Int} (h : 0 ≤ i) : ∃ n : Nat, i = (n : Int) := ⟨i.toNat, by omega⟩
theorem jx_l {α : Type} {f : α → Slot} {xs : List α} {a : α} (h : IsR e1 (lstO (xs.map f))) (h0 : 0 ≤ i) (hx : xs[i.toNat]? = some a) : OpE (rIx K) e1 (.v (iS i)) (.v (f a)) := by
  obtain ⟨n, rfl⟩ := nat_of h0
  exact jv_ixl h (by rw [List.getElem?_map, show xs[n]? = some a from hx]; rfl)
theorem jx_t {α : Type} {f : α → Slot} {xs : List α} {a : α} (h : IsR e1 (tupO (xs.map f))) (h0 : 0 ≤ i) (hx : xs[i.toNat]? = some a) : OpE (rIx K) e1 (.v (iS i)) (.v (f a)) := by
  obtain ⟨n, rfl⟩ := nat_of h0
  exact jv_ixt h (by rw [List.getElem?_map, show xs[n]? = some a from hx]; rfl)
theorem jx_ls (h : IsR e1 (lstO ss)) (h0 : 0 ≤ i) (hx : ss[i.toNat]? = some S) : OpE (rIx K) e1 (.v (iS i)) (.v S) := by
  obtain ⟨n, rfl⟩ := nat_of h0
  exact jv_ixl h hx
theorem jx_ts (h : IsR e1 (tupO ss)) (h0 : 0 ≤ i) (hx : ss[i.toNat]? = some S) : OpE (rIx K) e1 (.v (iS i)) (.v S) := by
  obtain ⟨n, rfl⟩ := nat_of h0
  exact jv_ixt h hx
theorem len_map {α : Type} {f : α → Slot} {xs : List α} : (xs.map f).length = xs.length := List.length_map ..
theorem cb_lenM {α : Type} {f : α → Slot} {xs : List α} (h : IsR e1 (lstO (xs.map f))) : CbE (rLenJ K) [e1] (.v (iS (xs.length : Int))) := by
  have z := cb_len (K := K) h
  rw [List.length_map] at z
  exact z
theorem cb_lentM {α : Type} {f : α → Slot} {xs : List α} (h : IsR e1 (tupO (xs.map f))) : CbE (rLenJ K) [e1] (.v (iS (xs.length : Int))) := by
  have z := cb_lent (K := K) h
  rw [List.length_map] at z
  exact z
theorem lk0 {f : Str} {a : Slot} {r : List (Str × Slot)} : ((f, a) :: r).lookup f = some a := List.lookup_cons_self
theorem lk1 {f g : Str} {a : Slot} {r : List (Str × Slot)} {x : Option Slot} (h : (g == f) = false) (hr : r.lookup g = x) : ((f, a) :: r).lookup g = x := by
  rw [List.lookup_cons, h]
  exact hr
theorem lkn {g : Str} : ([] : List (Str × Slot)).lookup g = none := rfl
/-- a written tuple -/
def EvV (ta : TA) (δ : List Ent) (ss : List Slot) : Prop := EvAs ta δ (ss.map .v)
theorem ea_nilV : EvV tNil δ [] := ea_nil
theorem ea_consV (h : EvE te δ (.v S)) (hr : EvV tr δ ss) : EvV (tCons te tr) δ (S :: ss) := ea_cons h hr
theorem ev_tupN {ta : TA} (h : EvV ta δ ss) (hl : ss.length ≤ 1000) : EvE (tTup ta) δ (.v (tupS ss)) := ev_tup h (Nat.le_trans hl (by decide))
theorem eo_lstN {ta : TA} (h : EvV ta δ ss) (hl : ss.length ≤ 1000) : EvO (tLst ta) δ (lstO ss) := eo_lst h (Nat.le_trans hl (by decide))
theorem cb_isl (h : IsR e1 (lstO ss)) : CbE (rIsi K) [e1, .v (kS (.ty "list"))] (.v (bS true)) := cb_isi (ty_lst h) (.ty _) kt_ll
theorem cb_ist (h : IsR e1 (tupO ss)) : CbE (rIsi K) [e1, .v (kS (.ty "tuple"))] (.v (bS true)) := cb_isi (ty_tup h) (.ty _) kt_tt
theorem jv_sub : OpE (rI0 fun i j => .int (i - j)) (.v (iS i)) (.v (iS j)) (.v (iS (i - j))) := op_I0
theorem jv_le : OpE (rI0 fun i j => .bl (decide (i ≤ j))) (.v (iS i)) (.v (iS j)) (.v (bS (decide (i ≤ j)))) := op_I0

/-! ### more: list(range(n)), one of several readings, a list handed on -/
theorem eo_listRg (h : EvE te δ (.v (iS i))) (hn : i.toNat = n) (hb : -100000 ≤ i ∧ i ≤ 100000) : EvO (tLstRg (tRg1 te)) δ (lstO ((List.range n).map fun k : Nat => iS (k : Int))) := fun F0 H0 F H σ s Q q =>
  h F0 H0 F H σ s _ fun v F1 H1 g1 a1 => by
    refine ⟨i, a1, ⟨by omega, by omega, by omega, by omega, ?_⟩, fun p hp => ?_⟩
    · rw [Int.sub_zero]
      exact Nat.le_trans (by omega) (by decide : 100000 ≤ 2 ^ 24)
    · refine q p _ F1 _ (g1.trans (Grow.newH g1.fh hp)) (g1.hh.free hp) (g1.fh.free hp) upd_same ⟨_, rfl, ?_⟩
      unfold rgV
      rw [Int.sub_zero, hn]
      have z := PairS.ofk (F := F1) (fun k : Nat => V.int (0 + (k : Int))) (List.range n)
      have e : (fun x : Nat => kS (V.int (0 + (x : Int)))) = fun k : Nat => iS (k : Int) := by
        funext k
        rw [Int.zero_add]
      rw [e] at z
      exact z
theorem ev_orl {t u : TE} (h : EvE t δ e) : EvE (fun σ H Q => t σ H Q ∨ u σ H Q) δ e := fun F0 H0 F H σ s Q q => .inl (h F0 H0 F H σ s Q q)
theorem ev_orr {t u : TE} (h : EvE u δ e) : EvE (fun σ H Q => t σ H Q ∨ u σ H Q) δ e := fun F0 H0 F H σ s Q q => .inr (h F0 H0 F H σ s Q q)
theorem eo_orl {t u : TE} (h : EvO t δ o) : EvO (fun σ H Q => t σ H Q ∨ u σ H Q) δ o := fun F0 H0 F H σ s Q q => .inl (h F0 H0 F H σ s Q q)
theorem eo_orr {t u : TE} (h : EvO u δ o) : EvO (fun σ H Q => t σ H Q ∨ u σ H Q) δ o := fun F0 H0 F H σ s Q q => .inr (h F0 H0 F H σ s Q q)
theorem q_mv {F0 H0 F H : Hp} {σ : L2.St} {tz : TS} {D : Ends} {i j : Nat} (s : St F0 H0 F H σ δ) (hj : δ[j]? = some (.ow o)) (k : ∀ σ' F' H', St F0 H0 F' H' σ' ((δ.set j .un).set i (.ow o)) → tz D σ' H') : tSeq (tAsg (tVar j) (gName i)) tz D σ H := by
  obtain ⟨p, ho, e, h0, hf, hp, z⟩ := s.ow j o hj
  refine ⟨.ref p, e, ?_⟩
  have hj' : j < δ.length := (List.getElem?_eq_some_iff.mp hj).1
  refine k _ F H ?_
  have s1 : St F0 H0 F H σ (δ.set j .un) := by
    have x := s.set_un (i := j) (σ[j]?.join)
    have e2 : σ.set j (σ[j]?.join) = σ := by
      rw [e]
      obtain ⟨hlt, e3⟩ := List.getElem?_eq_some_iff.mp e
      show σ.set j (some (V.ref p)) = σ
      rw [← e3]
      exact List.set_getElem_self hlt
    rw [e2] at x
    exact x
  refine ⟨s1.g, by rw [List.length_set, List.length_set]; exact s1.len, fun m S' h => ?_, fun m o' h => ?_, fun m o' h => ?_, fun m l o1 o2 a ne h1 h2 h3 h4 => ?_, s1.tt⟩
  · rcases get_set h with ⟨rfl, e', hl⟩ | ⟨ne, h⟩
    · cases e'
    · obtain ⟨w, e', q⟩ := s1.at_ m S' h
      exact ⟨w, by rw [List.getElem?_set_ne (fun z => ne z.symm)]; exact e', q⟩
  · rcases get_set h with ⟨rfl, e', hl⟩ | ⟨ne, h⟩
    · cases e'
      exact ⟨p, ho, List.getElem?_set_self (by rw [s1.len]; exact hl), h0, hf, hp, z⟩
    · obtain ⟨w, ho', e', q⟩ := s1.ow m o' h
      exact ⟨w, ho', by rw [List.getElem?_set_ne (fun z => ne z.symm)]; exact e', q⟩
  · rcases get_set h with ⟨rfl, e', hl⟩ | ⟨ne, h⟩
    · cases e'
    · obtain ⟨w, ho', e', q⟩ := s1.bo m o' h
      exact ⟨w, ho', by rw [List.getElem?_set_ne (fun z => ne z.symm)]; exact e', q⟩
  · have away : ∀ {l : Nat} {o3 : Own}, (δ.set j Ent.un)[l]? = some (.ow o3) → σ[l]? = some (some (V.ref p)) → False := fun {l o3} h5 h6 => by
      rcases get_set h5 with ⟨_, e', _⟩ | ⟨nl, h5⟩
      · cases e'
      · exact s.sep l j o3 o p nl h5 hj h6 e
    rcases get_set h1 with ⟨z1, e1', l1⟩ | ⟨n1, g1⟩
    · rcases get_set h2 with ⟨z2, e2', l2⟩ | ⟨n2, g2⟩
      · exact ne (z1.trans z2.symm)
      · rw [z1, List.getElem?_set_self (by rw [s1.len]; exact l1)] at h3
        rw [List.getElem?_set_ne (fun z => n2 z.symm)] at h4
        cases h3
        exact away g2 h4
    · rw [List.getElem?_set_ne (fun z => n1 z.symm)] at h3
      rcases get_set h2 with ⟨z2, e2', l2⟩ | ⟨n2, g2⟩
      · rw [z2, List.getElem?_set_self (by rw [s1.len]; exact l2)] at h4
        cases h4
        exact away g1 h3
      · rw [List.getElem?_set_ne (fun z => n2 z.symm)] at h4
        exact s1.sep m l o1 o2 a ne g1 g2 h3 h4

/-! ### comprehensions without a test -/
theorem filt1 {α : Type} : ∀ l : List α, l.filter (fun _ => true) = l
  | [] => rfl
  | a :: l => by rw [List.filter_cons, if_pos rfl, filt1 l]
theorem eo_lcM {α : Type} {j : Nat} (ex : α → Slot) (xs : List α) (f : α → Slot) (h : EvE ta δ e1) (hr : IsR e1 (lstO (xs.map ex))) (hz : xs.length ≤ 40000) (he : ∀ x ∈ xs, EvE te (δ.set j (.v (ex x))) (.v (f x))) :
    EvO (tLc (iAny K ta) (gName j) tYes te [j]) δ (lstO (xs.map f)) := by
  have z := eo_lcL (K := K) (j := j) ex xs (fun _ => true) f h hr hz (fun _ _ => et_yes) (fun x hx _ => he x hx)
  rw [filt1] at z
  exact z
theorem eo_lcRM {j : Nat} {n : Nat} {z : Int} {tl : TA} (f : Nat → Slot) (h : EvAs tl δ [.v (iS z)]) (hz : z.toNat = n) (hn : z ≤ 40000 ∧ -100000 ≤ z) (he : ∀ m, m < n → EvE te (δ.set j (.v (iS (m : Int)))) (.v (f m))) :
    EvO (tLc (iRng1 tl) (gName j) tYes te [j]) δ (lstO ((List.range n).map f)) := by
  have z := eo_lcR (j := j) (fun _ => true) f h hz hn (fun _ _ => et_yes) (fun x hx _ => he x hx)
  rw [filt1] at z
  exact z
end
end J

namespace J
open PySem PySem.Spec L2 PyProof.Rows
/-! ### data -/
structure DS (K : PySem.W.Frag) (n : Nat) (S : Slot) (d : PyData) : Prop where
  to : ∀ (F H : Hp) (v : V), Same F H → S.P F v → Dp K H v d
  cl : d.canLay0 = true
  dp : d.depth ≤ n
structure DO (K : PySem.W.Frag) (n : Nat) (o : Own) (d : PyData) : Prop where
  to : ∀ (F H : Hp) (p : Addr) (ho : HO), Same F H → H p = some ho → o.P F p ho → Dp K H (.ref p) d
  cl : d.canLay0 = true
  dp : d.depth ≤ n
section
variable {K : PySem.W.Frag} {n m : Nat} {S : Slot} {o : Own} {d : PyData}
theorem DO.ds (h : DO K n o d) : DS K n (refS o) d := ⟨fun F H v s ⟨p, ho, e, hp, z⟩ => by subst e; exact h.to F H p ho s (s p _ hp) z, h.cl, h.dp⟩
theorem ds_int {i : Int} : DS K n (iS i) (.int i) := ⟨fun F H v s e => by cases e; exact .int i, rfl, Nat.zero_le _⟩
theorem ds_bl {i : Bool} : DS K n (bS i) (.bool i) := ⟨fun F H v s e => by cases e; exact .bl i, rfl, Nat.zero_le _⟩
theorem ds_non : DS K n nS .none := ⟨fun F H v s e => by cases e; exact .non, rfl, Nat.zero_le _⟩
theorem ds_str {x : Str} (h : PyData.canLay0 (.str x) = true) : DS K n (sS x) (.str x) := ⟨fun F H v s e => by cases e; exact .str x, h, Nat.zero_le _⟩
structure DAll (K : PySem.W.Frag) (n : Nat) (ss : List Slot) (ds : List PyData) : Prop where
  to : ∀ (F H : Hp) (vs : List V), Same F H → PairS F vs ss → DpAll K H vs ds
  cl : PyData.canLayAll0 ds = true
  dp : PyData.depthAll ds ≤ n
theorem da_nil : DAll K n [] [] := ⟨fun F H vs s h => by cases h; exact .nil, rfl, Nat.zero_le _⟩
theorem da_cons {ss : List Slot} {ds : List PyData} (h : DS K n S d) (t : DAll K n ss ds) : DAll K n (S :: ss) (d :: ds) := by
  refine ⟨fun F H vs s h' => ?_, ?_, ?_⟩
  · cases h' with
    | cons p q => exact .cons (h.to F H _ s p) (t.to F H _ s q)
  · simp only [PyData.canLayAll0, Bool.and_eq_true]
    exact ⟨h.cl, t.cl⟩
  · simp only [PyData.depthAll]
    exact Nat.max_le.mpr ⟨h.dp, t.dp⟩
theorem da_map {α : Type} {f : α → Slot} {g : α → PyData} : ∀ {xs : List α}, (∀ x ∈ xs, DS K n (f x) (g x)) → DAll K n (xs.map f) (xs.map g)
  | [], _ => da_nil
  | x :: xs, h => da_cons (h x List.mem_cons_self) (da_map fun y hy => h y (List.mem_cons_of_mem _ hy))
theorem do_lst {ss : List Slot} {ds : List PyData} (h : DAll K n ss ds) : DO K (n + 1) (lstO ss) (.list ds) :=
  ⟨fun F H p ho s hp ⟨vs, e, pv⟩ => by subst e; exact .lst (SqL.of hp) (h.to F H vs s pv), by simp only [PyData.canLay0]; exact h.cl, by simp only [PyData.depth]; exact Nat.succ_le_succ h.dp⟩
theorem do_tup {ss : List Slot} {ds : List PyData} (h : DAll K n ss ds) : DO K (n + 1) (tupO ss) (.tuple ds) :=
  ⟨fun F H p ho s hp ⟨vs, e, pv⟩ => by subst e; exact .tup (SqT.of hp) (h.to F H vs s pv), by simp only [PyData.canLay0]; exact h.cl, by simp only [PyData.depth]; exact Nat.succ_le_succ h.dp⟩
theorem DS.shaped (h : DS K n S d) (hn : n ≤ 64) : SeqAt.shaped d = true := by
  unfold SeqAt.shaped
  rw [h.cl, decide_eq_true (Nat.le_trans h.dp hn)]
  rfl
theorem DS.dat (h : DS K n S d) (hn : n ≤ 64) : Dat K (.v S) d := ⟨fun F H x s a => h.to F H x s a, h.shaped hn⟩
theorem DO.dat {e : Ent} (h : DO K n o d) (hr : IsR e o) (hn : n ≤ 64) : Dat K e d := ⟨fun F H x s a => by
  obtain ⟨p, ho, rfl, hp, z⟩ := hr.get a s
  exact h.to F H p ho s hp z, h.ds.shaped hn⟩
theorem eqv_same (h : SeqAt.shaped d = true) : PyData.eqv d d = true := SeqAt.eqv_refl d (SeqAt.canLay_of_shaped h)
theorem jv_eqSame {e1 e2 : Ent} (h1 : Dat K e1 d) (h2 : Dat K e2 d) : OpE (rEqJ K) e1 e2 (.v (bS true)) := by
  have z := jv_eqD h1 h2
  rw [eqv_same h1.sh] at z
  exact z
theorem jv_neSame {e1 e2 : Ent} (h1 : Dat K e1 d) (h2 : Dat K e2 d) : OpE (rNeJ K) e1 e2 (.v (bS false)) := by
  have z := jv_neD h1 h2
  rw [eqv_same h1.sh] at z
  exact z
theorem eqvAll_ints : ∀ xs ys : List Int, PyData.eqvAll (xs.map .int) (ys.map .int) = decide (xs = ys)
  | [], [] => rfl
  | [], _ :: _ => rfl
  | _ :: _, [] => rfl
  | x :: xs, y :: ys => by
    simp only [List.map_cons, PyData.eqvAll, PyData.eqv, eqvAll_ints xs ys]
    by_cases h : x = y <;> by_cases h' : xs = ys <;> simp [h, h']
theorem ds_ints {xs : List Int} : DAll K n (xs.map iS) (xs.map .int) := da_map fun _ _ => ds_int
theorem dat_il {e : Ent} {xs : List Int} (h : IsR e (lstO (xs.map iS))) : Dat K e (.list (xs.map .int)) := (do_lst (n := 0) ds_ints).dat h (by decide)
theorem dat_it {e : Ent} {xs : List Int} (h : IsR e (tupO (xs.map iS))) : Dat K e (.tuple (xs.map .int)) := (do_tup (n := 0) ds_ints).dat h (by decide)
theorem dat_itl {e : Ent} {xs : List (List Int)} (h : IsR e (lstO (xs.map fun x => tupS (x.map iS)))) : Dat K e (.list (xs.map fun x => .tuple (x.map .int))) :=
  (do_lst (n := 1) (da_map (f := fun x : List Int => tupS (x.map iS)) (g := fun x : List Int => .tuple (x.map .int)) fun x _ => (do_tup (n := 0) ds_ints).ds)).dat h (by decide)
theorem jv_eqt {e1 e2 : Ent} {xs ys : List Int} (h1 : IsR e1 (tupO (xs.map iS))) (h2 : IsR e2 (tupO (ys.map iS))) : OpE (rEqJ K) e1 e2 (.v (bS (decide (xs = ys)))) := by
  have z := jv_eqD (dat_it (K := K) h1) (dat_it (K := K) h2)
  simp only [PyData.eqv] at z
  rw [eqvAll_ints] at z
  exact z
end

/-! ### texts -/
section
variable {K : PySem.W.Frag} {te ta tb to : TE} {tr : TA} {δ es : List Ent} {e e1 e2 : Ent} {o : Own} {S T : Slot} {ss ts : List Slot} {n m : Nat} {i j : Int}
def strI (i : Int) : Str := Str.ofString (toString i)
def rStr : List V → Hp → VK → Prop := fun xs H Q => ∃ i : Int, xs = [.int i] ∧ i.natAbs.log2 < 1920 ∧ Q (.str (Str.ofString (toString i))) H
theorem kc_str {X : Cx} : CallR X (.type "str") rStr := call_str_int
theorem cb_str (h : i.natAbs.log2 < 1920) : CbE rStr [.v (iS i)] (.v (sS (strI i))) := fun F H xs s a Q q => by
  obtain ⟨x, rfl, a1⟩ := one a
  cases a1
  exact ⟨i, rfl, h, q _ F H (Grow.refl s) rfl⟩
def rIntS : List V → Hp → VK → Prop := fun xs H Q => ∃ (a : Str) (n : Int), xs = [.str a] ∧ PySem.intText? a = some n ∧ a.length ≤ 640 ∧ Q (.int n) H
theorem kc_int {X : Cx} : CallR X (.type "int") rIntS := call_int_str
theorem cb_int {a : Str} (h : PySem.intText? a = some i) (hl : a.length ≤ 640) : CbE rIntS [.v (sS a)] (.v (iS i)) := fun F H xs s b Q q => by
  obtain ⟨x, rfl, a1⟩ := one b
  cases a1
  exact ⟨a, i, rfl, h, hl, q _ F H (Grow.refl s) rfl⟩
/-- sep.join(ys) -/
def rJoin (K : PySem.W.Frag) : V → List V → Hp → VK → Prop := fun x xs H Q => ∃ a p, ∃ ys : List Str, x = .str a ∧ xs = [.ref p] ∧ (SqL K H p (ys.map V.str) ∨ SqT K H p (ys.map V.str)) ∧ (ys.map (·.length)).sum + ys.length * a.length ≤ 16777216 ∧ Q (.str (Txt.join a ys)) H
theorem ke_join {X : Cx} {o' e' : Expr} {apos pos : Pos} (hK : X.K = K) (ho : PE X o' to) (he : PE X e' te) (hs : starEach [e'] X.env = [(false, eval e' X.env)] := by rfl) (hbase : attributeBase o' "join" X.env (eval o' X.env) = eval o' X.env := by rfl) (hline : (apos.endLine == pos.line) = true := by rfl) :
    PE X (.Call (.Attribute o' "join" apos) [e'] [] pos) (tM1 (rJoin K) to te) := by subst hK; exact pe_join ho he hs hbase hline
theorem ev_join {a : Str} {ys : List Str} (h1 : EvE to δ (.v (sS a))) (h2 : EvE te δ e2) (hr : IsR e2 (lstO (ys.map sS))) (hb : (ys.map (·.length)).sum + ys.length * a.length ≤ 16777216) : EvE (tM1 (rJoin K) to te) δ (.v (sS (Txt.join a ys))) := fun F0 H0 F H σ s Q q =>
  h1 F0 H0 F H σ s _ fun x F1 H1 g1 a1 => ⟨⟨a, a1⟩, h2 F0 H0 F1 H1 σ (s.grow g1) _ fun y F2 H2 g2 a2 => by
    obtain ⟨p, ho, rfl, hp, vs, rfl, pv⟩ := hr.get a2 g2.fh
    refine ⟨a, p, ys, a1, rfl, .inl (SqL.of ?_), hb, q _ F2 H2 (g1.trans g2) rfl⟩
    rw [hp]
    congr 2
    exact PairS.kmap pv⟩
/-- a.split(sep) -/
def rSplit : V → List V → Hp → VK → Prop := fun x xs H Q => ∃ a b, x = .str a ∧ xs = [.str b] ∧ (b.length == 0) = false ∧ a.length + 2 ≤ sizeLine ∧ rNewStrs (Txt.split a b) H Q
theorem ke_split {X : Cx} {o' e' : Expr} {apos pos : Pos} (ho : PE X o' to) (he : PE X e' te) (hs : starEach [e'] X.env = [(false, eval e' X.env)] := by rfl) (hbase : attributeBase o' "split" X.env (eval o' X.env) = eval o' X.env := by rfl) (hline : (apos.endLine == pos.line) = true := by rfl) :
    PE X (.Call (.Attribute o' "split" apos) [e'] [] pos) (tM1 rSplit to te) := pe_split ho he hs hbase hline
theorem eo_split {a b : Str} (h1 : EvE to δ (.v (sS a))) (h2 : EvE te δ (.v (sS b))) (hb : (b.length == 0) = false) (ha : a.length ≤ 100000) : EvO (tM1 rSplit to te) δ (lstO ((Txt.split a b).map sS)) := fun F0 H0 F H σ s Q q =>
  h1 F0 H0 F H σ s _ fun x F1 H1 g1 a1 => ⟨⟨a, a1⟩, h2 F0 H0 F1 H1 σ (s.grow g1) _ fun y F2 H2 g2 a2 => by
    cases a1
    cases a2
    refine ⟨a, b, rfl, rfl, hb, Nat.le_trans (Nat.add_le_add_right ha 2) (by decide), fun p hp => ?_⟩
    have g := g1.trans g2
    exact q p _ F2 _ (g.trans (Grow.newH g.fh hp)) (g.hh.free hp) (g.fh.free hp) upd_same ⟨_, rfl, PairS.ofk V.str (Txt.split a b)⟩⟩

/-! ### the script -/
def scrS (K : PySem.W.Frag) (ns : List Int) : Slot := ⟨fun F v => ∃ a, v = .ref a ∧ SqL K F a (ns.map V.int), fun s ⟨a, e, h⟩ => ⟨a, e, s.seq h⟩⟩
def cell (ns : List Int) (k : Int) : Int := ns.getD k.toNat 0
theorem cb_lenScr {ns : List Int} : CbE (rLenJ K) [.v (scrS K ns)] (.v (iS (ns.length : Int))) := fun F H xs s a Q q => by
  obtain ⟨x, rfl, a1⟩ := one a
  obtain ⟨p, rfl, h⟩ := a1
  exact .inl ⟨p, _, rfl, .inl (s.seq h), by rw [List.length_map]; exact q _ F H (Grow.refl s) rfl⟩
theorem jx_scr {ns : List Int} (h0 : 0 ≤ i) (hi : i < ns.length) : OpE (rIx K) (.v (scrS K ns)) (.v (iS i)) (.v (iS (cell ns i))) := fun F H x y s a b Q q => by
  obtain ⟨p, rfl, h⟩ := a
  cases b
  obtain ⟨k, rfl⟩ := nat_of h0
  refine .inl ⟨p, _, (k : Int), .int (cell ns (k : Int)), rfl, rfl, s.seq h, atI_nat ?_, q _ F H (Grow.refl s) rfl⟩
  have hk : k < ns.length := by omega
  rw [List.getElem?_map, List.getElem?_eq_getElem hk]
  unfold cell
  rw [Int.toNat_natCast, List.getD_eq_getElem?_getD, List.getElem?_eq_getElem hk]
  rfl
end
end J

namespace J
open PySem PySem.Spec L2 PyProof.Rows
section
variable {K : PySem.W.Frag} {F0 H0 F H : Hp} {σ : L2.St} {δ : List Ent} {te tb ta : TE} {tz : TS} {D : Ends} {i j : Nat} {o o1 o2 : Own} {S T : Slot} {e e1 e2 : Ent} {ss ts : List Slot}
/-- a fresh list, emptied at once -/
theorem q_clearO (s : St F0 H0 F H σ δ) (h : EvO te δ (lstO ss)) (k : ∀ σ' F' H', St F0 H0 F' H' σ' δ → tz D σ' H') :
    tSeq (tDrop (tBM0 K "list" rClear te)) tz D σ H := by
  refine h F0 H0 F H σ s _ fun p ho F' H' g hn hf hp z => ?_
  obtain ⟨vs, rfl, pv⟩ := z
  refine .inl ⟨rfl, vs, SqL.of hp⟩ |> fun q => ⟨q, p, vs, rfl, rfl, hp, k _ F' _ (s.grow ⟨g.ff, fun b u e => ?_, same_updR g.fh hf, fun a ha hb => g.nw a ha hb, fun t => tt_upd (g.tt t) (by intro _ h; cases h)⟩)⟩
  rw [upd_ne (ne_of_none e hn)]
  exact g.hh b u e
theorem q_parO {S2 : Slot} {i1 i2 : Nat} {u : TE} {tr : TA} (s : St F0 H0 F H σ δ) (h : EvO u δ o) (h2 : EvAs tr δ [.v S2]) (k : ∀ σ' F' H', St F0 H0 F' H' σ' ((δ.set i1 (.ow o)).set i2 (.v S2)) → tz D σ' H') : tSeq (tPar i1 i2 (tCons u tr)) tz D σ H := by
  refine h F0 H0 F H σ s _ fun p ho F1 H1 g1 hn hf hp z => ?_
  refine h2 F0 H0 F1 H1 σ (s.grow g1) _ fun vs F2 H2 g2 a2 => ?_
  have hf2 : F2 p = none := g2.nw p (by rw [hp]; exact Option.some_ne_none _) hf
  cases a2 with
  | cons p2 t => cases t with
    | nil =>

      exact ⟨_, _, rfl, k _ F2 H2 ((s.set_ow (g1.trans g2) hn hf2 (g2.hh p _ hp) (o.mono g2.ff z)).set_v p2)⟩
/-- an if whose branches meet again -/
theorem q_ifJ {tt : TT} {tu tw : TS} {b : Bool} (I : List Ent → Prop) (s : St F0 H0 F H σ δ) (h : EvT tt δ b)
    (hd : ∀ δ' σ' F' H', I δ' → St F0 H0 F' H' σ' δ' → tz D σ' H')
    (h1 : (∀ δ' σ' F' H', I δ' → St F0 H0 F' H' σ' δ' → tz D σ' H') → b = true → ∀ σ' F' H', St F0 H0 F' H' σ' δ → tu { D with nx := tz D } σ' H')
    (h2 : (∀ δ' σ' F' H', I δ' → St F0 H0 F' H' σ' δ' → tz D σ' H') → b = false → ∀ σ' F' H', St F0 H0 F' H' σ' δ → tw { D with nx := tz D } σ' H') : tSeq (tIfS tt tu tw) tz D σ H := q_if s h (h1 hd) (h2 hd)
/-- less told of a slot -/
theorem EvE.sub (h : EvE te δ (.v S)) (k : ∀ F v, S.P F v → T.P F v) : EvE te δ (.v T) := fun F0 H0 F H σ s Q q => h F0 H0 F H σ s Q fun v F' H' g a => q v F' H' g (k _ _ a)
theorem EvE.subB (h : EvE te δ (.bo o1)) (k : ∀ F p ho, o1.P F p ho → o2.P F p ho) : EvE te δ (.bo o2) := fun F0 H0 F H σ s Q q => h F0 H0 F H σ s Q fun v F' H' g ⟨p, ho, e, hp, z⟩ => q v F' H' g ⟨p, ho, e, hp, k _ _ _ z⟩
/-! ### pinned slots -/
def pinS (v : V) (S : Slot) : Slot := ⟨fun F x => x = v ∧ S.P F x, fun s h => ⟨h.1, S.mono s h.2⟩⟩
theorem pin_of {F : Hp} {vs : List V} {ss : List Slot} (h : PairS F vs ss) : PairS F vs (List.zipWith pinS vs ss) := by
  induction h with
  | nil => exact .nil
  | cons p _ ih => exact .cons ⟨rfl, p⟩ ih
theorem pin_un {F : Hp} {vs : List V} {ss : List Slot} : ∀ {xs : List V}, vs.length = ss.length → PairS F xs (List.zipWith pinS vs ss) → xs = vs ∧ PairS F xs ss := by
  induction vs generalizing ss with
  | nil =>
    intro xs hl h
    cases ss with
    | nil => cases h; exact ⟨rfl, .nil⟩
    | cons _ _ => cases hl
  | cons v vs ih =>
    intro xs hl h
    cases ss with
    | nil => cases hl
    | cons S ss =>
      cases h with
      | cons p t =>
        obtain ⟨e, r⟩ := ih (Nat.succ.inj hl) t
        exact ⟨by rw [p.1, e], .cons p.2 r⟩
theorem q_pin (s : St F0 H0 F H σ δ) (i : Nat) (hi : δ[i]? = some (.ow (lstO ss))) (hr : ∀ S ∈ ss, ∀ F v, S.P F v → ∃ a, v = .ref a) {P : Prop} (k : ∀ vs : List V, vs.length = ss.length → (∀ v ∈ vs, ∃ a, v = .ref a) → St F0 H0 F H σ (δ.set i (.ow (lstO (List.zipWith pinS vs ss)))) → P) : P := by
  obtain ⟨p, ho, e, hp, vs, rfl, pv⟩ := s.loc hi
  refine k vs pv.length ?_ ?_
  · have : ∀ {vs : List V} {ss : List Slot}, PairS F vs ss → (∀ S ∈ ss, ∀ F v, S.P F v → ∃ a, v = .ref a) → ∀ v ∈ vs, ∃ a, v = .ref a := by
      intro vs ss h
      induction h with
      | nil => intro _ v hv; cases hv
      | cons p _ ih =>
        intro hr v hv
        cases hv with
        | head => exact hr _ List.mem_cons_self _ _ p
        | tail _ hv => exact ih (fun S hS => hr S (List.mem_cons_of_mem _ hS)) v hv
    exact this pv hr
  · have z := s.mut (ho := .lst vs) (o' := lstO (List.zipWith pinS vs ss)) hi e ⟨vs, rfl, pin_of pv⟩
    have eH : upd H p (.lst vs) = H := by
      funext b
      by_cases hb : b = p
      · subst hb
        rw [upd_same, hp]
      · rw [upd_ne hb]
    rw [eH] at z
    exact z
theorem unpin {vs : List V} {ss : List Slot} (hl : vs.length = ss.length) : ∀ F p ho, (lstO (List.zipWith pinS vs ss)).P F p ho → (lstO ss).P F p ho := by
  rintro F p ho ⟨xs, rfl, h⟩
  exact ⟨xs, rfl, (pin_un hl h).2⟩
def rEqW (K : PySem.W.Frag) : R2 := fun x y H Q => rEqJ K x y H Q ∨ rEqV K x y H Q
theorem ko_eqW {X : Cx} {k : Nat} (hK : X.K = K) (hr : Room k X.A) : OpR X (compareOp .Eq) (rEqW K) := by subst hK; exact OpR.or (jo_eq (Room.u64 hr)) (op_eqV (Room.u64 hr))
theorem ko_neW {X : Cx} {k : Nat} (hK : X.K = K) (hr : Room k X.A) : OpR X (compareOp .NotEq) (rNeJ K) := ko_ne hK hr
theorem jw_pin {vs : List V} (hl : vs.length = ss.length) (hv : ∀ v ∈ vs, ∃ a, v = .ref a) : OpE (rEqW K) (.bo (lstO (List.zipWith pinS vs ss))) (.bo (lstO (List.zipWith pinS vs ss))) (.v (bS true)) := OpE.inr fun F H x y s a b Q q => by
  obtain ⟨p, ho, rfl, hp, xs, rfl, px⟩ := a
  obtain ⟨p', ho', rfl, hp', ys, rfl, py⟩ := b
  obtain ⟨rfl, _⟩ := pin_un hl px
  obtain ⟨e, _⟩ := pin_un hl py
  subst e
  refine ⟨1, by decide, .inl ⟨p, p', _, _, rfl, rfl, SqL.of hp, SqL.of hp', ?_⟩, q _ F H (Grow.refl s) rfl⟩
  have : ∀ l : List V, (∀ v ∈ l, ∃ a, v = .ref a) → Paired (EqV K H 1) l l := by
    intro l
    induction l with
    | nil => intro _; exact .nil
    | cons v l ih =>
      intro h
      obtain ⟨a, rfl⟩ := h v List.mem_cons_self
      exact .cons (.inr (.inl ⟨a, rfl, rfl⟩)) (ih fun w hw => h w (List.mem_cons_of_mem _ hw))
  exact this _ hv
theorem cb_any {bs : List Bool} (h : IsR e1 (lstO (bs.map bS))) : CbE (rAny K) [e1] (.v (bS (bs.any id))) := fun F H xs s a Q q => by
  obtain ⟨x, rfl, a1⟩ := one a
  obtain ⟨p, ho, rfl, hp, vs, rfl, pv⟩ := h.get a1 s
  refine ⟨p, bs, rfl, SqL.of ?_, q _ F H (Grow.refl s) rfl⟩
  rw [hp]
  congr 2
  exact PairS.kmap pv
theorem cb_all {bs : List Bool} (h : IsR e1 (lstO (bs.map bS))) : CbE (rAll K) [e1] (.v (bS (bs.all id))) := fun F H xs s a Q q => by
  obtain ⟨x, rfl, a1⟩ := one a
  obtain ⟨p, ho, rfl, hp, vs, rfl, pv⟩ := h.get a1 s
  refine ⟨p, bs, rfl, SqL.of ?_, q _ F H (Grow.refl s) rfl⟩
  rw [hp]
  congr 2
  exact PairS.kmap pv
section
variable {K : PySem.W.Frag} {F0 H0 F H : Hp} {σ : L2.St} {δ : List Ent} {te tb ta : TE} {tt : TT} {j : Nat}
theorem eo_lcT {α : Type} (ex : α → Slot) (xs : List α) (p : α → Bool) (f : α → Slot) {e1 : Ent} (h : EvE ta δ e1) (hr : IsR e1 (tupO (xs.map ex))) (hz : xs.length ≤ 40000)
    (ht : ∀ x ∈ xs, EvT tt (δ.set j (.v (ex x))) (p x)) (he : ∀ x ∈ xs, p x = true → EvE te (δ.set j (.v (ex x))) (.v (f x))) :
    EvO (tLc (iAny K ta) (gName j) tt te [j]) δ (lstO ((xs.filter p).map f)) := fun F0 H0 F H σ s Q q => by
  refine .inr (.inl (h F0 H0 F H σ s _ fun v F1 H1 g1 a1 => ?_))
  obtain ⟨a, ho, rfl, hp, vs, rfl, pv⟩ := hr.get a1 g1.fh
  have s1 := s.grow g1
  have hlen : vs.length = xs.length := by rw [pv.length, List.length_map]
  refine ⟨a, rfl, ⟨vs, SqT.of hp⟩, fun Dl hD => lc_tup (xs := vs) (fun i H' => LcI F1 H1 Dl (kept p f xs i) H') (LcI.start g1.fh hD) ?_ ?_ ?_⟩
  · rintro i H' _ ⟨F', acc, g, _⟩
    exact SqT.of (g.hh a _ hp)
  · rintro i x H' hx hI
    have hi : i < xs.length := by
      rw [← hlen]
      exact (List.getElem?_eq_some_iff.mp hx).1
    have hxi : xs[i]? = some xs[i] := List.getElem?_eq_getElem hi
    have px : (ex xs[i]).P F1 x := by
      obtain ⟨w, hw, z⟩ := PairS.get (i := i) (S := ex xs[i]) pv (by rw [List.getElem?_map, hxi]; rfl)
      rw [hx] at hw
      cases hw
      exact z
    have hm : xs[i] ∈ xs := List.getElem_mem hi
    have hk := kept_le (p := p) (f := f) (xs := xs) (i := i)
    refine ⟨wipe1, lc_turn (b := p xs[i]) (T := ex xs[i]) (S := f xs[i]) (ss := kept p f xs i) s1 hD (by omega) (fun F' g => (ex xs[i]).mono g.ff px) hI (ht _ hm) (he _ hm) fun H' z => ?_⟩
    rw [kept_succ hxi]
    exact z
  · rintro H' ⟨F', acc, g, hf, hp', pa⟩
    rw [hlen, kept_all] at pa
    exact q Dl _ F' H' (g1.trans g) (g1.hh.free hD) hf hp' ⟨acc, rfl, pa⟩
theorem eo_lcTM {α : Type} (ex : α → Slot) (xs : List α) (f : α → Slot) (h : EvE ta δ e1) (hr : IsR e1 (tupO (xs.map ex))) (hz : xs.length ≤ 40000) (he : ∀ x ∈ xs, EvE te (δ.set j (.v (ex x))) (.v (f x))) :
    EvO (tLc (iAny K ta) (gName j) tYes te [j]) δ (lstO (xs.map f)) := by
  have z := eo_lcT (K := K) (j := j) ex xs (fun _ => true) f h hr hz (fun _ _ => et_yes) (fun x hx _ => he x hx)
  rw [filt1] at z
  exact z
end
end
end J

namespace J
open PySem PySem.Spec L2 PyProof.Rows
section
variable {K : PySem.W.Frag} {F0 H0 F H : Hp} {σ : L2.St} {δ : List Ent} {te tb ta : TE} {tz : TS} {D : Ends} {i j : Nat} {o o1 o2 : Own} {S T : Slot} {e e1 e2 : Ent} {ss ts : List Slot}
/-- a list's items, known by their value -/
theorem IsR.kl {F H : Hp} {x : V} {α : Type} {f : α → V} {xs : List α} (h : IsR e (lstO (xs.map fun a => kS (f a)))) (a : ArgOk F H x e) (s : Same F H) : ∃ p, x = .ref p ∧ SqL K H p (xs.map f) := by
  obtain ⟨p, ho, rfl, hp, vs, rfl, pv⟩ := h.get a s
  refine ⟨p, rfl, SqL.of ?_⟩
  rw [hp]
  congr 2
  exact PairS.kmap pv
theorem IsR.kt {F H : Hp} {x : V} {α : Type} {f : α → V} {xs : List α} (h : IsR e (tupO (xs.map fun a => kS (f a)))) (a : ArgOk F H x e) (s : Same F H) : ∃ p, x = .ref p ∧ SqT K H p (xs.map f) := by
  obtain ⟨p, ho, rfl, hp, vs, rfl, pv⟩ := h.get a s
  refine ⟨p, rfl, SqT.of ?_⟩
  rw [hp]
  congr 2
  exact PairS.kmap pv
theorem cb_sum {ns : List Int} (h : IsR e1 (lstO (ns.map iS))) : CbE (rSum K) [e1] (.v (iS ns.sum)) := fun F H xs s a Q q => by
  obtain ⟨x, rfl, a1⟩ := one a
  obtain ⟨p, rfl, hp⟩ := IsR.kl (f := V.int) h a1 s
  exact ⟨p, ns, rfl, hp, q _ F H (Grow.refl s) rfl⟩
theorem cb_maxl {ns : List Int} {m : Int} (h : IsR e1 (lstO (ns.map iS))) (hm : m ∈ ns) (hx : ∀ y ∈ ns, y ≤ m) : CbE (rMax K) [e1] (.v (iS m)) := fun F H xs s a Q q => by
  obtain ⟨x, rfl, a1⟩ := one a
  obtain ⟨p, rfl, hp⟩ := IsR.kl (f := V.int) h a1 s
  refine ⟨p, ns, rfl, hp, List.length_pos_of_mem hm, fun m' h1 h2 => ?_⟩
  have e : m' = m := Int.le_antisymm (hx _ h1) (h2 _ hm)
  rw [e]
  exact q _ F H (Grow.refl s) rfl
theorem cb_minl {ns : List Int} {m : Int} (h : IsR e1 (lstO (ns.map iS))) (hm : m ∈ ns) (hx : ∀ y ∈ ns, m ≤ y) : CbE (rMin K) [e1] (.v (iS m)) := fun F H xs s a Q q => by
  obtain ⟨x, rfl, a1⟩ := one a
  obtain ⟨p, rfl, hp⟩ := IsR.kl (f := V.int) h a1 s
  refine ⟨p, ns, rfl, hp, List.length_pos_of_mem hm, fun m' h1 h2 => ?_⟩
  have e : m' = m := Int.le_antisymm (h2 _ hm) (hx _ h1)
  rw [e]
  exact q _ F H (Grow.refl s) rfl
/-! ### in -/
theorem inV_ints {i : Int} : ∀ {xs : List Int}, inV (.int i) (xs.map V.int) = decide (i ∈ xs)
  | [] => rfl
  | x :: xs => by
    have ih := inV_ints (i := i) (xs := xs)
    unfold inV at ih ⊢
    rw [List.map_cons, List.any_cons, ih]
    show (decide (x = i) || decide (i ∈ xs)) = _
    by_cases h : x = i
    · subst h
      rw [decide_eq_true rfl, Bool.true_or, decide_eq_true List.mem_cons_self]
    · rw [decide_eq_false h, Bool.false_or]
      congr 1
      rw [List.mem_cons]
      exact propext ⟨.inr, fun z => z.elim (fun z => absurd z.symm h) id⟩
theorem flat_ints {xs : List Int} : (xs.map V.int).all flatV = true := by
  rw [List.all_map, List.all_eq_true]
  intro x _
  rfl
def IsI (e : Ent) (xs : List Int) : Prop := IsR e (lstO (xs.map iS)) ∨ IsR e (tupO (xs.map iS))
theorem jv_in {i : Int} {xs : List Int} (h : IsI e1 xs) : OpE (rIn K false) (.v (iS i)) e1 (.v (bS (decide (i ∈ xs)))) := fun F H x y s a b Q q => by
  cases a
  rcases h with h | h
  · obtain ⟨p, rfl, hp⟩ := IsR.kl (K := K) (f := V.int) h b s
    exact ⟨p, _, rfl, .inl hp, rfl, flat_ints, q _ F H (Grow.refl s) (by rw [if_neg Bool.false_ne_true, inV_ints]; rfl)⟩
  · obtain ⟨p, rfl, hp⟩ := IsR.kt (K := K) (f := V.int) h b s
    exact ⟨p, _, rfl, .inr hp, rfl, flat_ints, q _ F H (Grow.refl s) (by rw [if_neg Bool.false_ne_true, inV_ints]; rfl)⟩
theorem jv_ni {i : Int} {xs : List Int} (h : IsI e1 xs) : OpE (rIn K true) (.v (iS i)) e1 (.v (bS (!decide (i ∈ xs)))) := fun F H x y s a b Q q => by
  cases a
  rcases h with h | h
  · obtain ⟨p, rfl, hp⟩ := IsR.kl (K := K) (f := V.int) h b s
    exact ⟨p, _, rfl, .inl hp, rfl, flat_ints, q _ F H (Grow.refl s) (by rw [if_pos rfl, inV_ints]; rfl)⟩
  · obtain ⟨p, rfl, hp⟩ := IsR.kt (K := K) (f := V.int) h b s
    exact ⟨p, _, rfl, .inr hp, rfl, flat_ints, q _ F H (Grow.refl s) (by rw [if_pos rfl, inV_ints]; rfl)⟩
theorem ev_inI {i : Int} {xs : List Int} (ha : EvE ta δ (.v (iS i))) (hb : EvE tb δ e1) (h : IsI e1 xs) : EvE (tInJ K ta tb) δ (.v (bS (decide (i ∈ xs)))) := fun F0 H0 F H σ s Q q => .inl (ev_op ha hb (jv_in h) F0 H0 F H σ s Q q)
theorem ev_niI {i : Int} {xs : List Int} (ha : EvE ta δ (.v (iS i))) (hb : EvE tb δ e1) (h : IsI e1 xs) : EvE (tNiJ K ta tb) δ (.v (bS (!decide (i ∈ xs)))) := fun F0 H0 F H σ s Q q => .inl (ev_op ha hb (jv_ni h) F0 H0 F H σ s Q q)
/-- xs[::-1] -/
theorem PairS.rev {F : Hp} {vs : List V} {ss : List Slot} (h : PairS F vs ss) : PairS F vs.reverse ss.reverse := by
  induction h with
  | nil => exact .nil
  | cons p _ ih =>
    rw [List.reverse_cons, List.reverse_cons]
    exact PairS.app ih (.cons p .nil)
theorem eo_revL (h : EvE te δ e1) (hr : IsR e1 (lstO ss)) : EvO (tRevL K te) δ (lstO ss.reverse) := fun F0 H0 F H σ s Q q =>
  h F0 H0 F H σ s _ fun x F1 H1 g1 a1 => by
    obtain ⟨p, ho, rfl, hp, vs, rfl, pv⟩ := hr.get a1 g1.fh
    exact ⟨p, vs, rfl, SqL.of hp, fun r hr => q r _ F1 _ (g1.trans (Grow.newH g1.fh hr)) (g1.hh.free hr) (g1.fh.free hr) upd_same ⟨_, rfl, PairS.rev pv⟩⟩
end
end J

/-! dict displays with one tuple key; sorted of tuples of ints, of a dict with such keys -/
namespace J
open PySem PySem.Spec L2 PyProof.Rows
/-! ### {x: v}, x a tuple -/
def tDisp1 (tk tv : TE) : TE := fun σ H Q => ∀ p, H p = none → tk σ (upd H p (.dT [])) fun x H1 => tv σ H1 fun y H2 => H2 p = some (.dT []) ∧ ∃ (ks : List Key) (b : Addr), x = .ref b ∧ H2 b = some (.tup (ks.map kV)) ∧ Q (.ref p) (upd H2 p (.dT [(ks, y)]))
theorem pe_disp1 {X : Cx} {j : Nat} {pos : Pos} {k v : Expr} {tk tv : TE} (hr : Room j X.A) (hk : PE X k tk) (hv : PE X v tv) : PE X (.Dict [some k] [v] pos) (tDisp1 tk tv) := by
  refine ⟨fun pins s σ H Q I q => ?_⟩
  have hn := I.hok.fresh (Nat.le_refl s.heap.objs.size)
  have I1 := I.laid (a := s.heap.objs.size) (o := .dT []) (h' := s.heap.push { cls := .type "dict", data := .dict #[] }) (t' := s.toks) (fun _ _ q => Heap.get?_push_of_some _ q) (Nat.le_refl _) (dt_empty s.heap I.big)
  rw [arm_eval_Dict, zip_pairTrees [some k] [v] X.env pos rfl rfl, dictDisplay_pairs _ (fun e => by cases e) (by show 1 < 17; decide)]
  refine wpAny_bind (wpAny_standAt (wpAny_bind ?_))
  unfold subDict
  refine wpAny_bind (wpAny_alloc ?_)
  refine wpAny_bind (wpAny_holding ?_)
  rw [if_pos (show (pairTrees [some k] [v] X.env pos).length ≤ 15 from (by decide : 1 ≤ 15))]
  refine wpAny_bind (pairTrees_cons_walk (thn (hk.run pins _ σ _ _ I1 (q _ hn)) fun u s1 ⟨x, H1, I2, rx, q1⟩ => thn (hv.run pins s1 σ H1 _ I2 q1) fun w2 s2 ⟨y, H2, I3, ry, e, ks, b, ex, eb, q2⟩ => pairTrees_nil_walk ?_))
  subst ex
  obtain rfl : u = Value.ref b := rx
  refine wpAny_holding ?_
  rw [List.forIn_cons]
  obtain ⟨z, hd, xs, rel, dd⟩ := dt_of I3.hok e
  cases rel
  refine wpAny_bind (wpAny_bind ?_)
  show wpAny _ _ (dictSet s.heap.objs.size (.ref b) w2 >>= fun _ => pure (ForInStep.yield PUnit.unit)) _ _ s2
  refine wpAny_bind (wpAny_dictSet_heap (hsz := Nat.zero_le _) (knd := tupleKind (mixKind X.prog X.w)) (show X.A.units < cLine by have := hr.un; omega) (key_of I3.hok eb) dd fun h' dd' hs => ?_)
  refine wpAny_pure ?_
  show wpAny _ _ (forIn [] PUnit.unit _) _ _ _
  rw [List.forIn_nil]
  refine wpAny_pure (wpAny_pure (wpAny_pure (wpAny_pure ⟨.ref _, _, ?_, rfl, q2⟩)))
  obtain ⟨o, es, ep, hq, h2, h3, h4, _, h5⟩ := dd'
  refine d_write I3 (by rw [e]; exact True.intro) hs ⟨o, hq⟩ ⟨by show 1 ≤ sizeLine; decide, hd, _, (KT.put (show KT H2 [] [] from .nil) ks eb ry).keeps fun c ys ec => ?_, o, es, ep, hq, h2, h3, h4, h5⟩
  rw [upd_ne (ne_of ec e (fun z => nomatch z))]
  exact ec

/-! ### sorted: tuples of ints -/
theorem swo_rank (r : Value → Int) : SrtO.Swo fun v u => decide (r v < r u) := by
  refine ⟨fun x y h => ?_, fun x y z h1 h2 => ?_⟩
  · have a := of_decide_eq_true h
    exact decide_eq_false (by omega)
  · have a := of_decide_eq_false h1
    have b := of_decide_eq_false h2
    exact decide_eq_false (by omega)
section
variable {prog : Program} {w : World} {A : Around} {s : Shared}
theorem tups_sortable {a : Addr} {vs : List Value} {d : Nat} {B : Int} (hd : 1 ≤ d) (h2 : 2 ≤ vs.length) (x : TS.TupsOk s.heap d B vs) (ha : ∀ o, s.heap.get? a = some o → o.cls ≠ .type "tuple")
    (r : Value → Int) (hr : ∀ v ∈ vs, ∀ ns, TS.TupInts s.heap v ns → r v = TS.code B ns) : SrtO.SortableO prog w A s a vs fun v u => decide (r v < r u) := by
  intro h' keep
  have kp : ∀ b o, s.heap.get? b = some o → o.cls = .type "tuple" → h'.get? b = some o := fun b o e c => keep b o (fun z => by subst z; exact ha o e c) e
  have x' : TS.TupsOk h' d B vs := x.keeps kp
  obtain ⟨fs, k, hl, hi⟩ := TS.firsts_of hd vs x'
  refine ⟨tuples' true, fun Q E hq => ?_, ?_⟩
  · refine PySem.W.kat_kind (T := .type "int") k (by omega) (fun f hf => ?_) (by rfl) ?_
    · obtain ⟨n, t, rfl⟩ := hi f hf
      exact PySem.W.Looks.now
    · have e : (Value.type "int" != Value.type "tuple") = true := by first | decide +kernel | rfl | decide
      rw [e]
      exact hq
  · intro p q hm hm'
    obtain ⟨ns, tp0, lp, bp⟩ := x _ hm
    obtain ⟨ms, tq0, lq, bq⟩ := x _ hm'
    have tp := tp0.keeps kp
    have tq := tq0.keeps kp
    have ep := hr _ hm _ tp0
    have eq2 := hr _ hm' _ tq0
    show wpAny (model prog w) A (keyLt' (tuples' true) p.1 q.1) (fun r' s' => s' = { s with heap := h' } ∧ r' = decide (r p.1 < r q.1)) (fun _ _ => False) { s with heap := h' }
    rw [ep, eq2]
    obtain ⟨a, xs, e1, ⟨o, ho, hc, n, hdt⟩, i⟩ := tp
    obtain ⟨a', ys, e2, ⟨o', ho', hc', n', hdt'⟩, i'⟩ := tq
    rw [e1, e2]
    refine PySem.W.kat_lt ho hdt ho' hdt' ?_
    have sz : decide (xs.size < ys.size) = false := by
      have l1 := i.length
      have l2 := i'.length
      rw [Array.length_toList] at l1 l2
      exact decide_eq_false (by omega)
    rw [sz]
    exact TS.lex_ints 0 i i' (by omega) bp bq ⟨rfl, rfl⟩
end
/-- sorted(xs), xs a list of tuples of d ints in [0, B), of any length -/
def rSortedW (K : PySem.W.Frag) : List V → Hp → VK → Prop := fun vs H Q => ∃ (a : Addr) (xs : List V) (f : V → List Int) (d : Nat) (B : Int), vs = [V.ref a] ∧ SqL K H a xs ∧ 1 ≤ d ∧ (∀ x ∈ xs, TupI K H x (f x) ∧ (f x).length = d ∧ TS.Bd B (f x)) ∧
  ∀ (ys : List V) (p : Addr), ys.Perm xs → ys.Pairwise (fun x y => TS.code B (f x) ≤ TS.code B (f y)) → H p = none → Q (.ref p) (upd H p (.lst ys))
theorem srtd_le {r : Value → Int} {l : List Value} (h : SrtO.Srtd (fun v u => decide (r v < r u)) l) : l.Pairwise fun v u => r v ≤ r u := by
  refine List.Pairwise.imp (fun {v u} hh => ?_) h
  have := of_decide_eq_false hh
  omega
theorem cr_sortedW {X : Cx} : CallR X (.builtin "sorted") (rSortedW X.K) := by
  intro pins s σ H vs us Q I r h
  obtain ⟨a, xs, f, d, B, rfl, hs, hd, hx, q⟩ := h
  obtain ⟨its, rv, hl, hz⟩ := I.list hs
  rw [Vals.ref1 r]
  obtain ⟨e1, e2⟩ := bkV_refs rv fun x m => by
    obtain ⟨⟨t, e, _⟩, _⟩ := hx x m
    exact ⟨t, e⟩
  have raw : ∀ v ∈ its, TS.TupInts s.heap v (f (bkV v)) ∧ (f (bkV v)).length = d ∧ TS.Bd B (f (bkV v)) := fun v hv => by
    obtain ⟨t, rfl⟩ := e2 v hv
    have hm : V.ref t ∈ xs := by
      rw [e1]
      exact List.mem_map.mpr ⟨_, hv, rfl⟩
    obtain ⟨⟨t', e, ht⟩, hn, hb⟩ := hx _ hm
    cases e
    exact ⟨tupI_raw I ht, hn, hb⟩
  refine SrtO.sorted_ord (ltv := fun v u => decide (TS.code B (f (bkV v)) < TS.code B (f (bkV u)))) (swo_rank fun v => TS.code B (f (bkV v))) hl.isList (by rw [← rv.length]; exact hz) (fun h2 h₁ a ha kk => ?_) fun out hs hb => ?_
  · refine tups_sortable (s := { s with heap := h₁ }) (d := d) (B := B) hd h2 (fun v hv => ⟨_, (raw v hv).1.keeps fun b o e _ => (kk b o e).2, (raw v hv).2⟩) (fun o e => ?_) (fun v => TS.code B (f (bkV v))) fun v hv ns t => ?_
    · have e' : some o = some (seqObj "list" its.toArray 0) := e.symm.trans ha
      cases e'
      intro c
      exact absurd (Value.type.inj c) (by decide)
    · have t1 := (raw v hv).1.keeps (h' := h₁) fun b o e _ => (kk b o e).2
      show TS.code B (f (bkV v)) = TS.code B ns
      rw [← t1.ints, ← t.ints]
  · have h3 : ∀ u ∈ out, ∃ a, u = Value.ref a := fun u hu => e2 u (hb.perm.mem_iff.mp hu)
    have hp : (out.map bkV).Perm xs := by
      rw [e1]
      exact hb.perm.map bkV
    have hlen : (out.map bkV).length ≤ sizeLine := by
      rw [hp.length_eq]
      exact hz
    obtain ⟨ep, he'⟩ := PyProof.Rows.sortedAll_at s.heap its out.toArray
    refine ⟨.ref _, upd H (s.heap.objs.size + 1) (.lst (out.map bkV)), I.laid (t' := s.toks) (fun _ _ => PyProof.Rows.sortedAll_old) (Nat.le_succ _) ⟨hlen, out, ep, bkV_vals h3, he'⟩, rfl, q _ _ hp ?_ (I.hok.fresh (Nat.le_succ _))⟩
    rw [List.pairwise_map]
    exact srtd_le (r := fun v => TS.code B (f (bkV v))) hs

/-! ### sorted(d), d a dict with tuples of ints as keys -/
section
variable {prog : Program} {w : World} {d : Addr} {od : Obj} {es : Array DictEntry} {ep : Nat}
theorem walks_keysT {A : Around} {I : Addr} (hh : A.handled = none) (hne : d ≠ I) (hdt : od.data = .dict es ep) :
    Walks prog w A I [I, d] [I] es.size (fun i v => ∃ en : DictEntry, es[i]? = some en ∧ v = en.key) (fun i h => h.IsKeyIter I d i es.size ep ∧ h.get? d = some od) where
  sub := fun b hb => by simp at hb; simp [hb]
  frame := fun _ _ _ st hk => ⟨st.1.at fun o e => hk I (by simp) o e, hk d (by simp) _ st.2⟩
  item := fun i s Q E hi st hQ => by
    have hen : es[i]? = some es[i] := Array.getElem?_eq_getElem hi
    exact next_key_item st.1 st.2 hdt rfl hen fun h' it' sb => hQ _ h' s.toks ⟨_, hen, rfl⟩ ⟨it', (sb.2 d hne).trans st.2⟩ fun b o hb e => (sb.2 b (by simpa using hb)).trans e
  done := fun s Q E st hQ => next_key_end hh st.1 st.2 hdt rfl (Nat.le_refl _) fun h' ext => hQ h' s.toks fun b o hb e => ext b o (fun z => hb (by simp [z])) e
  self := fun _ _ _ _ st hQ => wpAny_pyIter_keyiter st.1 hQ
theorem src_keysT (hd : (d == sysModules) = false) (hx : od.ExactDict) (hdt : od.data = .dict es ep) :
    PySem.W.KdlSrc prog w "dict" d d es.size (fun i v => ∃ en : DictEntry, es[i]? = some en ∧ v = en.key) (fun h => h.get? d = some od) where
  type := fun s h => ⟨od, h, hx.1⟩
  there := fun h e => ⟨Heap.lt_size e, Heap.lt_size e⟩
  keep := fun h h' e k => k d (.inl rfl) _ e
  notList := by decide
  notTuple := by decide
  hint := fun A E s Q e hq => PySem.W.kdl_hint_dict ⟨od, e, hx.1⟩ hq
  iter := fun A s hh e => ⟨_, _, (fun E Q hq => iter_keys hd e hx hdt hq), walks_keysT hh (Nat.ne_of_lt (Heap.lt_size e)) hdt, ⟨⟨_, Heap.get?_push_size _ rfl, rfl, rfl⟩, Heap.get?_push_of_some _ e⟩⟩
end

/-- sorted(d) of a dict whose keys are tuples of d ints in [0, B) -/
def rSortedKT : List V → Hp → VK → Prop := fun vs H Q => ∃ (a : Addr) (kvs : List (List Key × V)) (L : List (List Int)) (d : Nat) (B : Int), vs = [V.ref a] ∧ Rd H a (.dT kvs) ∧ kvs.map (·.1) = L.map (fun l => l.map Sum.inl) ∧ 1 ≤ d ∧ (∀ l ∈ L, l.length = d ∧ TS.Bd B l) ∧
  ∀ (ys : List V) (g : V → List Int) (p : Addr), (∀ y ∈ ys, ∃ t, y = .ref t ∧ H t = some (.tup ((g y).map V.int))) → (ys.map g).Perm L → ys.Pairwise (fun x y => TS.code B (g x) ≤ TS.code B (g y)) → H p = none → Q (.ref p) (upd H p (.lst ys))
theorem keys_of {l : List Int} : (l.map (Sum.inl : Int → Key)).map kV = l.map V.int := by
  rw [List.map_map]
  rfl
theorem Inv.rdT {X : Cx} {pins : List (Addr × Obj)} {σ : L2.St} {H : Hp} {s : Shared} {a : Addr} {kvs : List (List Key × V)} (I : L2.Inv X pins σ H s) (h : Rd H a (.dT kvs)) :
    (a == sysModules) = false ∧ ∃ (o : Obj) (es : Array DictEntry) (ep : Nat), s.heap.get? a = some o ∧ o.ExactDict ∧ o.data = .dict es ep ∧ es.size = kvs.length ∧
      ∀ (i : Nat) (k : List Key) (v : V), kvs[i]? = some (k, v) → ∃ (en : DictEntry) (q : Addr), es[i]? = some en ∧ en.key = .ref q ∧ H q = some (.tup (k.map kV)) := by
  obtain ⟨_, y, xs, r, o, es, ep, h1, h2, h3, h4, h5⟩ := (show ObjOk X.prog X.w H s.heap a (.dT kvs) from rd_of I.hok h)
  have l1 : es.size = xs.length := size_of_entries h4
  have l2 : kvs.length = xs.length := Paired.length r
  refine ⟨y, o, es, ep, h1, h2, h3, by omega, fun i k v e => ?_⟩
  obtain ⟨b, hb, e1, e2, _⟩ := paired_get r e
  have q := entry_at h4 i
  rw [hb] at q
  exact ⟨_, b.2.1, q, rfl, e2⟩
theorem cr_sortedKT {X : Cx} (hc : X.calm = true) : CallR X (.builtin "sorted") rSortedKT := by
  intro pins s σ H vs us Q I r h
  obtain ⟨a, kvs, L, d, B, rfl, hd, hk, h1, hb, q⟩ := h
  rw [Vals.ref1 r]
  obtain ⟨hs, o, es, ep, ho, hx, hdt, hsz, ent⟩ := Inv.rdT I hd
  have hlen : kvs.length ≤ sizeLine := (show ObjOk X.prog X.w H s.heap a (.dT kvs) from rd_of I.hok hd).1
  have hkl : kvs.length = L.length := by
    have e := congrArg List.length hk
    rw [List.length_map, List.length_map] at e
    exact e
  refine Calls.call_function_entry PyProof.Rows.kind_sorted PyProof.Rows.plain_sorted PyProof.Rows.entry_sorted (PyProof.Rows.args_sorted1 _) ?_
  unfold Builtin.«sorted»
  refine wpAny_bind (m := checkCount "sorted" 1 1 _) (wpAny_pure ?_)
  refine wpAny_bind (PySem.W.kdu_collect (A := X.A.in1) (src_keysT hs hx hdt) (I.ok.hd hc) ho (by omega) fun h' tk acc hkeep hacc => ?_)
  have hal : acc.toList.length = L.length := by rw [Array.length_toList, hacc.1]; omega
  have raw : ∀ (j : Nat) (v : Value), acc.toList[j]? = some v → ∃ (l : List Int) (t : Addr), L[j]? = some l ∧ v = .ref t ∧ H t = some (.tup (l.map V.int)) := fun j v e => by
    obtain ⟨en, e1, e2⟩ := hacc.2 j v (by rw [← Array.getElem?_toList]; exact e)
    have hj : j < L.length := by
      rw [← hal]
      exact (List.getElem?_eq_some_iff.mp e).1
    have hL : L[j]? = some L[j] := List.getElem?_eq_getElem hj
    obtain ⟨⟨k, x⟩, hkv⟩ : ∃ p, kvs[j]? = some p := ⟨_, List.getElem?_eq_getElem (by omega)⟩
    obtain ⟨en', t, e3, e4, e5⟩ := ent j k x hkv
    rw [e1] at e3
    cases e3
    have e6 : (kvs.map (·.1))[j]? = some k := by rw [List.getElem?_map, hkv]; rfl
    rw [hk, List.getElem?_map, hL] at e6
    have e7 : L[j].map (Sum.inl : Int → Key) = k := Option.some.inj e6
    rw [← e7, keys_of] at e5
    exact ⟨_, t, hL, by rw [e2, e4], e5⟩
  have raw2 : ∀ v ∈ acc.toList, ∃ (l : List Int) (t : Addr), v = .ref t ∧ H t = some (.tup (l.map V.int)) ∧ l.length = d ∧ TS.Bd B l ∧ TS.intsOf s.heap v = l ∧ TS.TupInts s.heap v l := fun v hv => by
    obtain ⟨j, hj⟩ := List.mem_iff_getElem?.mp hv
    obtain ⟨l, t, hL, rfl, ht⟩ := raw j v hj
    have z := tupI_raw I (SqT.of ht : SqT X.K H t _)
    exact ⟨l, t, rfl, ht, (hb l (List.mem_of_getElem? hL)).1, (hb l (List.mem_of_getElem? hL)).2, z.ints, z⟩
  have hmap : acc.toList.map (TS.intsOf s.heap) = L := by
    apply List.ext_getElem?
    intro j
    rw [List.getElem?_map]
    cases e : acc.toList[j]? with
    | none =>
      have : L.length ≤ j := by
        rw [← hal]
        exact List.getElem?_eq_none_iff.mp e
      rw [List.getElem?_eq_none this]
      rfl
    | some v =>
      obtain ⟨l, t, hL, rfl, ht⟩ := raw j v e
      rw [hL]
      have z := tupI_raw I (SqT.of ht : SqT X.K H t _)
      show some (TS.intsOf s.heap (.ref t)) = some l
      rw [z.ints]
  have I1 : L2.Inv X pins σ H { s with heap := h', toks := tk } := I.kept hkeep
  refine wpAny_bind (wpAny_newList ?_ (by omega))
  have hoL : (h'.push (seqObj "list" acc.toList.toArray 0)).get? h'.objs.size = some (seqObj "list" acc.toList.toArray 0) := Heap.get?_push_size _ rfl
  show wpAny _ _ _ _ _ { s with heap := h'.push (seqObj "list" acc.toList.toArray 0), toks := tk }
  have keepT : ∀ b o, s.heap.get? b = some o → o.cls = .type "tuple" → (h'.push (seqObj "list" acc.toList.toArray 0)).get? b = some o := fun b o e _ => Heap.get?_push_of_some _ (hkeep b o e)
  refine wpAny_bind (wpAny_holding (wpAny_call_entry PyProof.Rows.slot_list_sort ⟨_, hoL, rfl⟩ PyProof.Rows.entry_list_sort
    (SrtO.list_sort_ord (s := { s with heap := h'.push (seqObj "list" acc.toList.toArray 0), toks := tk }) (ltv := fun v u => decide (TS.code B (TS.intsOf s.heap v) < TS.code B (TS.intsOf s.heap u))) (swo_rank fun v => TS.code B (TS.intsOf s.heap v)) hoL (by omega)
      (fun h2 => tups_sortable (d := d) (B := B) h1 h2 (fun v hv => ?_) (fun o e => ?_) (fun v => TS.code B (TS.intsOf s.heap v)) fun v hv ns t => ?_) fun out hs hb => ⟨_, rfl, ?_⟩) (PyProof.Rows.args_list_sort _)))
  · obtain ⟨l, t, rfl, _, g1, g2, _, z⟩ := raw2 v hv
    exact ⟨l, z.keeps keepT, g1, g2⟩
  · have e' : some o = some (seqObj "list" acc.toList.toArray 0) := e.symm.trans hoL
    cases e'
    intro c
    exact absurd (Value.type.inj c) (by decide)
  · obtain ⟨l, t', rfl, _, _, _, g3, z⟩ := raw2 v hv
    show TS.code B (TS.intsOf s.heap _) = TS.code B ns
    rw [g3, ← (z.keeps keepT).ints, ← t.ints]
  · obtain ⟨e', he'⟩ := PyProof.Rows.sortedHeap_at (vs := acc.toList) (out := out.toArray) hoL
    have h3 : ∀ u ∈ out, ∃ a, u = Value.ref a := fun u hu => by
      obtain ⟨_, t, rfl, _⟩ := raw2 u (hb.perm.mem_iff.mp hu)
      exact ⟨t, rfl⟩
    have hl2 : (out.map bkV).length ≤ sizeLine := by
      rw [List.length_map, hb.perm.length_eq, hal]
      omega
    have bk : ∀ u ∈ out, Value.ref (match bkV u with | .ref t => t | _ => 0) = u := fun u hu => by
      obtain ⟨t, rfl⟩ := h3 u hu
      rfl
    refine wpAny_pure ⟨_, rfl, .ref h'.objs.size, upd H h'.objs.size (.lst (out.map bkV)), I1.laid (t' := tk) (fun b u e => ?_) (Nat.le_refl _)
      (show ObjOk X.prog X.w _ _ _ (.lst (out.map bkV)) from ⟨hl2, out, e', bkV_vals h3, he'⟩), rfl, q (out.map bkV) (fun y => TS.intsOf s.heap (Value.ref (match y with | .ref t => t | _ => 0))) _ ?_ ?_ ?_ (I1.hok.fresh (Nat.le_refl _))⟩
    · have hb : b < h'.objs.size := Heap.lt_size e
      rw [PyProof.Rows.sortedHeap_old (Nat.ne_of_lt hb) (by rw [size_push']; exact Nat.lt_succ_of_lt hb)]
      exact Heap.get?_push_of_some _ e
    · intro y hy
      obtain ⟨u, hu, rfl⟩ := List.mem_map.mp hy
      obtain ⟨l, t, rfl, ht, _, _, g3, _⟩ := raw2 u (hb.perm.mem_iff.mp hu)
      refine ⟨t, rfl, ?_⟩
      show H t = some (.tup ((TS.intsOf s.heap (.ref t)).map V.int))
      rw [g3]
      exact ht
    · rw [List.map_map]
      have e : out.map ((fun y => TS.intsOf s.heap (Value.ref (match y with | .ref t => t | _ => 0))) ∘ bkV) = out.map (TS.intsOf s.heap) := List.map_congr_left fun u hu => congrArg (TS.intsOf s.heap) (bk u hu)
      rw [e, ← hmap]
      exact hb.perm.map _
    · rw [List.pairwise_map]
      refine List.Pairwise.imp_of_mem (fun {u v} hu hv z => ?_) (srtd_le (r := fun v => TS.code B (TS.intsOf s.heap v)) hs)
      show TS.code B (TS.intsOf s.heap _) ≤ TS.code B (TS.intsOf s.heap _)
      rw [bk u hu, bk v hv]
      exact z
end J

/-! dicts with tuple keys and with int keys, sorted, as rules of the store -/
namespace J
open PySem PySem.Spec L2 PyProof.Rows
abbrev tpS (x : List Int) : Slot := tupS (x.map iS)
def kx (x : List Int) : List Key := x.map Sum.inl
theorem kx_inj {x y : List Int} (h : kx x = kx y) : x = y := by
  unfold kx at h
  exact List.map_inj_right (fun a b e => Sum.inl.inj e) |>.mp h
theorem paired_snoc {α β : Type} {R : α → β → Prop} {a : List α} {b : List β} {x : α} {y : β} (h : Paired R a b) (p : R x y) : Paired R (a ++ [x]) (b ++ [y]) := by
  induction h with
  | nil => exact .cons p .nil
  | cons q _ ih => exact .cons q ih
/-! ### one sorted list -/
theorem sorted_uniq {α : Type} {le : α → α → Prop} : ∀ {l m : List α}, (∀ a ∈ l, ∀ b ∈ l, le a b → le b a → a = b) → l.Perm m → l.Pairwise le → m.Pairwise le → l = m
  | [], m, _, p, _, _ => (List.Perm.eq_nil p.symm).symm
  | x :: l, [], _, p, _, _ => absurd p.length_eq (by simp)
  | x :: l, y :: m, anti, p, hl, hm => by
    have hy : y ∈ x :: l := p.mem_iff.mpr List.mem_cons_self
    have hx : x ∈ y :: m := p.mem_iff.mp List.mem_cons_self
    have e : x = y := by
      rcases List.mem_cons.mp hy with e | hy'
      · exact e.symm
      · rcases List.mem_cons.mp hx with e | hx'
        · exact e
        · exact anti x List.mem_cons_self y hy ((List.pairwise_cons.mp hl).1 y hy') ((List.pairwise_cons.mp hm).1 x hx')
    subst e
    rw [sorted_uniq (fun a ha b hb => anti a (List.mem_cons_of_mem _ ha) b (List.mem_cons_of_mem _ hb)) p.cons_inv (List.pairwise_cons.mp hl).2 (List.pairwise_cons.mp hm).2]
theorem code_inj {B : Int} : ∀ {x y : List Int}, x.length = y.length → TS.Bd B x → TS.Bd B y → TS.code B x = TS.code B y → x = y
  | [], [], _, _, _, _ => rfl
  | [], _ :: _, h, _, _, _ => by simp at h
  | _ :: _, [], h, _, _, _ => by simp at h
  | a :: x, b :: y, hl, hx, hy, e => by
    have hl' : x.length = y.length := by simpa using hl
    rcases Int.lt_trichotomy a b with h | h | h
    · have := TS.code_lt hl' hx.tail hy.tail h
      omega
    · subst h
      have e2 : TS.code B x = TS.code B y := by
        have h1 : ¬ TS.code B x < TS.code B y := fun q => by have := (TS.code_same (d := a) hl').mpr q; omega
        have h2 : ¬ TS.code B y < TS.code B x := fun q => by have := (TS.code_same (d := a) hl'.symm).mpr q; omega
        omega
      rw [code_inj hl' hx.tail hy.tail e2]
    · have := TS.code_lt hl'.symm hy.tail hx.tail h
      omega
def leT (x y : List Int) : Bool := decide (TS.code 64 x ≤ TS.code 64 y)
def sortT (xs : List (List Int)) : List (List Int) := xs.mergeSort leT
theorem sortT_perm (xs : List (List Int)) : (sortT xs).Perm xs := List.mergeSort_perm xs leT
theorem sortT_srt (xs : List (List Int)) : (sortT xs).Pairwise fun x y => TS.code 64 x ≤ TS.code 64 y := by
  have h := List.pairwise_mergeSort (le := leT) (fun a b c h1 h2 => by
    have := of_decide_eq_true h1
    have := of_decide_eq_true h2
    exact decide_eq_true (by omega)) (fun a b => by
    unfold leT
    by_cases h : TS.code 64 a ≤ TS.code 64 b
    · rw [decide_eq_true h]; rfl
    · rw [decide_eq_true (show TS.code 64 b ≤ TS.code 64 a by omega), Bool.or_true]) xs
  exact h.imp fun q => of_decide_eq_true q
def TOk (d : Nat) (x : List Int) : Prop := x.length = d ∧ TS.Bd 64 x
theorem sortT_uniq {xs ys : List (List Int)} {d : Nat} (hx : ∀ x ∈ xs, TOk d x) (p : ys.Perm xs) (s : ys.Pairwise fun x y => TS.code 64 x ≤ TS.code 64 y) : ys = sortT xs := by
  refine sorted_uniq (fun a ha b hb h1 h2 => ?_) (p.trans (sortT_perm xs).symm) s (sortT_srt xs)
  have h3 := hx a (p.mem_iff.mp ha)
  have h4 := hx b (p.mem_iff.mp hb)
  exact code_inj (h3.1.trans h4.1.symm) h3.2 h4.2 (by omega)
def leI (x y : Int) : Bool := decide (x ≤ y)
def sortI (xs : List Int) : List Int := xs.mergeSort leI
theorem sortI_perm (xs : List Int) : (sortI xs).Perm xs := List.mergeSort_perm xs leI
theorem sortI_srt (xs : List Int) : (sortI xs).Pairwise (· ≤ ·) := by
  have h := List.pairwise_mergeSort (le := leI) (fun a b c h1 h2 => by
    have := of_decide_eq_true h1
    have := of_decide_eq_true h2
    exact decide_eq_true (by omega)) (fun a b => by
    unfold leI
    by_cases h : a ≤ b
    · rw [decide_eq_true h]; rfl
    · rw [decide_eq_true (show b ≤ a by omega), Bool.or_true]) xs
  exact h.imp fun q => of_decide_eq_true q
theorem sortI_uniq {xs ys : List Int} (p : ys.Perm xs) (s : ys.Pairwise (· ≤ ·)) : ys = sortI xs :=
  sorted_uniq (fun a ha b hb h1 h2 => Int.le_antisymm h1 h2) (p.trans (sortI_perm xs).symm) s (sortI_srt xs)
/-! ### sorted, all ways -/
def rSortDI : List V → Hp → VK → Prop := fun xs H Q => ∃ (a : Addr) (kvs : List (Key × V)) (ks : List Int), xs = [.ref a] ∧ Rd H a (.dK kvs) ∧ kvs.map (·.1) = ks.map Sum.inl ∧ ks.length < 64 ∧
    ∀ (ys : List Int) (p : Addr), ys.Perm ks → ys.Pairwise (· ≤ ·) → H p = none → Q (.ref p) (upd H p (.lst (ys.map V.int)))
def rSortJ (K : PySem.W.Frag) : List V → Hp → VK → Prop := fun vs H Q => rSortedW K vs H Q ∨ rSortedKT vs H Q ∨ rSortDI vs H Q
theorem kc_sorted {K : PySem.W.Frag} {X : Cx} (hK : X.K = K) (hc : X.calm = true) : CallR X (.builtin "sorted") (rSortJ K) := by
  subst hK
  exact CallR.or cr_sortedW (CallR.or (cr_sortedKT hc) (call_sortedDI hc))
section
variable {K : PySem.W.Frag} {F0 H0 F H : Hp} {σ : L2.St} {δ : List Ent} {te tb ta tk tv : TE} {tz : TS} {D : Ends} {i : Nat} {S : Slot} {e1 : Ent}
def intV : V → Int
  | .int i => i
  | _ => 0
/-- the ints of a tuple of F -/
def fv (F : Hp) : V → List Int
  | .ref t => match F t with
    | some (.tup ws) => ws.map intV
    | _ => []
  | _ => []
theorem fv_of {x : List Int} {v : V} (h : (tpS x).P F v) : ∃ t, v = .ref t ∧ F t = some (.tup (x.map V.int)) ∧ fv F v = x := by
  obtain ⟨t, ho, rfl, ht, ws, rfl, pw⟩ := h
  have e : ws = x.map V.int := PairS.kmap pw
  subst e
  refine ⟨t, rfl, ht, ?_⟩
  show (match F t with | some (.tup ws) => ws.map intV | _ => []) = x
  rw [ht]
  show (x.map V.int).map intV = x
  rw [List.map_map]
  exact List.map_id' x
theorem tp_of {x : List Int} {t : Addr} (h : F t = some (.tup (x.map V.int))) : (tpS x).P F (.ref t) := by
  exact ⟨t, _, rfl, h, _, rfl, PairS.ofk V.int x⟩
theorem pairs_tp {vs : List V} {xs : List (List Int)} (h : PairS F vs (xs.map tpS)) : vs.map (fv F) = xs := by
  induction xs generalizing vs with
  | nil => cases h; rfl
  | cons x xs ih =>
    cases h with
    | cons p t =>
      obtain ⟨_, _, _, e⟩ := fv_of p
      rw [List.map_cons, e, ih t]
theorem tp_pairs : ∀ {ys : List V}, (∀ y ∈ ys, ∃ t, y = .ref t ∧ F t = some (.tup ((fv F y).map V.int))) → PairS F ys ((ys.map (fv F)).map tpS)
  | [], _ => .nil
  | y :: ys, h => by
    obtain ⟨t, e, ht⟩ := h y List.mem_cons_self
    refine .cons ?_ (tp_pairs fun z hz => h z (List.mem_cons_of_mem _ hz))
    rw [e] at ht ⊢
    exact tp_of ht
theorem mem_tp {vs : List V} {xs : List (List Int)} (h : PairS F vs (xs.map tpS)) : ∀ v ∈ vs, (∃ t, v = .ref t ∧ F t = some (.tup ((fv F v).map V.int))) ∧ fv F v ∈ xs := by
  induction xs generalizing vs with
  | nil => cases h; intro v hv; cases hv
  | cons x xs ih =>
    cases h with
    | cons p t =>
      intro v hv
      cases hv with
      | head =>
        obtain ⟨q, e1, e2, e3⟩ := fv_of p
        rw [e3]
        exact ⟨⟨q, e1, e2⟩, List.mem_cons_self⟩
      | tail _ hv => exact ⟨(ih t v hv).1, List.mem_cons_of_mem _ (ih t v hv).2⟩
theorem eo_sortT {xs : List (List Int)} {d : Nat} (h : EvE te δ e1) (hr : IsR e1 (lstO (xs.map tpS))) (hd : 1 ≤ d) (hx : ∀ x ∈ xs, TOk d x) : EvO (tCB (rSortJ K) (tCons te tNil)) δ (lstO ((sortT xs).map tpS)) := fun F0 H0 F H σ s Q q =>
  h F0 H0 F H σ s _ fun v F1 H1 g1 a1 => by
    obtain ⟨p, ho, rfl, hp, vs, rfl, pv⟩ := hr.get a1 g1.fh
    have mt := mem_tp pv
    refine .inl ⟨p, vs, fv F1, d, 64, rfl, SqL.of hp, hd, fun x hm => ?_, fun ys r hperm hs hr => ?_⟩
    · obtain ⟨⟨t, e1, e2⟩, e3⟩ := mt x hm
      exact ⟨⟨t, e1, SqT.of (g1.fh t _ e2)⟩, hx _ e3⟩
    · have e : ys.map (fv F1) = sortT xs := by
        refine sortT_uniq hx ?_ (List.pairwise_map.mpr hs)
        rw [← pairs_tp pv]
        exact hperm.map _
      refine q r _ F1 _ (g1.trans (Grow.newH g1.fh hr)) (g1.hh.free hr) (g1.fh.free hr) upd_same ⟨_, rfl, ?_⟩
      rw [← e]
      exact tp_pairs fun y hy => (mt y (hperm.mem_iff.mp hy)).1
theorem dic_keys {kv : List (List Key × V)} {kvs : List (List Key × Slot)} (h : Paired (fun (p : List Key × V) (q : List Key × Slot) => p.1 = q.1 ∧ q.2.P F p.2) kv kvs) : kv.map (·.1) = kvs.map (·.1) := by
  induction h with
  | nil => rfl
  | cons p _ ih => rw [List.map_cons, List.map_cons, p.1, ih]
theorem dik_keys {kv : List (Key × V)} {kvs : List (Key × Slot)} (h : Paired (fun (p : Key × V) (q : Key × Slot) => p.1 = q.1 ∧ q.2.P F p.2) kv kvs) : kv.map (·.1) = kvs.map (·.1) := by
  induction h with
  | nil => rfl
  | cons p _ ih => rw [List.map_cons, List.map_cons, p.1, ih]
theorem eo_sortKT {kvs : List (List Key × Slot)} {L : List (List Int)} {d : Nat} (h : EvE te δ e1) (hr : IsR e1 (dicO kvs)) (hk : kvs.map (·.1) = L.map kx) (hd : 1 ≤ d) (hx : ∀ x ∈ L, TOk d x) : EvO (tCB (rSortJ K) (tCons te tNil)) δ (lstO ((sortT L).map tpS)) := fun F0 H0 F H σ s Q q =>
  h F0 H0 F H σ s _ fun v F1 H1 g1 a1 => by
    have s1 := s.grow g1
    obtain ⟨p, ho, rfl, hp, kv, rfl, pv⟩ := hr.get a1 g1.fh
    refine .inr (.inl ⟨p, kv, L, d, 64, rfl, .inl hp, (dic_keys pv).trans hk, hd, hx, fun ys g r hy hperm hs hr => ?_⟩)
    have hyF : ∀ y ∈ ys, (∃ t, y = .ref t ∧ F1 t = some (.tup ((fv F1 y).map V.int))) ∧ fv F1 y = g y := fun y hm => by
      obtain ⟨t, rfl, ht⟩ := hy y hm
      have ht1 := s1.tt t _ ht
      obtain ⟨_, e1, e2, e3⟩ := fv_of (tp_of ht1)
      rw [e3]
      exact ⟨⟨t, rfl, ht1⟩, rfl⟩
    have eg : ys.map (fv F1) = ys.map g := List.map_congr_left fun y hm => (hyF y hm).2
    have e : ys.map (fv F1) = sortT L := by
      rw [eg]
      exact sortT_uniq hx hperm (List.pairwise_map.mpr hs)
    refine q r _ F1 _ (g1.trans (Grow.newH g1.fh hr)) (g1.hh.free hr) (g1.fh.free hr) upd_same ⟨_, rfl, ?_⟩
    rw [← e]
    exact tp_pairs fun y hy => (hyF y hy).1
theorem eo_sortDI {kvs : List (Key × Slot)} {ks : List Int} (h : EvE te δ e1) (hr : IsR e1 (dikO kvs)) (hk : kvs.map (·.1) = ks.map Sum.inl) (hl : ks.length < 64) : EvO (tCB (rSortJ K) (tCons te tNil)) δ (lstO ((sortI ks).map iS)) := fun F0 H0 F H σ s Q q =>
  h F0 H0 F H σ s _ fun v F1 H1 g1 a1 => by
    obtain ⟨p, ho, rfl, hp, kv, rfl, pv⟩ := hr.get a1 g1.fh
    refine .inr (.inr ⟨p, kv, ks, rfl, .inl hp, (dik_keys pv).trans hk, hl, fun ys r hperm hs hr => ?_⟩)
    rw [sortI_uniq hperm hs]
    exact q r _ F1 _ (g1.trans (Grow.newH g1.fh hr)) (g1.hh.free hr) (g1.fh.free hr) upd_same ⟨_, rfl, PairS.ofk V.int _⟩
/-! ### dicts -/
theorem eo_newT : EvO tDNewT δ (dicO []) := fun F0 H0 F H σ s Q q => fun p hp => q p _ F _ (Grow.newH s.fh hp) hp (s.fh.free hp) upd_same ⟨[], rfl, .nil⟩
theorem eo_newK : EvO tDNewK δ (dikO []) := fun F0 H0 F H σ s Q q => fun p hp => q p _ F _ (Grow.newH s.fh hp) hp (s.fh.free hp) upd_same ⟨[], rfl, .nil⟩
theorem kx_V {x : List Int} : (kx x).map kV = x.map V.int := keys_of
theorem eo_disp1 {x : List Int} (hk : EvE tk δ (.v (tpS x))) (hv : EvE tv δ (.v S)) : EvO (tDisp1 tk tv) δ (dicO [(kx x, S)]) := fun F0 H0 F H σ s Q q => fun p hp => by
  have g0 : Grow F H F (upd H p (.dT [])) := Grow.newH s.fh hp
  have hf := s.fh.free hp
  refine hk F0 H0 F _ σ (s.grow g0) _ fun v F1 H1 g1 a1 => hv F0 H0 F1 H1 σ ((s.grow g0).grow g1) _ fun y F2 H2 g2 a2 => ?_
  have h1 : H1 p = some (.dT []) := g1.hh p _ upd_same
  have h2 : H2 p = some (.dT []) := g2.hh p _ h1
  have f1 : F1 p = none := g1.nw p (by rw [upd_same]; exact fun z => nomatch z) hf
  have f2 : F2 p = none := g2.nw p (by rw [h1]; exact fun z => nomatch z) f1
  obtain ⟨b, rfl, hb, _⟩ := fv_of a1
  refine ⟨h2, kx x, b, rfl, by rw [kx_V]; exact g2.hh b _ (g1.fh b _ hb), ?_⟩
  have gg := (g0.trans g1).trans g2
  refine q p _ F2 _ ⟨gg.ff, fun c u e => ?_, same_updR gg.fh f2, gg.nw, fun t => tt_upd (gg.tt t) (by intro _ h; cases h)⟩ hp f2 upd_same ⟨_, rfl, .cons ⟨rfl, a2⟩ .nil⟩
  rw [upd_ne (ne_of_none e hp)]
  exact gg.hh c u e
theorem find_keys {kv : List (List Key × V)} {kvs : List (List Key × Slot)} {k : List Key} (h : Paired (fun (p : List Key × V) (q : List Key × Slot) => p.1 = q.1 ∧ q.2.P F p.2) kv kvs) : match kvs.find? fun q => decide (q.1 = k) with
    | some q => ∃ v, valV kv k = some v ∧ q.2.P F v
    | none => valV kv k = none := by
  induction h with
  | nil => rfl
  | @cons p q ps qs hp t ih =>
    unfold valV at ih ⊢
    rw [List.find?_cons, List.find?_cons, hp.1]
    by_cases e : q.1 = k
    · rw [decide_eq_true e]
      exact ⟨p.2, rfl, hp.2⟩
    · rw [decide_eq_false e]
      exact ih
theorem some_keys {kv : List (List Key × V)} {k : List Key} : (valV kv k).isSome = true ↔ k ∈ kv.map (·.1) := by
  unfold valV
  rw [Option.isSome_map, List.find?_isSome]
  constructor
  · rintro ⟨p, hp, e⟩
    exact List.mem_map.mpr ⟨p, hp, of_decide_eq_true e⟩
  · intro h
    obtain ⟨p, hp, e⟩ := List.mem_map.mp h
    exact ⟨p, hp, decide_eq_true e⟩
theorem mem_kx {x : List Int} {L : List (List Int)} : kx x ∈ L.map kx ↔ x ∈ L := by
  constructor
  · intro h
    obtain ⟨y, hy, e⟩ := List.mem_map.mp h
    rw [← kx_inj e]
    exact hy
  · exact fun h => List.mem_map.mpr ⟨x, h, rfl⟩
theorem some_kx {kv : List (List Key × V)} {kvs : List (List Key × Slot)} {L : List (List Int)} {x : List Int} (h : Paired (fun (p : List Key × V) (q : List Key × Slot) => p.1 = q.1 ∧ q.2.P F p.2) kv kvs) (hk : kvs.map (·.1) = L.map kx) : (valV kv (kx x)).isSome = decide (x ∈ L) := by
  rw [Bool.eq_iff_iff, some_keys, dic_keys h, hk, mem_kx, decide_eq_true_iff]
theorem dget {x : List Int} {v y : V} {kvs : List (List Key × Slot)} (s : Same F H) (h1 : ArgOk F H v e1) (hr : IsR e1 (dicO kvs)) (h2 : (tpS x).P F y) : ∃ p kv, v = .ref p ∧ H p = some (.dT kv) ∧ Paired (fun (p : List Key × V) (q : List Key × Slot) => p.1 = q.1 ∧ q.2.P F p.2) kv kvs ∧ DGet H p y (valV kv (kx x)) := by
  obtain ⟨p, ho, rfl, hp, kv, rfl, pv⟩ := hr.get h1 s
  obtain ⟨b, rfl, hb, _⟩ := fv_of h2
  exact ⟨p, kv, rfl, hp, pv, DGet.t hp (by rw [kx_V]; exact s b _ hb)⟩
theorem ev_niDT {x : List Int} {L : List (List Int)} {kvs : List (List Key × Slot)} (ha : EvE ta δ (.v (tpS x))) (hb : EvE tb δ e1) (hr : IsR e1 (dicO kvs)) (hk : kvs.map (·.1) = L.map kx) : EvE (tNiJ K ta tb) δ (.v (bS (!decide (x ∈ L)))) := fun F0 H0 F H σ s Q q =>
  .inr (.inl (ha F0 H0 F H σ s _ fun y F1 H1 g1 a1 => hb F0 H0 F1 H1 σ (s.grow g1) _ fun v F2 H2 g2 a2 => by
    obtain ⟨p, kv, rfl, hp, pv, dg⟩ := dget g2.fh a2 hr ((tpS x).mono g2.ff a1)
    refine ⟨p, _, rfl, dg, ?_⟩
    rw [some_kx pv hk]
    exact q _ F2 H2 (g1.trans g2) rfl))
theorem ev_inDT {x : List Int} {L : List (List Int)} {kvs : List (List Key × Slot)} (ha : EvE ta δ (.v (tpS x))) (hb : EvE tb δ e1) (hr : IsR e1 (dicO kvs)) (hk : kvs.map (·.1) = L.map kx) : EvE (tInJ K ta tb) δ (.v (bS (decide (x ∈ L)))) := fun F0 H0 F H σ s Q q =>
  .inr (.inl (ha F0 H0 F H σ s _ fun y F1 H1 g1 a1 => hb F0 H0 F1 H1 σ (s.grow g1) _ fun v F2 H2 g2 a2 => by
    obtain ⟨p, kv, rfl, hp, pv, dg⟩ := dget g2.fh a2 hr ((tpS x).mono g2.ff a1)
    refine ⟨p, _, rfl, dg, ?_⟩
    rw [some_kx pv hk]
    exact q _ F2 H2 (g1.trans g2) rfl))
theorem ev_dget {x : List Int} {kvs : List (List Key × Slot)} {r : List Key × Slot} (ha : EvE ta δ e1) (hr : IsR e1 (dicO kvs)) (hb : EvE tb δ (.v (tpS x))) (hf : kvs.find? (fun q => decide (q.1 = kx x)) = some r) : EvE (tIx K ta tb) δ (.v r.2) := fun F0 H0 F H σ s Q q =>
  .inr (ha F0 H0 F H σ s _ fun v F1 H1 g1 a1 => hb F0 H0 F1 H1 σ (s.grow g1) _ fun y F2 H2 g2 a2 => by
    obtain ⟨p, kv, rfl, hp, pv, dg⟩ := dget g2.fh (a1.grow g2) hr a2
    have z := find_keys (k := kx x) pv
    rw [hf] at z
    obtain ⟨w, hw, pw⟩ := z
    rw [hw] at dg
    exact ⟨p, w, rfl, dg, q w F2 H2 (g1.trans g2) pw⟩)
/-- d[x] = .., x not yet in it -/
theorem q_dput {x : List Int} {L : List (List Int)} {kvs : List (List Key × Slot)} (s : St F0 H0 F H σ δ) (hi : δ[i]? = some (.ow (dicO kvs))) (hk : kvs.map (·.1) = L.map kx) (hn : x ∉ L) (hz : L.length < 100000) (h : EvE te δ (.v S)) (hb : EvE tb δ (.v (tpS x)))
    (k : ∀ σ' F' H', St F0 H0 F' H' σ' (δ.set i (.ow (dicO (kvs ++ [(kx x, S)])))) → tz D σ' H') : tSeq (sDPut (tVar i) tb te) tz D σ H := by
  refine h F0 H0 F H σ s _ fun v F1 H1 g1 a1 => ?_
  have s1 := s.grow g1
  obtain ⟨p, ho, e, hp, kv, rfl, pv⟩ := s1.loc hi
  refine ⟨.ref p, e, hb F0 H0 F1 H1 σ s1 _ fun y F2 H2 g2 a2 => ?_⟩
  obtain ⟨b, rfl, hb2, _⟩ := fv_of a2
  have hp2 := g2.hh p _ hp
  have hkl : kv.length = L.length := by
    have e := congrArg List.length ((dic_keys pv).trans hk)
    rw [List.length_map, List.length_map] at e
    exact e
  have hput : putK kv (kx x) v = kv ++ [(kx x, v)] := by
    unfold putK
    have e : (kv.any fun q => decide (q.1 = kx x)) = false := by
      rw [List.any_eq_false]
      intro q hq c
      have : kx x ∈ kv.map (·.1) := List.mem_map.mpr ⟨q, hq, of_decide_eq_true c⟩
      rw [dic_keys pv, hk] at this
      exact hn (mem_kx.mp this)
    rw [e, if_neg Bool.false_ne_true]
  refine ⟨p, _, rfl, DPut.t hp2 (by rw [kx_V]; exact g2.fh b _ hb2) (by rw [hkl]; exact sizeLt hz), ?_⟩
  rw [hput]
  exact k _ F2 _ ((s1.grow g2).mut hi e ⟨_, rfl, paired_snoc (Paired.mapP pv fun _ q z => ⟨z.1, q.2.mono g2.ff z.2⟩) ⟨rfl, S.mono g2.ff a1⟩⟩)
end
end J

namespace J
open PySem PySem.Spec L2 PyProof.Rows
theorem jo_isB {X : Cx} : OpR X (compareOp .Is) rIsB := op_isBl
theorem jo_isnotB {X : Cx} : OpR X (compareOp .IsNot) rNotB := op_notBl
section
variable {K : PySem.W.Frag} {F0 H0 F H : Hp} {σ : L2.St} {δ : List Ent} {te tb ta tk tv : TE} {tz : TS} {D : Ends} {i : Nat} {S : Slot} {e1 e2 : Ent}
theorem jv_isB {a b : Bool} : OpE rIsB (.v (bS a)) (.v (bS b)) (.v (bS (decide (a = b)))) := op_k fun _ _ q => ⟨a, b, rfl, rfl, q⟩
theorem jv_notB {a b : Bool} : OpE rNotB (.v (bS a)) (.v (bS b)) (.v (bS (!decide (a = b)))) := op_k fun _ _ q => ⟨a, b, rfl, rfl, q⟩
def tpD (x : List Int) : PyData := .tuple (x.map .int)
theorem eqv_tp (x y : List Int) : PyData.eqv (tpD x) (tpD y) = decide (x = y) := by
  unfold tpD
  rw [← eqvAll_ints]
  rfl
theorem any_tp (x : List Int) : ∀ L : List (List Int), ((L.map tpD).any fun z => PyData.eqv z (tpD x)) = decide (x ∈ L)
  | [] => rfl
  | y :: L => by
    rw [List.map_cons, List.any_cons, any_tp x L, eqv_tp]
    by_cases h : y = x
    · subst h
      rw [decide_eq_true rfl, Bool.true_or, decide_eq_true List.mem_cons_self]
    · rw [decide_eq_false h, Bool.false_or]
      congr 1
      rw [List.mem_cons]
      exact propext ⟨.inr, fun z => z.elim (fun z => absurd z.symm h) id⟩
theorem dat_tp {e : Ent} {x : List Int} (h : IsR e (tupO (x.map iS))) : Dat K e (tpD x) := dat_it h
theorem dat_ltp {e : Ent} {L : List (List Int)} (h : IsR e (lstO (L.map tpS))) : Dat K e (.list (L.map tpD)) := dat_itl h
/-- x in a list of tuples -/
theorem ev_inLT {x : List Int} {L : List (List Int)} (ha : EvE ta δ (.v (tpS x))) (hb : EvE tb δ e1) (hr : IsR e1 (lstO (L.map tpS))) : EvE (tInJ K ta tb) δ (.v (bS (decide (x ∈ L)))) := fun F0 H0 F H σ s Q q =>
  .inr (.inr (ev_op (r := rInD K) (e3 := .v (bS (decide (x ∈ L)))) ha hb (fun F H v y s a b Q q => by
    have h1 := dat_tp (K := K) (x := x) isR_v
    have h2 := dat_ltp (K := K) hr
    refine ⟨tpD x, L.map tpD, h1.to F H v s a, h2.to F H y s b, h1.sh, h2.sh, ?_⟩
    rw [any_tp]
    exact q _ F H (Grow.refl s) rfl) F0 H0 F H σ s Q q))
/-- d[n] = True, d a dict of ints that are all True -/
def addI (ks : List Int) (n : Int) : List Int := if n ∈ ks then ks else ks ++ [n]
abbrev setO (ks : List Int) : Own := dikO (ks.map fun n => ((Sum.inl n : Key), bS true))
theorem set_is {kv : List (Key × V)} {ks : List Int} (h : Paired (fun (p : Key × V) (q : Key × Slot) => p.1 = q.1 ∧ q.2.P F p.2) kv (ks.map fun n => ((Sum.inl n : Key), bS true))) : kv = ks.map fun n => ((Sum.inl n : Key), V.bl true) := by
  induction ks generalizing kv with
  | nil => cases h; rfl
  | cons a l ih =>
    cases h with
    | @cons p _ ps _ q t =>
      rw [ih t, List.map_cons]
      congr 1
      obtain ⟨x, y⟩ := p
      obtain ⟨h1, h2⟩ := q
      have h1 : x = Sum.inl a := h1
      have h2 : y = V.bl true := h2
      rw [h1, h2]
theorem is_set {ks : List Int} : Paired (fun (p : Key × V) (q : Key × Slot) => p.1 = q.1 ∧ q.2.P F p.2) (ks.map fun n => ((Sum.inl n : Key), V.bl true)) (ks.map fun n => ((Sum.inl n : Key), bS true)) := by
  induction ks with
  | nil => exact .nil
  | cons a l ih => exact .cons ⟨rfl, rfl⟩ ih
theorem put_set (ks : List Int) (n : Int) : putK (ks.map fun n => ((Sum.inl n : Key), V.bl true)) (Sum.inl n) (V.bl true) = (addI ks n).map fun n => ((Sum.inl n : Key), V.bl true) := by
  unfold putK addI
  have e : ((ks.map fun n => ((Sum.inl n : Key), V.bl true)).any fun kv => decide (kv.1 = Sum.inl n)) = decide (n ∈ ks) := by
    rw [List.any_map, Bool.eq_iff_iff, decide_eq_true_iff, List.any_eq_true]
    constructor
    · rintro ⟨x, hx, hh⟩
      have := Sum.inl.inj (of_decide_eq_true hh)
      rw [← this]
      exact hx
    · intro h
      exact ⟨n, h, decide_eq_true rfl⟩
  rw [e]
  by_cases h : n ∈ ks
  · rw [decide_eq_true h, if_pos rfl, if_pos h, List.map_map]
    apply List.map_congr_left
    intro x hx
    show (if (Sum.inl x : Key) = Sum.inl n then _ else _) = _
    split <;> rfl
  · rw [decide_eq_false h, if_neg Bool.false_ne_true, if_neg h, List.map_append]
    rfl
theorem q_dputB {ks : List Int} {n : Int} (s : St F0 H0 F H σ δ) (hi : δ[i]? = some (.ow (setO ks))) (hz : ks.length < 100000) (h : EvE te δ (.v (bS true))) (hb : EvE tb δ (.v (iS n)))
    (k : ∀ σ' F' H', St F0 H0 F' H' σ' (δ.set i (.ow (setO (addI ks n)))) → tz D σ' H') : tSeq (sDPut (tVar i) tb te) tz D σ H := by
  refine h F0 H0 F H σ s _ fun v F1 H1 g1 a1 => ?_
  have s1 := s.grow g1
  obtain ⟨p, ho, e, hp, kv, rfl, pv⟩ := s1.loc hi
  refine ⟨.ref p, e, hb F0 H0 F1 H1 σ s1 _ fun y F2 H2 g2 a2 => ?_⟩
  have hp2 := g2.hh p _ hp
  have ek := set_is pv
  subst ek
  have a1' : v = V.bl true := a1
  have a2' : y = V.int n := a2
  subst a1'
  subst a2'
  refine ⟨p, _, rfl, DPut.k (k := Sum.inl n) hp2 (by rw [List.length_map]; exact sizeLt hz), ?_⟩
  rw [put_set]
  exact k _ F2 _ ((s1.grow g2).mut hi e ⟨_, rfl, is_set⟩)
theorem set_keys {ks : List Int} : (ks.map fun n => ((Sum.inl n : Key), bS true)).map (·.1) = ks.map Sum.inl := by
  rw [List.map_map]
  rfl
end
end J

/-! pairs of own objects; loops over a dict; list(d) -/
namespace J
open PySem PySem.Spec L2 PyProof.Rows
section
variable {K : PySem.W.Frag} {F0 H0 F H : Hp} {σ : L2.St} {δ es : List Ent} {te tb ta tk tv : TE} {tr : TA} {tz tu : TS} {D : Ends} {i j i1 i2 : Nat} {S : Slot} {e1 e2 : Ent} {o o1 o2 : Own}
/-! ### a tuple of two own objects -/
def EvP (te : TE) (δ : List Ent) (o1 o2 : Own) : Prop := ∀ (F0 H0 F H : Hp) (σ : L2.St), St F0 H0 F H σ δ → ∀ Q : VK, (∀ t p1 p2 h1 h2 F' H', Grow F H F' H' → F' t = some (.tup [.ref p1, .ref p2]) → (H p1 = none ∧ H p2 = none) → (F' p1 = none ∧ F' p2 = none) → (H' p1 = some h1 ∧ H' p2 = some h2) → p1 ≠ p2 → (o1.P F' p1 h1 ∧ o2.P F' p2 h2) → Q (.ref t) H') → te σ H Q
theorem ep_call {R : Rel} {E : XK} (h : EvAs tr δ es) (hR : R es (.p o1 o2)) : EvP (tCall (SpOf R) [] E tr) δ o1 o2 := fun F0 H0 F H σ s Q q =>
  h F0 H0 F H σ s _ fun vs F1 H1 g1 a1 => ⟨F1, es, .p o1 o2, g1.fh, (s.grow g1).tt, pair_app a1, hR, fun t p1 p2 h1 h2 F' H' g ht hn hf hp hne z => q t p1 p2 h1 h2 F' H' (g1.trans g) ht ⟨g1.hh.free hn.1, g1.hh.free hn.2⟩ hf hp hne z⟩
theorem ev_ixP0 (h : EvP te δ o1 o2) (h0 : EvE tb δ (.v (iS 0))) : EvE (tIx K te tb) δ (.bo o1) := fun F0 H0 F H σ s Q q =>
  .inl (h F0 H0 F H σ s _ fun t p1 p2 h1 h2 F' H' g ht hn hf hp hne z => h0 F0 H0 F' H' σ (s.grow g) _ fun v F2 H2 g2 a2 => by
    have a2' : v = V.int 0 := a2
    subst a2'
    exact .inr (.inl ⟨t, [.ref p1, .ref p2], 0, .ref p1, rfl, rfl, SqT.of ((g2.fh t _ (g2.ff t _ ht))), atI_nat (xs := [V.ref p1, V.ref p2]) (j := 0) rfl, q _ F2 H2 (g.trans g2) ⟨p1, h1, rfl, g2.hh p1 _ hp.1, o1.mono g2.ff z.1⟩⟩))
/-- one more own object, that no slot holds yet -/
theorem St.put (s : St F0 H0 F H σ δ) {p : Addr} {ho : HO} (h0 : H0 p = none) (hf : F p = none) (hp : H p = some ho) (q : o.P F p ho) (away : ∀ {m : Nat} {o3 : Own}, δ[m]? = some (.ow o3) → σ[m]? = some (some (V.ref p)) → False) :
    St F0 H0 F H (σ.set i (some (.ref p))) (δ.set i (.ow o)) where
  g := s.g
  tt := s.tt
  len := by rw [List.length_set, List.length_set]; exact s.len
  at_ := fun m S' h => by
    rcases get_set h with ⟨rfl, e', hl⟩ | ⟨ne, h⟩
    · cases e'
    · obtain ⟨w, e', q⟩ := s.at_ m S' h
      exact ⟨w, by rw [List.getElem?_set_ne (fun z => ne z.symm)]; exact e', q⟩
  ow := fun m o' h => by
    rcases get_set h with ⟨rfl, e', hl⟩ | ⟨ne, h⟩
    · cases e'
      exact ⟨p, ho, List.getElem?_set_self (by rw [s.len]; exact hl), h0, hf, hp, q⟩
    · obtain ⟨w, ho', e', q⟩ := s.ow m o' h
      exact ⟨w, ho', by rw [List.getElem?_set_ne (fun z => ne z.symm)]; exact e', q⟩
  bo := fun m o' h => by
    rcases get_set h with ⟨rfl, e', hl⟩ | ⟨ne, h⟩
    · cases e'
    · obtain ⟨w, ho', e', q⟩ := s.bo m o' h
      exact ⟨w, ho', by rw [List.getElem?_set_ne (fun z => ne z.symm)]; exact e', q⟩
  sep := fun m l o3 o4 a ne h1 h2 h3 h4 => by
    rcases get_set h1 with ⟨z1, e1', l1⟩ | ⟨n1, g1⟩
    · rcases get_set h2 with ⟨z2, e2', l2⟩ | ⟨n2, g2⟩
      · exact ne (z1.trans z2.symm)
      · rw [z1, List.getElem?_set_self (by rw [s.len]; exact l1)] at h3
        rw [List.getElem?_set_ne (fun z => n2 z.symm)] at h4
        cases h3
        exact away g2 h4
    · rw [List.getElem?_set_ne (fun z => n1 z.symm)] at h3
      rcases get_set h2 with ⟨z2, e2', l2⟩ | ⟨n2, g2⟩
      · rw [z2, List.getElem?_set_self (by rw [s.len]; exact l2)] at h4
        cases h4
        exact away g1 h3
      · rw [List.getElem?_set_ne (fun z => n2 z.symm)] at h4
        exact s.sep m l o3 o4 a ne g1 g2 h3 h4
theorem q_tup2P (s : St F0 H0 F H σ δ) (h : EvP te δ o1 o2) (hi : i1 < δ.length) (k : ∀ σ' F' H', St F0 H0 F' H' σ' ((δ.set i1 (.ow o1)).set i2 (.ow o2)) → tz D σ' H') :
    tSeq (tAsg te (gTup K 2 (gCons (gName i1) (gCons (gName i2) gNil)))) tz D σ H := by
  refine h F0 H0 F H σ s _ fun t p1 p2 h1 h2 F' H' g ht hn hf hp hne z => ?_
  have s1 := s.set_ow (i := i1) g hn.1 hf.1 hp.1 z.1
  have s2 := s1.put (i := i2) (s.g.hh.free hn.2) hf.2 hp.2 z.2 fun {m o3} h5 h6 => by
    by_cases e : m = i1
    · subst e
      rw [List.getElem?_set_self (by rw [s.len]; exact hi)] at h6
      cases h6
      exact hne rfl
    · rw [List.getElem?_set_ne (fun z => e z.symm)] at h5 h6
      obtain ⟨p, ho, e1, _, _, e2, _⟩ := s.ow m o3 h5
      rw [h6] at e1
      cases e1
      rw [hn.2] at e2
      cases e2
  exact ⟨t, _, rfl, SqT.of (g.fh t _ ht |> fun _ => s1.fh t _ ht), rfl, _, _, rfl, _, _, rfl, rfl, k _ F' H' s2⟩
/-- return (a, b), both own -/
theorem q_retP (s : St F0 H0 F H σ δ) (h1 : δ[i1]? = some (.ow o1)) (h2 : δ[i2]? = some (.ow o2)) (hne : i1 ≠ i2)
    (k : ∀ t p1 p2 h1 h2 F' H', Grow F0 H0 F' H' → F' t = some (.tup [.ref p1, .ref p2]) → (H0 p1 = none ∧ H0 p2 = none) → (F' p1 = none ∧ F' p2 = none) → (H' p1 = some h1 ∧ H' p2 = some h2) → p1 ≠ p2 → (o1.P F' p1 h1 ∧ o2.P F' p2 h2) → D.rt (.ref t) H') :
    tSeq (tRet (tTup (tCons (tVar i1) (tCons (tVar i2) tNil)))) tz D σ H := by
  obtain ⟨p1, x1, e1, z1, f1, hp1, q1⟩ := s.ow i1 o1 h1
  obtain ⟨p2, x2, e2, z2, f2, hp2, q2⟩ := s.ow i2 o2 h2
  refine ⟨.ref p1, e1, .ref p2, e2, Nat.le_trans (by decide : 2 ≤ 100000) (by decide), fun t ht => ?_⟩
  have g := Grow.newF (o := .tup [.ref p1, .ref p2]) s.fh ht
  have n1 : p1 ≠ t := fun e => by rw [e, ht] at hp1; cases hp1
  have n2 : p2 ≠ t := fun e => by rw [e, ht] at hp2; cases hp2
  exact k t p1 p2 x1 x2 _ _ (s.g.trans g) upd_same ⟨z1, z2⟩ ⟨by rw [upd_ne n1]; exact f1, by rw [upd_ne n2]; exact f2⟩ ⟨by rw [upd_ne n1]; exact hp1, by rw [upd_ne n2]; exact hp2⟩
    (fun e => s.sep i1 i2 o1 o2 p1 hne h1 h2 e1 (by rw [e]; exact e2)) ⟨o1.mono g.ff q1, o2.mono g.ff q2⟩

/-! ### a dict, locked -/
abbrev PK (F : Hp) (kv : List (List Key × V)) (kvs : List (List Key × Slot)) : Prop := Paired (fun (p : List Key × V) (q : List Key × Slot) => p.1 = q.1 ∧ q.2.P F p.2) kv kvs
theorem PK.mono {F F' : Hp} {kv : List (List Key × V)} {kvs : List (List Key × Slot)} (s : Same F F') (h : PK F kv kvs) : PK F' kv kvs := Paired.mapP h fun _ q z => ⟨z.1, q.2.mono s z.2⟩
def dicL (d : Addr) (od : Obj) (kv : List (List Key × V)) (kvs : List (List Key × Slot)) : Own := ⟨fun F a ho => a = d ∧ ho = .frz od (.dT kv) ∧ PK F kv kvs, fun s h => ⟨h.1, h.2.1, PK.mono s h.2.2⟩⟩
/-- what a locked loop leaves behind -/
def NXL (F0 H0 : Hp) (i : Nat) (lk : Own) (I : List Ent → Prop) : L2.St → Hp → Prop := fun σ H => ∃ F δ, St F0 H0 F H σ (δ.set i (.ow lk)) ∧ I δ
theorem q_nxL {I : List Ent → Prop} {lk : Own} {rt : VK} {bk ct : L2.St → Hp → Prop} {δ' : List Ent} (s : St F0 H0 F H σ δ') (δ : List Ent) (e : δ' = δ.set i (.ow lk)) (h : I δ) : tNext ⟨NXL F0 H0 i lk I, rt, bk, ct⟩ σ H := ⟨F, δ, e ▸ s, h⟩
theorem St.unlock {d : Addr} {od : Obj} {kv : List (List Key × V)} {kvs : List (List Key × Slot)} (s : St F0 H0 F H σ δ) (hi : δ[i]? = some (.ow (dicL d od kv kvs))) : H d = some (.frz od (.dT kv)) ∧ St F0 H0 F (upd H d (.dT kv)) σ (δ.set i (.ow (dicO kvs))) := by
  obtain ⟨p, ho, e, h0, hf, hp, rfl, rfl, pk⟩ := s.ow i _ hi
  exact ⟨hp, s.mut (o' := dicO kvs) hi e ⟨kv, rfl, pk⟩⟩
theorem keys_len {kv : List (List Key × V)} {kvs : List (List Key × Slot)} {L : List (List Int)} (pk : PK F kv kvs) (hk : kvs.map (·.1) = L.map kx) : kv.length = L.length := by
  have e := congrArg List.length ((dic_keys pk).trans hk)
  rw [List.length_map, List.length_map] at e
  exact e
theorem key_at {kv : List (List Key × V)} {kvs : List (List Key × Slot)} {L : List (List Int)} (pk : PK F kv kvs) (hk : kvs.map (·.1) = L.map kx) {n : Nat} {k : List Key} {v : V} (h : kv[n]? = some (k, v)) : ∃ x, L[n]? = some x ∧ k = kx x := by
  have e : (kv.map (·.1))[n]? = some k := by rw [List.getElem?_map, h]; rfl
  rw [dic_keys pk, hk, List.getElem?_map] at e
  cases q : L[n]? with
  | none => rw [q] at e; cases e
  | some x => rw [q] at e; exact ⟨x, rfl, (Option.some.inj e).symm⟩
/-- for x in d: the body may leave by a return -/
theorem q_forD {kvs : List (List Key × Slot)} {L : List (List Int)} (s : St F0 H0 F H σ δ) (hi : δ[i]? = some (.ow (dicO kvs))) (hk : kvs.map (·.1) = L.map kx) (hij : i ≠ j) (I : Nat → List Ent → Prop) (h0 : I 0 δ) (hI : ∀ n δ', I n δ' → δ'[i]? = some (.ow (dicO kvs)))
    (hs : ∀ d od kv F1, Base F0 H0 F1 → ∀ n x δ' σ' F' H', L[n]? = some x → I n δ' → St F1 H0 F' H' σ' ((δ'.set i (.ow (dicL d od kv kvs))).set j (.v (tpS x))) →
      tu ⟨NXL F1 H0 i (dicL d od kv kvs) (I (n + 1)), fun v H' => H' d = some (.frz od (.dT kv)) ∧ D.rt v (upd H' d (.dT kv)), fun σ' H' => H' d = some (.frz od (.dT kv)) ∧ tz D σ' (upd H' d (.dT kv)), NXL F1 H0 i (dicL d od kv kvs) (I (n + 1))⟩ σ' H')
    (hd : ∀ δ' σ' F' H', I L.length δ' → St F0 H0 F' H' σ' δ' → tz D σ' H') : tSeq (tLock (tFor (iAny K (tVar i)) (gName j) tu)) tz D σ H := by
  obtain ⟨d, ho, e, z0, zf, hp, kv, rfl, pk⟩ := s.ow i _ hi
  have hl := keys_len pk hk
  refine ⟨d, .dT kv, hp, trivial, fun od => ?_⟩
  have s1 : St F0 H0 F (upd H d (.frz od (.dT kv))) σ (δ.set i (.ow (dicL d od kv kvs))) := s.mut hi e ⟨rfl, rfl, pk⟩
  have b1 : Base F0 H0 F := fun g => s1.base g
  refine .inr (.inr ⟨.ref d, e, d, od, rfl, .inr ⟨kv, upd_same, ?_⟩⟩)
  refine ⟨fun n m σ' H' => m = L.length - n ∧ n ≤ L.length ∧ NXL F H0 i (dicL d od kv kvs) (I n) σ' H', ⟨L.length, by simp, Nat.zero_le _, F, δ, s1.rebase, h0⟩, ?_⟩
  rintro n m σ' H' ⟨rfl, hn, F', δ', s', hI'⟩
  have hi' : (δ'.set i (.ow (dicL d od kv kvs)))[i]? = some (.ow (dicL d od kv kvs)) := List.getElem?_set_self (List.getElem?_eq_some_iff.mp (hI n δ' hI')).1
  obtain ⟨hfr, su⟩ := s'.unlock hi'
  rw [List.set_set] at su
  by_cases hlt : n < L.length
  · refine .inr ⟨⟨hfr, by omega⟩, NXL F H0 i (dicL d od kv kvs) (I (n + 1)), fun σ2 H2 h2 => ⟨L.length - (n + 1), by omega, rfl, hlt, h2⟩, ?_⟩
    rintro x H2 ⟨rfl, k, v, q, hkv, rfl, hq⟩
    obtain ⟨y, hy, rfl⟩ := key_at pk hk hkv
    rw [kx_V] at hq
    refine hs d od kv F b1 n y δ' _ F' _ hy hI' (s'.set_v (tp_of (s'.tt q _ hq)))
  · have en : n = L.length := by omega
    subst en
    refine .inl ⟨⟨hfr, by omega⟩, hfr, ?_⟩
    have e2 : δ'.set i (.ow (dicO kvs)) = δ' := by
      have hh := hI _ δ' hI'
      obtain ⟨hlt, e3⟩ := List.getElem?_eq_some_iff.mp hh
      rw [← e3]
      exact List.set_getElem_self hlt
    rw [e2] at su
    exact hd δ' σ' F' _ hI' (su.unbase b1)
/-- return, out of a loop over a dict -/
theorem q_retL {F1 : Hp} {d : Addr} {od : Obj} {kv : List (List Key × V)} {kvs : List (List Key × Slot)} {nx bk ct : L2.St → Hp → Prop} {rt : VK} (s : St F1 H0 F H σ δ) (bs : Base F0 H0 F1) (hi : δ[i]? = some (.ow (dicL d od kv kvs))) (h : EvE te δ (.v S)) (k : ∀ v F' H', Grow F0 H0 F' H' → S.P F' v → rt v H') :
    tSeq (tRet te) tz ⟨nx, fun v H' => H' d = some (.frz od (.dT kv)) ∧ rt v (upd H' d (.dT kv)), bk, ct⟩ σ H := by
  refine h F1 H0 F H σ s _ fun v F' H' g a => ?_
  obtain ⟨hfr, su⟩ := (s.grow g).unlock hi
  exact ⟨hfr, k v F' _ (bs su.g) a⟩
/-- d[x], d locked -/
theorem ev_dgetL {x : List Int} {d : Addr} {od : Obj} {kv : List (List Key × V)} {kvs : List (List Key × Slot)} {r : List Key × Slot} (hi : δ[i]? = some (.ow (dicL d od kv kvs))) (hb : EvE tb δ (.v (tpS x))) (hf : kvs.find? (fun q => decide (q.1 = kx x)) = some r) : EvE (tIx K (tVar i) tb) δ (.v r.2) := fun F0 H0 F H σ s Q q =>
  .inr (by
    obtain ⟨p, ho, e, _, _, hp, rfl, rfl, pk⟩ := s.ow i _ hi
    refine ⟨.ref p, e, hb F0 H0 F H σ s _ fun y F2 H2 g2 a2 => ?_⟩
    obtain ⟨b, rfl, hb2, _⟩ := fv_of a2
    have z := find_keys (k := kx x) (pk.mono g2.ff)
    rw [hf] at z
    obtain ⟨w, hw, pw⟩ := z
    exact ⟨p, w, rfl, .inr ⟨kv, kx x, b, .inr ⟨od, g2.hh p _ hp⟩, rfl, by rw [kx_V]; exact g2.fh b _ hb2, hw.symm⟩, q w F2 H2 g2 pw⟩)
/-- [te for j in d], d locked -/
theorem eo_lcD {d : Addr} {od : Obj} {kv : List (List Key × V)} {kvs : List (List Key × Slot)} {L : List (List Int)} (f : List Int → Slot) (hi : δ[i]? = some (.ow (dicL d od kv kvs))) (hk : kvs.map (·.1) = L.map kx) (hz : L.length ≤ 40000) (he : ∀ x ∈ L, EvE te (δ.set j (.v (tpS x))) (.v (f x))) :
    EvO (tLc (iAny K (tVar i)) (gName j) tYes te [j]) δ (lstO (L.map f)) := fun F0 H0 F H σ s Q q => by
  obtain ⟨p, ho, e, _, _, hp, rfl, rfl, pk⟩ := s.ow i _ hi
  have hl := keys_len pk hk
  refine .inr (.inr ⟨.ref p, e, p, od, rfl, .inr ⟨kv, hp, fun Dl hD => ?_⟩⟩)
  refine ⟨fun n m H' => m = L.length - n ∧ n ≤ L.length ∧ LcI F H Dl ((L.take n).map f) H', ⟨L.length, by simp, Nat.zero_le _, LcI.start s.fh hD⟩, ?_⟩
  rintro n m H' ⟨rfl, hn, hI⟩
  obtain ⟨F', acc, g, hf', hp', pa⟩ := id hI
  have hfr := g.hh p _ hp
  by_cases hlt : n < L.length
  · refine .inr ⟨⟨hfr, by omega⟩, LcI F H Dl ((L.take (n + 1)).map f), fun H2 h2 => ⟨L.length - (n + 1), by omega, rfl, hlt, h2⟩, ?_⟩
    rintro x H2 ⟨rfl, k, v, a, hkv, rfl, hq⟩
    obtain ⟨y, hy, rfl⟩ := key_at pk hk hkv
    rw [kx_V] at hq
    have hm := List.mem_of_getElem? hy
    refine ⟨wipe1, lc_turn (b := true) (T := tpS y) (S := f y) (ss := (L.take n).map f) s hD (by rw [List.length_map, List.length_take]; omega) (fun F2 g2 => tp_of (g2.tt s.tt a _ hq)) hI et_yes (fun _ => he y hm) fun H3 z => ?_⟩
    rw [if_pos rfl] at z
    rw [List.take_add_one, hy, List.map_append]
    exact z
  · have en : n = L.length := by omega
    subst en
    rw [List.take_length] at pa
    exact .inl ⟨⟨hfr, by omega⟩, q Dl _ F' H' g hD hf' hp' ⟨acc, rfl, pa⟩⟩
/-! ### list(d) -/
def rListDT : List V → Hp → VK → Prop := fun xs H Q => ∃ d kvs, xs = [V.ref d] ∧ Rd H d (.dT kvs) ∧ ∀ p bs, H p = none → IsKeys H kvs bs → Q (.ref p) (upd H p (.lst (bs.map V.ref)))
def rLstW (K : PySem.W.Frag) : List V → Hp → VK → Prop := fun xs H Q => rLstJ K xs H Q ∨ rListDT xs H Q
theorem kc_listW {X : Cx} (hK : X.K = K) (hc : X.calm = true) : CallR X (.type "list") (rLstW K) := CallR.or (kc_list hK) (call_list_dT hc)
theorem keys_slots (tt : TupIn F H) {kv : List (List Key × V)} {bs : List Addr} (hb : IsKeys H kv bs) : ∀ {L : List (List Int)}, kv.map (·.1) = L.map kx → PairS F (bs.map V.ref) (L.map tpS) := by
  unfold IsKeys at hb
  induction hb with
  | nil =>
    intro L hk
    cases L with
    | nil => exact .nil
    | cons _ _ => cases hk
  | @cons a b as bs' h t ih =>
    intro L hk
    cases L with
    | nil => cases hk
    | cons x L =>
      rw [List.map_cons, List.map_cons] at hk
      obtain ⟨h1, h2⟩ := List.cons.inj hk
      rw [h1, kx_V] at h
      exact .cons (tp_of (tt b _ h)) (ih h2)
theorem eo_listD {kvs : List (List Key × Slot)} {L : List (List Int)} (h : EvE te δ e1) (hr : IsR e1 (dicO kvs)) (hk : kvs.map (·.1) = L.map kx) : EvO (tCB (rLstW K) (tCons te tNil)) δ (lstO (L.map tpS)) := fun F0 H0 F H σ s Q q =>
  h F0 H0 F H σ s _ fun v F1 H1 g1 a1 => by
    have s1 := s.grow g1
    obtain ⟨p, ho, rfl, hp, kv, rfl, pk⟩ := hr.get a1 g1.fh
    exact .inr ⟨p, kv, rfl, .inl hp, fun r bs hr hb => q r _ F1 _ (g1.trans (Grow.newH g1.fh hr)) (g1.hh.free hr) (g1.fh.free hr) upd_same ⟨_, rfl, keys_slots s1.tt hb ((dic_keys pk).trans hk)⟩⟩
end
end J

/-! list(range(a, b, c)) -/
namespace J
open PySem PySem.Spec L2 PyProof.Rows
def tLstRg3 (ta : TA) : TE := fun σ H Q => ta σ H fun vs H1 => ∃ (i j c : Int) (n : Nat), vs = [.int i, .int j, .int c] ∧ RgC i j c n ∧ n ≤ 100000 ∧ ∀ q, H1 q = none → Q (.ref q) (upd H1 q (.lst ((List.range n).map fun k : Nat => V.int (i + (k : Int) * c))))
theorem pe_listRg3 {X : Cx} {a b c : Expr} {ta : TA} {p pos p2 pos2 : Pos} (hcm : X.calm = true) (hg : Gl X "list") (hm : X.mg "list" = none) (hg2 : Gl X "range") (hm2 : X.mg "range" = none) (ha : PA X [a, b, c] ta)
    (na : starEach [Expr.Call (.Name "range" p2) [a, b, c] [] pos2] X.env = (false, eval (Expr.Call (.Name "range" p2) [a, b, c] [] pos2) X.env) :: starEach [] X.env := by rfl)
    (hs : starEach [a, b, c] X.env = (false, eval a X.env) :: starEach [b, c] X.env := by rfl) (hpl : (backTo pos2 (starEach [b, c] X.env)).any (·.1) = false := by rfl) :
    PE X (.Call (.Name "list" p) [.Call (.Name "range" p2) [a, b, c] [] pos2] [] pos) (tLstRg3 ta) := by
  refine ⟨fun pins s σ H Q I h => ?_⟩
  have key : wpAny (model X.prog X.w) X.A (eval (Expr.Call (.Name "range" p2) [a, b, c] [] pos2) X.env) (fun x s' => ∃ r i j k t u v n H', x = .ref r ∧ IsRange s'.heap r i j k t u v ∧ Inv X pins σ H' s' ∧ RgC i j k n ∧ n ≤ 100000 ∧ ∀ q, H' q = none → Q (.ref q) (upd H' q (.lst ((List.range n).map fun m : Nat => V.int (i + (m : Int) * k))))) X.xe s := by
    refine Call_ (ld_blt I hg2 hm2 boot_range (PyProof.Rows.callWith_type1 (thn (ha.run pos2 pins s σ H _ I h) fun us s1 ⟨vs, H1, I1, r1, q1⟩ => ?_) hs hpl))
    obtain ⟨i, j, k, n, e, ⟨c0, c1, c2, c3⟩, hn, q⟩ := q1
    subst e
    cases r1 with
    | cons r rr =>
      cases rr with
      | cons r' rr =>
        cases rr with
        | cons r'' rr =>
          cases rr
          obtain ⟨t, rfl⟩ := r
          obtain ⟨t', rfl⟩ := r'
          obtain ⟨t'', rfl⟩ := r''
          refine call_range_3 c0 ?_ (.inl (PyProof.noPylong_small c1))
          exact ⟨_, i, j, k, _, _, _, n, H1, rfl, IsRange.new _ _ _ _ _ _ _, I1.kept fun b u e => Heap.get?_push_of_some _ e, ⟨c0, c1, c2, c3⟩, hn, q⟩
  refine Call_ (ld_blt I hg hm boot_list (PyProof.Rows.callWith_type1 (args_cons (thn key fun x s1 ⟨r, i, j, k, t, u, v, n, H1, ex, hr, I1, ⟨c0, c1, c2, c3⟩, hn, q⟩ => args_nil ?_) na) na))
  subst ex
  refine call_list_range (n := n) (I1.ok.hd hcm) hr c2 (by rw [c3]) (by omega) fun h' tk acc c' hk e' hi => ?_
  have hl : acc.toList.length = n := by rw [Array.length_toList]; exact hi.1
  have hv : Vals ((List.range n).map fun m : Nat => V.int (i + (m : Int) * k)) acc.toList := by
    rw [← hl]
    refine vals_of_get acc.toList _ fun m u hm => ?_
    obtain ⟨t, rfl⟩ := hi.2 m u (by rw [← hm, Array.getElem?_toList])
    exact ⟨t, rfl⟩
  refine ⟨.ref s1.heap.objs.size, upd H1 s1.heap.objs.size (.lst ((List.range n).map fun m : Nat => V.int (i + (m : Int) * k))), I1.laid hk (Nat.le_refl _) (show ObjOk X.prog X.w _ _ _ (.lst ((List.range n).map fun m : Nat => V.int (i + (m : Int) * k))) from ⟨?_, acc.toList, c', hv, ?_⟩), rfl, q _ (I1.hok.fresh (Nat.le_refl _))⟩
  · rw [List.length_map, List.length_range, sizeLine_eq]; omega
  · rw [Array.toArray_toList]; exact e'
theorem eo_listRg3 {ta : TA} {δ : List Ent} {i j c : Int} {n : Nat} (h : EvAs ta δ [.v (iS i), .v (iS j), .v (iS c)]) (hr : RgC i j c n) (hn : n ≤ 100000) : EvO (tLstRg3 ta) δ (lstO (((List.range n).map fun k : Nat => i + (k : Int) * c).map iS)) := fun F0 H0 F H σ s Q q =>
  h F0 H0 F H σ s _ fun vs F1 H1 g1 a1 => by
    have e : vs = [.int i, .int j, .int c] := by
      cases a1 with
      | cons p1 t => cases t with
        | cons p2 t => cases t with
          | cons p3 t => cases t with
            | nil =>
              have p1 : _ = V.int i := p1
              have p2 : _ = V.int j := p2
              have p3 : _ = V.int c := p3
              rw [p1, p2, p3]
    refine ⟨i, j, c, n, e, hr, hn, fun r hr => q r _ F1 _ (g1.trans (Grow.newH g1.fh hr)) (g1.hh.free hr) (g1.fh.free hr) upd_same ⟨_, rfl, ?_⟩⟩
    have z := PairS.ofk (F := F1) V.int ((List.range n).map fun k : Nat => i + (k : Int) * c)
    rw [List.map_map] at z
    exact z
end J

namespace Jug
open PySem PySem.Spec L2 PyProof.Rows J
def top (i : Nat) : Stmt := PySem.Challenge.pw_jughouse_k06_whole_two_jugs.main.body.getD i (.Pass ⟨0, 0, 0, 0⟩)
structure Cs where
  Move : Addr
  Pour : Addr
  Fill : Addr
  Empty : Addr
  Goal : Addr
  Some : Addr
  Answer : Addr
  Poured : Addr
  Barred : Addr
  House : Addr
  JugError : Addr
  BadHouse : Addr
  BadState : Addr
  BadMove : Addr
  BadGoal : Addr
structure Top (K : PySem.W.Frag) (mg : Str → Option Value) (C : Cs) : Prop where
  f_Pour_one : FldOk K C.Pour "one"
  f_Pour_other : FldOk K C.Pour "other"
  i_Pour : IniT K mg "Pour" C.Pour "Pour.__init__" (inClass (top 17) 0) ["self", "one", "other"]
  m_Pour_behind : MetT K C.Pour "behind" "Pour.behind" (inClass (top 17) 2) ["self", "sizes", "state"]
  f_Fill_jug : FldOk K C.Fill "jug"
  i_Fill : IniT K mg "Fill" C.Fill "Fill.__init__" (inClass (top 18) 0) ["self", "jug"]
  m_Fill_behind : MetT K C.Fill "behind" "Fill.behind" (inClass (top 18) 2) ["self", "sizes", "state"]
  f_Empty_jug : FldOk K C.Empty "jug"
  i_Empty : IniT K mg "Empty" C.Empty "Empty.__init__" (inClass (top 19) 0) ["self", "jug"]
  m_Empty_behind : MetT K C.Empty "behind" "Empty.behind" (inClass (top 19) 2) ["self", "sizes", "state"]
  k_Goal : ∃ u, mg "Goal" = some u ∧ RelV (.ref C.Goal) u
  ik_Some : InsK K C.Some
  f_Some_many : FldOk K C.Some "many"
  i_Some : IniT K mg "Some" C.Some "Some.__init__" (inClass (top 24) 0) ["self", "many"]
  m_Some_fits : MetT K C.Some "fits" "Some.fits" (inClass (top 24) 1) ["self", "house"]
  m_Some_met : MetT K C.Some "met" "Some.met" (inClass (top 24) 2) ["self", "state"]
  m_Some_come : MetT K C.Some "come" "Goal.come" (inClass (top 23) 2) ["self", "house", "state"]
  is_Some_Goal : PySem.W.kitOne K (.ref C.Some) (.ref C.Goal) = some true
  k_Poured : ∃ u, mg "Poured" = some u ∧ RelV (.ref C.Poured) u
  ik_Poured : InsK K C.Poured
  f_Poured_pours : FldOk K C.Poured "pours"
  f_Poured_heights : FldOk K C.Poured "heights"
  i_Poured : IniT K mg "Poured" C.Poured "Poured.__init__" (inClass (top 27) 0) ["self", "pours", "heights"]
  is_Poured_Poured : PySem.W.kitOne K (.ref C.Poured) (.ref C.Poured) = some true
  k_Barred : ∃ u, mg "Barred" = some u ∧ RelV (.ref C.Barred) u
  ik_Barred : InsK K C.Barred
  f_Barred_among : FldOk K C.Barred "among"
  i_Barred : IniT K mg "Barred" C.Barred "Barred.__init__" (inClass (top 28) 0) ["self", "among"]
  is_Barred_Barred : PySem.W.kitOne K (.ref C.Barred) (.ref C.Barred) = some true
  f_House_told : FldOk K C.House "told"
  f_House_tap : FldOk K C.House "tap"
  i_House : IniT K mg "House" C.House "House.__init__" (inClass (top 34) 0) ["self", "sizes", "tap"]
  m_House_sizes : MetT K C.House "sizes" "House.sizes" (inClass (top 34) 1) ["self"]
  m_House_check : MetT K C.House "check" "House.check" (inClass (top 34) 2) ["self", "state"]
  m_House_moves : MetT K C.House "moves" "House.moves" (inClass (top 34) 3) ["self"]
  m_House_empty : MetT K C.House "empty" "House.empty" (inClass (top 34) 5) ["self"]
  x_BadHouse : ExcK K mg "BadHouse" C.BadHouse
  x_BadState : ExcK K mg "BadState" C.BadState
  x_BadMove : ExcK K mg "BadMove" C.BadMove
  x_BadGoal : ExcK K mg "BadGoal" C.BadGoal
  g_MOST_JUGS : ∃ u, mg "MOST_JUGS" = some u ∧ RelV (.int 4) u
  g_MOST : ∃ u, mg "MOST" = some u ∧ RelV (.int 240) u
  g_GREATEST : ∃ u, mg "GREATEST" = some u ∧ RelV (.int 60) u
  g_MOST_STATES : ∃ u, mg "MOST_STATES" = some u ∧ RelV (.int 2000) u
  d_spread : DefT K mg "spread" (top 2) ["house", "state"]
  d_reached : DefT K mg "reached" (top 3) ["house", "state"]
  d_measured : DefT K mg "measured" (top 4) ["house", "state"]
  d_within : DefT K mg "within" (top 13) ["number", "low", "high"]
  d_check_jug : DefT K mg "check_jug" (top 14) ["jug"]
  d_with_amount : DefT K mg "with_amount" (top 16) ["state", "jug", "many"]
  d_check_amount : DefT K mg "check_amount" (top 22) ["many"]
  d_way_to : DefT K mg "way_to" (top 29) ["ahead", "state"]
  d_fewest : DefT K mg "fewest" (top 30) ["house", "state", "goal"]
  d__law_cell_at : DefT K mg "_law_cell_at" (top 36) ["_law_script", "_law_k"]
  d__law_draw : DefT K mg "_law_draw" (top 37) ["_law_cell", "_law_k", "_law_many"]
  d__law_common : DefT K mg "_law_common" (top 38) ["_law_one", "_law_other"]
  d_law : DefT K mg "law" (top 39) ["_law_script"]
  n_bool : mg "bool" = none
  n_int : mg "int" = none
  n_isinstance : mg "isinstance" = none
  n_len : mg "len" = none
  n_list : mg "list" = none
  n_max : mg "max" = none
  n_min : mg "min" = none
  n_range : mg "range" = none
  n_sorted : mg "sorted" = none
  n_tuple : mg "tuple" = none

inductive Mv where
  | pour (i j : Nat)
  | fill (i : Nat)
  | empty (i : Nat)
  deriving DecidableEq
abbrev pourF (i j : Nat) : List (Str × Slot) := [("one", iS (i : Int)), ("other", iS (j : Int))]
abbrev jugF (i : Nat) : List (Str × Slot) := [("jug", iS (i : Int))]
def moveS (C : Cs) : Mv → Slot
  | .pour i j => objS C.Pour (pourF i j)
  | .fill i => objS C.Fill (jugF i)
  | .empty i => objS C.Empty (jugF i)

/-! ### the data -/
abbrev intsS (x : List Int) : Slot := lstS (x.map iS)
abbrev stS (x : List Int) : Slot := tupS (x.map iS)
abbrev hoF (z : List Int) (t : Bool) : List (Str × Slot) := [("told", intsS z), ("tap", bS t)]
abbrev houseS (C : Cs) (z : List Int) (t : Bool) : Slot := objS C.House (hoF z t)
def prodTo (z : List Int) (n : Nat) : Int := ((z.take n).map (· + 1)).foldl (· * ·) 1
structure HouseOk (z : List Int) : Prop where
  l1 : 1 ≤ z.length
  l4 : z.length ≤ 4
  sz : ∀ x ∈ z, 1 ≤ x ∧ x ≤ 60
  pr : prodTo z z.length ≤ 2000
structure StOk (z x : List Int) : Prop where
  len : x.length = z.length
  bd : ∀ (i : Nat) (a b : Int), x[i]? = some a → z[i]? = some b → 0 ≤ a ∧ a ≤ b
theorem prodTo_succ {z : List Int} {n : Nat} {a : Int} (h : z[n]? = some a) : prodTo z (n + 1) = prodTo z n * (a + 1) := by
  unfold prodTo
  rw [List.take_add_one, h, List.map_append, List.foldl_append]
  rfl
/-- the amount in a jug -/
def am (x : List Int) (i : Nat) : Int := x.getD i 0
theorem am_get {x : List Int} {i : Nat} (h : i < x.length) : x[i]? = some (am x i) := by
  unfold am
  rw [List.getD_eq_getElem?_getD, List.getElem?_eq_getElem h]
  rfl
theorem am_set {x : List Int} {i j : Nat} {a : Int} (hi : i < x.length) : am (x.set i a) j = if j = i then a else am x j := by
  unfold am
  rw [List.getD_eq_getElem?_getD, List.getD_eq_getElem?_getD]
  by_cases h : j = i
  · subst h
    rw [if_pos rfl, List.getElem?_set_self hi]
    rfl
  · rw [if_neg h, List.getElem?_set_ne (fun z => h z.symm)]
theorem stOk_iff {z x : List Int} : StOk z x ↔ x.length = z.length ∧ ∀ i, i < z.length → 0 ≤ am x i ∧ am x i ≤ am z i := by
  constructor
  · intro h
    exact ⟨h.len, fun i hi => h.bd i _ _ (am_get (by rw [h.len]; exact hi)) (am_get hi)⟩
  · rintro ⟨h1, h2⟩
    refine ⟨h1, fun i a b ha hb => ?_⟩
    have hi : i < z.length := (List.getElem?_eq_some_iff.mp hb).1
    have e1 := am_get (x := x) (i := i) (by omega)
    have e2 := am_get (x := z) (i := i) hi
    rw [ha] at e1
    rw [hb] at e2
    have := h2 i hi
    rw [← Option.some.inj e1, ← Option.some.inj e2] at this
    exact this
theorem mapGet {α : Type} {f : α → Slot} {l : List α} {n : Nat} {T : Slot} (h : (l.map f)[n]? = some T) : ∃ a, l[n]? = some a ∧ T = f a := by
  rw [List.getElem?_map] at h
  cases q : l[n]? with
  | none => rw [q] at h; cases h
  | some a => rw [q] at h; exact ⟨a, rfl, (Option.some.inj h).symm⟩
theorem prodTo_pos {z : List Int} (h : ∀ x ∈ z, 1 ≤ x ∧ x ≤ 60) : ∀ n, n ≤ z.length → 1 ≤ prodTo z n
  | 0, _ => by unfold prodTo; simp
  | n + 1, hn => by
    have hx : z[n]? = some z[n] := List.getElem?_eq_getElem (by omega)
    rw [prodTo_succ hx]
    have h1 := prodTo_pos h n (by omega)
    have h2 := (h z[n] (List.getElem_mem _)).1
    have h3 : 0 ≤ (prodTo z n - 1) * (z[n] + 1) := Int.mul_nonneg (by omega) (by omega)
    rw [Int.sub_mul] at h3
    omega
theorem set_am {x : List Int} {i : Nat} (h : i < x.length) : x.set i (am x i) = x := by
  apply List.ext_getElem?
  intro k
  by_cases e : k = i
  · subst e
    rw [List.getElem?_set_self h, am_get h]
  · rw [List.getElem?_set_ne (fun q => e q.symm)]

abbrev Gl := Int
abbrev someF (m : Int) : List (Str × Slot) := [("many", iS m)]
abbrev goalS (C : Cs) (g : Gl) : Slot := objS C.Some (someF g)
def metG (x : List Int) (g : Gl) : Bool := decide (g ∈ x)
def gPre (_ : List Int) (_ : Gl) : Prop := True
end Jug
local macro_rules | `(tactic| walk_at "fok") => `(tactic| (first | with_reducible exact Jug.Top.f_Pour_one (by assumption) | with_reducible exact Jug.Top.f_Pour_other (by assumption) | with_reducible exact Jug.Top.f_Fill_jug (by assumption) | with_reducible exact Jug.Top.f_Empty_jug (by assumption) | with_reducible exact Jug.Top.f_Some_many (by assumption) | with_reducible exact Jug.Top.f_Poured_pours (by assumption) | with_reducible exact Jug.Top.f_Poured_heights (by assumption) | with_reducible exact Jug.Top.f_Barred_among (by assumption) | with_reducible exact Jug.Top.f_House_told (by assumption) | with_reducible exact Jug.Top.f_House_tap (by assumption) ))

local macro_rules | `(tactic| walk_at "isr") => `(tactic| (first | with_reducible exact J.isR_b | with_reducible exact J.isR_v | exact Or.inl rfl | exact Or.inr rfl))
local macro_rules | `(tactic| walk_at "side") => `(tactic| (first | rfl | assumption | omega | decide | (simp; done) | (simp; omega)))
local macro_rules | `(tactic| walk_at "op") => `(tactic| (first
  | with_reducible exact J.jv_add | with_reducible exact J.jv_eqi | with_reducible exact J.jv_nei | with_reducible exact J.op_I0 | with_reducible exact J.jv_eqb | with_reducible exact J.jv_neb
  | (((with_reducible apply J.jx_l)); (walk_at "isr"); (walk_at "side"); (walk_at "side"))
  | (((with_reducible apply J.jx_t)); (walk_at "isr"); (walk_at "side"); (walk_at "side"))
  | with_reducible exact J.jv_eqs
  | ((with_reducible apply J.op_I); (first | exact Or.inr ⟨by omega, by omega⟩ | exact Or.inl ⟨by omega, by omega⟩ | walk_at "side"))))
local macro_rules | `(tactic| walk_at "cb") => `(tactic| (first
  | ((with_reducible apply J.cb_lenM); walk_at "isr") | ((with_reducible apply J.cb_lentM); walk_at "isr")
  | with_reducible exact J.kb_max2 | with_reducible exact J.kb_min2
  | (((with_reducible apply J.cb_isi J.ty_int (L2.ClsV.ty _))); first | exact J.kt_ii | exact J.kt_ib)
  | (((with_reducible apply J.cb_isi J.ty_bl (L2.ClsV.ty _))); first | exact J.kt_bb | exact J.kt_bi)
  | ((with_reducible apply J.cb_isl); walk_at "isr")
  | ((with_reducible apply J.cb_ist); walk_at "isr")
  | ((with_reducible apply J.kb_tuple); walk_at "isr")))
local macro_rules | `(tactic| walk_at "args") => `(tactic| (first
  | with_reducible exact J.ea_nil
  | (((with_reducible apply J.ea_cons)); (walk_at "ev"); (walk_at "args"))))
local macro_rules | `(tactic| walk_at "ev") => `(tactic| (first
  | with_reducible exact J.ev_c
  | (((with_reducible apply J.ev_v)); exact rfl) | (((with_reducible apply J.ev_bo)); exact rfl) | (((with_reducible apply J.ev_ow)); exact rfl)
  | (((with_reducible apply J.ev_op)); (walk_at "ev"); (walk_at "ev"); (walk_at "op"))
  | (((with_reducible apply J.ev_ix)); (walk_at "ev"); (walk_at "ev"); (walk_at "op"))
  | (((with_reducible apply J.ev_cb)); (walk_at "args"); (walk_at "cb"))
  | (((with_reducible apply J.ev_fld)); (walk_at "ev"); (walk_at "isr"); (walk_at "fok"); (walk_at "lk"))
  | (((with_reducible apply J.ev_slt)); (walk_at "ev"); (walk_at "po"); (walk_at "po"))
  | (((with_reducible apply J.ev_tupN)); (walk_at "argsV"); (first | exact Nat.le_of_ble_eq_true rfl | simp))
  | (((with_reducible apply J.ev_chain)); (walk_at "ev"); (walk_at "ev"); (intro _; walk_at "ev"); (walk_at "op"); (intro _; walk_at "op"))
  | (((with_reducible apply J.ev_and)); (walk_at "ev"); (intro _; walk_at "ev"))
  | (((with_reducible apply J.ev_or)); (walk_at "ev"); (intro _; walk_at "ev"))
  | (((with_reducible apply J.ev_not)); (walk_at "ev"))
  | (((with_reducible apply J.ev_un)); (walk_at "ev"); with_reducible exact J.un_I)))
local macro_rules | `(tactic| walk_at "et") => `(tactic| (first
  | with_reducible exact J.et_yes
  | (((with_reducible apply J.et_not)); (walk_at "et"))
  | (((with_reducible apply J.et_and)); (walk_at "et"); (intro _; walk_at "et"))
  | (((with_reducible apply J.et_or)); (walk_at "et"); (intro _; walk_at "et"))
  | (((with_reducible apply J.et_Test)); (walk_at "ev"))
  | (((with_reducible apply J.et_B)); (walk_at "ev"))))
local macro_rules | `(tactic| walk_at "len") => `(tactic| (intro es r h; (repeat (obtain ⟨_, h⟩ := h)); subst_vars; rfl))
local macro_rules | `(tactic| walk_at "lk") => `(tactic| (first | with_reducible exact J.lk0 | ((with_reducible apply J.lk1); (decide +kernel); (walk_at "lk")) | with_reducible exact J.lkn))
local macro_rules | `(tactic| walk_at "po") => `(tactic| (first | with_reducible exact J.eo_none | ((with_reducible apply J.eo_some); walk_at "ev")))
local macro_rules | `(tactic| walk_at "argsV") => `(tactic| (first | with_reducible exact J.ea_nilV | ((with_reducible apply J.ea_consV); (walk_at "ev"); (walk_at "argsV"))))


namespace Jug
open PySem PySem.Spec L2 PyProof.Rows J
section
variable {P : Program} {w : World} {K : PySem.W.Frag} {mg : Str → Option Value} {base : Heap} {C : Cs}
def R_within : Rel := fun es r => ∃ n lo hi : Int, es = [.v (iS n), .v (iS lo), .v (iS hi)] ∧ r = .v (bS (decide (lo ≤ n) && decide (n ≤ hi)))
/-! ### within: slots 0:number 1:low 2:high -/
abbrev s_within : Stmt := top 13
theorem sc_within : FnScope ["number", "low", "high"] ["number", "low", "high"] (defScope s_within) := ⟨rfl, rfl, rfl, by decide +kernel, rfl, by decide +kernel, by decide +kernel⟩
theorem ok_within (T : Top K mg C) : CalX P w K mg base 1 "within" (SpOf R_within) := by
  obtain ⟨f, fd, F, hm, hb⟩ := T.d_within.ex
  refine ⟨f, fd, _, fn_ok F sc_within (by walk_at "len") (fun cdv A outer s H E hr => ⟨_, (pss_cons (ps_ret (pe_and (pe_callB (kc_isi (K := K) rfl) (by rfl) T.n_isinstance bt_isinstance (pa_cons (pv 0) (pa_cons (pe_bltn (v := .ty "int") (by rfl) T.n_int bt_int rfl) pa_nil))) (pe_and (pe_not (pe_callB (kc_isi (K := K) rfl) (by rfl) T.n_isinstance bt_isinstance (pa_cons (pv 0) (pa_cons (pe_bltn (v := .ty "bool") (by rfl) T.n_bool bt_bool rfl) pa_nil)))) (pe_one (pe_chain op_le op_le (pv 1) (pv 0) (pv 2)))))) pss_nil), ?_⟩), hm, F.kp, hb⟩

  rintro es r F σ Q ⟨n, lo, hi, rfl, rfl⟩ s k
  simp only [J.cx_K, List.length_cons, List.length_nil, List.cons_append, List.nil_append, Nat.reduceAdd, Nat.reduceSub, List.reduceReplicate, List.append_nil] at s ⊢
  refine q_ret s (EvE.to (by walk_at "ev") ?_) k
  simp

def R_check_jug : Rel := fun es r => ∃ n : Int, es = [.v (iS n)] ∧ (0 ≤ n ∧ n ≤ 3) ∧ r = .v nS
/-! ### check_jug: slots 0:jug -/
abbrev s_check_jug : Stmt := top 14
theorem sc_check_jug : FnScope ["jug"] ["jug"] (defScope s_check_jug) := ⟨rfl, rfl, rfl, by decide +kernel, rfl, by decide +kernel, by decide +kernel⟩
theorem ok_check_jug (T : Top K mg C) : CalX P w K mg base 2 "check_jug" (SpOf R_check_jug) := by
  obtain ⟨f, fd, F, hm, hb⟩ := T.d_check_jug.ex
  refine ⟨f, fd, _, fn_ok F sc_check_jug (by walk_at "len") (fun cdv A outer s H E hr => ⟨_, (pss_cons (ps_if (pt_not (pt_val (pe_cX (ok_within T) hr (by decide) px_of (by rfl) (pa_cons (pv 0) (pa_cons pe_int (pa_cons (pe_op op_sub (C8.pe_gc (by rfl) T.g_MOST_JUGS) pe_int) pa_nil)))))) (pss_cons (ps_raiseX rfl tk_of T.x_BadMove (by rfl)) pss_nil) pss_nil) pss_nil), ?_⟩), hm, F.kp, hb⟩

  rintro es r F σ Q ⟨n, rfl, hn, rfl⟩ s k
  simp only [J.cx_K, List.length_cons, List.length_nil, List.cons_append, List.nil_append, Nat.reduceAdd, Nat.reduceSub, List.reduceReplicate, List.append_nil] at s ⊢
  refine q_whenF s (et_not (et_B (ev_call (by walk_at "args") ⟨n, 0, 4 - 1, rfl, rfl⟩))) (by simp; omega) fun σ F H s => ?_
  exact k .non F H s.g rfl
def R_with_amount : Rel := fun es r => ∃ (x : List Int) (j : Nat) (a : Int), es = [.v (stS x), .v (iS (j : Int)), .v (iS a)] ∧ j < x.length ∧ x.length ≤ 1000 ∧ r = .v (stS (x.set j a))
/-! ### with_amount: slots 0:state 1:jug 2:many -/
abbrev s_with_amount : Stmt := top 16
theorem sc_with_amount : FnScope ["state", "jug", "many"] ["state", "jug", "many"] (defScope s_with_amount) := ⟨rfl, rfl, rfl, by decide +kernel, rfl, by decide +kernel, by decide +kernel⟩
theorem ok_with_amount (T : Top K mg C) : CalX P w K mg base 1 "with_amount" (SpOf R_with_amount) := by
  obtain ⟨f, fd, F, hm, hb⟩ := T.d_with_amount.ex
  refine ⟨f, fd, _, fn_ok F sc_with_amount (by walk_at "len") (fun cdv A outer s H E hr => ⟨_, (pss_cons (ps_ret (pe_op (ko_add (K := K) rfl) (pe_op (ko_add (K := K) rfl) (pe_slice (ko_sl (K := K) rfl) (pv 0) po_none (po_some (pv 1))) (pe_tup (pa_cons (pv 2) pa_nil))) (pe_slice (ko_sl (K := K) rfl) (pv 0) (po_some (pe_op (ko_add (K := K) rfl) (pv 1) pe_int)) po_none))) pss_nil), ?_⟩), hm, F.kp, hb⟩

  rintro es r F σ Q ⟨x, j, a, rfl, hj, hx, rfl⟩ s k
  simp only [J.cx_K, List.length_cons, List.length_nil, List.cons_append, List.nil_append, Nat.reduceAdd, Nat.reduceSub, List.reduceReplicate, List.append_nil] at s ⊢
  have h1 : EvE (tSl (rSlJ K) (tVar 0) tNoPart (tPart (tVar 1))) [Ent.v (stS x), Ent.v (iS (j : Int)), Ent.v (iS a)] (.v (tupS ((x.map iS).take j))) := EvE.to (ev_slt (by walk_at "ev") eo_none (eo_some (by walk_at "ev"))) (by rw [cut_to])
  have h0 : EvE (tOp (rAddJ K) (tVar 1) (tC (V.int 1))) [Ent.v (stS x), Ent.v (iS (j : Int)), Ent.v (iS a)] (.v (iS ((j + 1 : Nat) : Int))) := by
    apply J.ev_op
    walk_at "ev"
    walk_at "ev"
    exact J.jv_add
  have h2 : EvE (tSl (rSlJ K) (tVar 0) (tPart (tOp (rAddJ K) (tVar 1) (tC (V.int 1)))) tNoPart) [Ent.v (stS x), Ent.v (iS (j : Int)), Ent.v (iS a)] (.v (tupS ((x.map iS).drop (j + 1)))) :=
    EvE.to (ev_slt (by walk_at "ev") (eo_some h0) eo_none) (by rw [cut_from])
  have h3 : EvE (tTup (tCons (tVar 2) tNil)) [Ent.v (stS x), Ent.v (iS (j : Int)), Ent.v (iS a)] (.v (tupS [iS a])) := by walk_at "ev"
  refine q_ret s (EvE.to (ev_op (ev_op h1 h3 (jv_addt ?_)) h2 (jv_addt ?_)) ?_) k
  · simp; omega
  · simp; omega
  · congr 2
    rw [← List.map_take, ← List.map_drop, List.set_eq_take_append_cons_drop, if_pos hj]
    simp
/-! ### the inits -/
def R_Pour : RelI := fun es r => ∃ i j : Nat, es = [.v (iS (i : Int)), .v (iS (j : Int))] ∧ (i ≤ 3 ∧ j ≤ 3 ∧ i ≠ j) ∧ r = .ok (pourF i j)
/-! ### Pour___init__: slots 0:self 1:one 2:other -/
abbrev s_Pour___init__ : Stmt := inClass (top 17) 0
theorem sc_Pour___init__ : FnScope ["self", "one", "other"] ["self", "one", "other"] (defScope s_Pour___init__) := ⟨rfl, rfl, rfl, by decide +kernel, rfl, by decide +kernel, by decide +kernel⟩
theorem ok_Pour___init__ (T : Top K mg C) : MakX P w K mg base 3 "Pour" C.Pour (SpInit C.Pour R_Pour) := by
  obtain ⟨f, fd, F, hk, hm, hb⟩ := T.i_Pour.ex
  refine ⟨f, fd, _, hk, init_ok F sc_Pour___init__ (by walk_at "len") (fun cdv A outer s H E hr => ⟨_, (pss_cons (ps_expr (pe_cX (ok_check_jug T) hr (by decide) px_of (by rfl) (pa_cons (pv 1) pa_nil))) (pss_cons (ps_expr (pe_cX (ok_check_jug T) hr (by decide) px_of (by rfl) (pa_cons (pv 2) pa_nil))) (pss_cons (ps_if (pt_cmpR (ko_eq (K := K) rfl hr) (pv 1) (pv 2) (nomark _)) (pss_cons (ps_raiseX rfl tk_of T.x_BadMove (by rfl)) pss_nil) pss_nil) (pss_cons (ps_fld (pv 0) (pv 1) rfl) (pss_cons (ps_fld (pv 0) (pv 2) rfl) pss_nil))))), ?_⟩), hm, hb⟩

  rintro p es r F H0 H σ D ⟨i, j, rfl, ⟨hi, hj, hij⟩, rfl⟩ s k
  simp only [J.cx_K, List.length_cons, List.length_nil, List.cons_append, List.nil_append, Nat.reduceAdd, Nat.reduceSub, List.reduceReplicate, List.append_nil] at s ⊢
  refine q_drop s (ev_call (by walk_at "args") ⟨(i : Int), rfl, by omega, rfl⟩) fun σ F H s => ?_
  refine q_drop s (ev_call (by walk_at "args") ⟨(j : Int), rfl, by omega, rfl⟩) fun σ F H s => ?_
  refine q_whenF s (by walk_at "et") (by simp; omega) fun σ F H s => ?_
  refine q_self s rfl (by walk_at "ev") T.f_Pour_one rfl (Nat.le_of_ble_eq_true rfl) fun σ F H s => ?_
  dsimp only [List.set, J.putS, List.nil_append, List.cons_append] at s
  refine q_self s rfl (by walk_at "ev") T.f_Pour_other (by walk_at "lk") (Nat.le_of_ble_eq_true rfl) fun σ F H s => ?_
  exact k σ F H _ s rfl
def R_Jug : RelI := fun es r => ∃ i : Nat, es = [.v (iS (i : Int))] ∧ i ≤ 3 ∧ r = .ok (jugF i)
/-! ### Fill___init__: slots 0:self 1:jug -/
abbrev s_Fill___init__ : Stmt := inClass (top 18) 0
theorem sc_Fill___init__ : FnScope ["self", "jug"] ["self", "jug"] (defScope s_Fill___init__) := ⟨rfl, rfl, rfl, by decide +kernel, rfl, by decide +kernel, by decide +kernel⟩
theorem ok_Fill___init__ (T : Top K mg C) : MakX P w K mg base 3 "Fill" C.Fill (SpInit C.Fill R_Jug) := by
  obtain ⟨f, fd, F, hk, hm, hb⟩ := T.i_Fill.ex
  refine ⟨f, fd, _, hk, init_ok F sc_Fill___init__ (by walk_at "len") (fun cdv A outer s H E hr => ⟨_, (pss_cons (ps_expr (pe_cX (ok_check_jug T) hr (by decide) px_of (by rfl) (pa_cons (pv 1) pa_nil))) (pss_cons (ps_fld (pv 0) (pv 1) rfl) pss_nil)), ?_⟩), hm, hb⟩

  rintro p es r F H0 H σ D ⟨i, rfl, hi, rfl⟩ s k
  simp only [J.cx_K, List.length_cons, List.length_nil, List.cons_append, List.nil_append, Nat.reduceAdd, Nat.reduceSub, List.reduceReplicate, List.append_nil] at s ⊢
  refine q_drop s (ev_call (by walk_at "args") ⟨(i : Int), rfl, by omega, rfl⟩) fun σ F H s => ?_
  refine q_self s rfl (by walk_at "ev") T.f_Fill_jug rfl (Nat.le_of_ble_eq_true rfl) fun σ F H s => ?_
  exact k σ F H _ s rfl
/-! ### Empty___init__: slots 0:self 1:jug -/
abbrev s_Empty___init__ : Stmt := inClass (top 19) 0
theorem sc_Empty___init__ : FnScope ["self", "jug"] ["self", "jug"] (defScope s_Empty___init__) := ⟨rfl, rfl, rfl, by decide +kernel, rfl, by decide +kernel, by decide +kernel⟩
theorem ok_Empty___init__ (T : Top K mg C) : MakX P w K mg base 3 "Empty" C.Empty (SpInit C.Empty R_Jug) := by
  obtain ⟨f, fd, F, hk, hm, hb⟩ := T.i_Empty.ex
  refine ⟨f, fd, _, hk, init_ok F sc_Empty___init__ (by walk_at "len") (fun cdv A outer s H E hr => ⟨_, (pss_cons (ps_expr (pe_cX (ok_check_jug T) hr (by decide) px_of (by rfl) (pa_cons (pv 1) pa_nil))) (pss_cons (ps_fld (pv 0) (pv 1) rfl) pss_nil)), ?_⟩), hm, hb⟩

  rintro p es r F H0 H σ D ⟨i, rfl, hi, rfl⟩ s k
  simp only [J.cx_K, List.length_cons, List.length_nil, List.cons_append, List.nil_append, Nat.reduceAdd, Nat.reduceSub, List.reduceReplicate, List.append_nil] at s ⊢
  refine q_drop s (ev_call (by walk_at "args") ⟨(i : Int), rfl, by omega, rfl⟩) fun σ F H s => ?_
  refine q_self s rfl (by walk_at "ev") T.f_Empty_jug rfl (Nat.le_of_ble_eq_true rfl) fun σ F H s => ?_
  exact k σ F H _ s rfl

/-! ### fits, behind -/
def fitsN : Mv → Bool → Nat → Prop
  | .pour i j, _, n => i < n ∧ j < n
  | .fill i, t, n => t = true ∧ i < n
  | .empty i, t, n => t = true ∧ i < n

/-- the state behind a move -/
def behind (z x : List Int) : Mv → List Int
  | .pour i j => (x.set i (am x i - min (am x i) (am z j - am x j))).set j (am x j + min (am x i) (am z j - am x j))
  | .fill i => x.set i (am z i)
  | .empty i => x.set i 0
def inN : Mv → Nat → Prop
  | .pour i j, n => i < n ∧ j < n ∧ i ≠ j
  | .fill i, n => i < n
  | .empty i, n => i < n
def R_behind (C : Cs) (m : Mv) : Rel := fun es r => ∃ z x, es = [.v (moveS C m), .v (intsS z), .v (stS x)] ∧ (inN m z.length ∧ x.length = z.length ∧ z.length ≤ 4) ∧ r = .v (stS (behind z x m))
def R_behindP (C : Cs) : Rel := fun es r => ∃ i j, R_behind C (.pour i j) es r
def R_behindF (C : Cs) : Rel := fun es r => ∃ i, R_behind C (.fill i) es r
def R_behindE (C : Cs) : Rel := fun es r => ∃ i, R_behind C (.empty i) es r
/-! ### Pour_behind: slots 0:self 1:sizes 2:state 3:much 4:less -/
abbrev s_Pour_behind : Stmt := inClass (top 17) 2
theorem sc_Pour_behind : FnScope ["self", "sizes", "state", "much", "less"] ["self", "sizes", "state"] (defScope s_Pour_behind) := ⟨rfl, rfl, rfl, by decide +kernel, rfl, by decide +kernel, by decide +kernel⟩
theorem ok_Pour_behind (T : Top K mg C) {D : Addr} (M : MetT K D "behind" "Pour.behind" s_Pour_behind ["self", "sizes", "state"]) : MetX P w K mg base 2 D "behind" (SpOf (R_behindP C)) := by
  obtain ⟨f, fd, F, hc, hm, hb⟩ := M.ex
  refine ⟨f, fd, _, hc, hm, fn_ok F sc_Pour_behind (by walk_at "len") (fun cdv A outer s H E hr => ⟨_, (pss_cons (ps_set (i := 3) sc_Pour_behind.nd rfl (Or.inl rfl) (pe_callB (kc_min2 rfl) (by rfl) T.n_min bt_min (pa_cons (ke_ix (K := K) rfl hr (pv 2) (ke_fld (K := K) rfl (pv 0) rfl) (fun _ _ => rfl) (fun _ _ => rfl)) (pa_cons (pe_op op_sub (ke_ix (K := K) rfl hr (pv 1) (ke_fld (K := K) rfl (pv 0) rfl) (fun _ _ => rfl) (fun _ _ => rfl)) (ke_ix (K := K) rfl hr (pv 2) (ke_fld (K := K) rfl (pv 0) rfl) (fun _ _ => rfl) (fun _ _ => rfl))) pa_nil)))) (pss_cons (ps_set (i := 4) sc_Pour_behind.nd rfl (Or.inl rfl) (pe_cX (ok_with_amount T) hr (by decide) px_of (by rfl) (pa_cons (pv 2) (pa_cons (ke_fld (K := K) rfl (pv 0) rfl) (pa_cons (pe_op op_sub (ke_ix (K := K) rfl hr (pv 2) (ke_fld (K := K) rfl (pv 0) rfl) (fun _ _ => rfl) (fun _ _ => rfl)) (pv 3)) pa_nil))))) (pss_cons (ps_ret (pe_cX (ok_with_amount T) hr (by decide) px_of (by rfl) (pa_cons (pv 4) (pa_cons (ke_fld (K := K) rfl (pv 0) rfl) (pa_cons (pe_op (ko_add (K := K) rfl) (ke_ix (K := K) rfl hr (pv 2) (ke_fld (K := K) rfl (pv 0) rfl) (fun _ _ => rfl) (fun _ _ => rfl)) (pv 3)) pa_nil))))) pss_nil))), ?_⟩), hb⟩

  rintro es r F σ Q ⟨i, j, z, x, rfl, ⟨⟨hi, hj, hij⟩, hx, hz⟩, rfl⟩ s k
  simp only [J.cx_K, List.length_cons, List.length_nil, List.cons_append, List.nil_append, Nat.reduceAdd, Nat.reduceSub, List.reduceReplicate, List.append_nil] at s ⊢
  have h1 := am_get (x := x) (i := i) (by omega)
  have h2 := am_get (x := x) (i := j) (by omega)
  have h3 := am_get (x := z) (i := j) (by omega)
  refine q_set s (by walk_at "ev") fun σ F H s => ?_
  dsimp only [List.set, J.putS, List.nil_append, List.cons_append] at s
  refine q_set s (ev_call (by walk_at "args") ⟨x, i, _, rfl, by omega, by omega, rfl⟩) fun σ F H s => ?_
  dsimp only [List.set, J.putS, List.nil_append, List.cons_append] at s
  refine q_ret s (ev_call (by walk_at "args") ⟨_, j, _, rfl, by rw [List.length_set]; omega, by rw [List.length_set]; omega, rfl⟩) k
/-! ### Fill_behind: slots 0:self 1:sizes 2:state -/
abbrev s_Fill_behind : Stmt := inClass (top 18) 2
theorem sc_Fill_behind : FnScope ["self", "sizes", "state"] ["self", "sizes", "state"] (defScope s_Fill_behind) := ⟨rfl, rfl, rfl, by decide +kernel, rfl, by decide +kernel, by decide +kernel⟩
theorem ok_Fill_behind (T : Top K mg C) {D : Addr} (M : MetT K D "behind" "Fill.behind" s_Fill_behind ["self", "sizes", "state"]) : MetX P w K mg base 2 D "behind" (SpOf (R_behindF C)) := by
  obtain ⟨f, fd, F, hc, hm, hb⟩ := M.ex
  refine ⟨f, fd, _, hc, hm, fn_ok F sc_Fill_behind (by walk_at "len") (fun cdv A outer s H E hr => ⟨_, (pss_cons (ps_ret (pe_cX (ok_with_amount T) hr (by decide) px_of (by rfl) (pa_cons (pv 2) (pa_cons (ke_fld (K := K) rfl (pv 0) rfl) (pa_cons (ke_ix (K := K) rfl hr (pv 1) (ke_fld (K := K) rfl (pv 0) rfl) (fun _ _ => rfl) (fun _ _ => rfl)) pa_nil))))) pss_nil), ?_⟩), hb⟩

  rintro es r F σ Q ⟨i, z, x, rfl, ⟨hi, hx, hz⟩, rfl⟩ s k
  have hi : i < z.length := hi
  simp only [J.cx_K, List.length_cons, List.length_nil, List.cons_append, List.nil_append, Nat.reduceAdd, Nat.reduceSub, List.reduceReplicate, List.append_nil] at s ⊢
  have h3 := am_get (x := z) (i := i) hi
  refine q_ret s (ev_call (by walk_at "args") ⟨x, i, _, rfl, by omega, by omega, rfl⟩) k
/-! ### Empty_behind: slots 0:self 1:sizes 2:state -/
abbrev s_Empty_behind : Stmt := inClass (top 19) 2
theorem sc_Empty_behind : FnScope ["self", "sizes", "state"] ["self", "sizes", "state"] (defScope s_Empty_behind) := ⟨rfl, rfl, rfl, by decide +kernel, rfl, by decide +kernel, by decide +kernel⟩
theorem ok_Empty_behind (T : Top K mg C) {D : Addr} (M : MetT K D "behind" "Empty.behind" s_Empty_behind ["self", "sizes", "state"]) : MetX P w K mg base 2 D "behind" (SpOf (R_behindE C)) := by
  obtain ⟨f, fd, F, hc, hm, hb⟩ := M.ex
  refine ⟨f, fd, _, hc, hm, fn_ok F sc_Empty_behind (by walk_at "len") (fun cdv A outer s H E hr => ⟨_, (pss_cons (ps_ret (pe_cX (ok_with_amount T) hr (by decide) px_of (by rfl) (pa_cons (pv 2) (pa_cons (ke_fld (K := K) rfl (pv 0) rfl) (pa_cons pe_int pa_nil))))) pss_nil), ?_⟩), hb⟩

  rintro es r F σ Q ⟨i, z, x, rfl, ⟨hi, hx, hz⟩, rfl⟩ s k
  have hi : i < z.length := hi
  simp only [J.cx_K, List.length_cons, List.length_nil, List.cons_append, List.nil_append, Nat.reduceAdd, Nat.reduceSub, List.reduceReplicate, List.append_nil] at s ⊢
  refine q_ret s (ev_call (by walk_at "args") ⟨x, i, _, rfl, by omega, by omega, rfl⟩) k

def R_House : RelI := fun es r => ∃ z t, es = [.bo (lstO (z.map iS)), .v (bS t)] ∧ HouseOk z ∧ r = .ok (hoF z t)
/-! ### House___init__: slots 0:self 1:sizes 2:tap 3:states 4:size -/
abbrev s_House___init__ : Stmt := inClass (top 34) 0
theorem sc_House___init__ : FnScope ["self", "sizes", "tap", "states", "size"] ["self", "sizes", "tap"] (defScope s_House___init__) := ⟨rfl, rfl, rfl, by decide +kernel, rfl, by decide +kernel, by decide +kernel⟩
theorem ok_House___init__ (T : Top K mg C) : MakX P w K mg base 2 "House" C.House (SpInit C.House R_House) := by
  obtain ⟨f, fd, F, hk, hm, hb⟩ := T.i_House.ex
  refine ⟨f, fd, _, hk, init_ok F sc_House___init__ (by walk_at "len") (fun cdv A outer s H E hr => ⟨_, (pss_cons (ps_if (PW.pt (pw_or (pt_not (pt_val (pe_callB (kc_isi (K := K) rfl) (by rfl) T.n_isinstance bt_isinstance (pa_cons (pv 1) (pa_cons (pe_bltn (v := .ty "list") (by rfl) T.n_list bt_list rfl) pa_nil))))) (pw_or (pt_not (pt_chain op_le op_le pe_int (pe_callB (kc_len (K := K) rfl) (by rfl) T.n_len bt_len (pa_cons (pv 1) pa_nil)) (C8.pe_gc (by rfl) T.g_MOST_JUGS))) (pw_or1 (pt_not (pt_val (pe_callB (kc_isi (K := K) rfl) (by rfl) T.n_isinstance bt_isinstance (pa_cons (pv 2) (pa_cons (pe_bltn (v := .ty "bool") (by rfl) T.n_bool bt_bool rfl) pa_nil))))))))) (pss_cons (ps_raiseX rfl tk_of T.x_BadHouse (by rfl)) pss_nil) pss_nil) (pss_cons (ps_set (i := 3) sc_House___init__.nd rfl (Or.inl rfl) pe_int) (pss_cons (ps_for (passes_of rfl) rfl (ki_any (K := K) rfl (pv 1)) (pg_name (i := 4) sc_House___init__.nd rfl (Or.inl rfl)) (pss_cons (ps_if (pt_not (pt_val (pe_cX (ok_within T) hr (by decide) px_of (by rfl) (pa_cons (pv 4) (pa_cons pe_int (pa_cons (C8.pe_gc (by rfl) T.g_GREATEST) pa_nil)))))) (pss_cons (ps_raiseX rfl tk_of T.x_BadHouse (by rfl)) pss_nil) pss_nil) (pss_cons (ps_set (i := 3) sc_House___init__.nd rfl (Or.inl rfl) (pe_op jo_mul (pv 3) (pe_op (ko_add (K := K) rfl) (pv 4) pe_int))) pss_nil))) (pss_cons (ps_if (pt_cmpR op_gt (pv 3) (C8.pe_gc (by rfl) T.g_MOST_STATES) (nomark _)) (pss_cons (ps_raiseX rfl tk_of T.x_BadHouse (by rfl)) pss_nil) pss_nil) (pss_cons (ps_fld (pv 0) (pe_callTy (kc_list (K := K) rfl) (by rfl) T.n_list bt_list (pa_cons (pv 1) pa_nil)) rfl) (pss_cons (ps_fld (pv 0) (pv 2) rfl) pss_nil)))))), ?_⟩), hm, hb⟩

  rintro p es r F H0 H σ D ⟨z, t, rfl, hz, rfl⟩ s k
  simp only [J.cx_K, List.length_cons, List.length_nil, List.cons_append, List.nil_append, Nat.reduceAdd, Nat.reduceSub, List.reduceReplicate, List.append_nil] at s ⊢
  have hz1 := hz.l1
  have hz4 := hz.l4
  refine q_whenF s (et_or (et_not (by walk_at "et")) fun _ => et_or (et_not (by walk_at "et")) fun _ => et_not (by walk_at "et")) (by simp; omega) fun σ F H s => ?_
  refine q_set s (by walk_at "ev") fun σ F H s => ?_
  dsimp only [List.set, J.putS, List.nil_append, List.cons_append] at s
  refine q_forB s rfl (fun n d => ∃ e, d = [.ow (selO p C.House []), .bo (lstO (z.map iS)), .v (bS t), .v (iS (prodTo z n)), e]) ⟨_, rfl⟩ ?_ ?_
  · rintro F1 bs n T' δ' σ F H hT ⟨e, rfl⟩ s
    obtain ⟨a, ha, rfl⟩ : ∃ a, z[n]? = some a ∧ T' = iS a := by
      rw [List.getElem?_map] at hT
      cases q : z[n]? with
      | none => rw [q] at hT; cases hT
      | some a => rw [q] at hT; exact ⟨a, rfl, (Option.some.inj hT).symm⟩
    have hb := hz.sz a (List.mem_of_getElem? ha)
    dsimp only [List.set, J.putS, List.nil_append, List.cons_append] at s
    refine q_whenF s (et_not (et_B (ev_call (by walk_at "args") ⟨_, _, _, rfl, rfl⟩))) (by simp; omega) fun σ F H s => ?_
    refine q_set s (EvE.to (ev_op (by walk_at "ev") (by walk_at "ev") (op_I ?_)) rfl) fun σ F H s => ?_
    · exact .inr (by omega)
    exact q_nx s ⟨_, by rw [prodTo_succ ha]; rfl⟩
  · rintro δ' σ F H ⟨e, rfl⟩ s
    rw [List.length_map] at s
    have hp := hz.pr
    refine q_whenF s (by walk_at "et") (by simp; omega) fun σ F H s => ?_
    refine q_self s rfl (eo_cb (by walk_at "args") (kb_list (by walk_at "isr"))).v T.f_House_told rfl (Nat.le_of_ble_eq_true rfl) fun σ F H s => ?_
    dsimp only [List.set, J.putS, List.nil_append, List.cons_append] at s
    refine q_self s rfl (by walk_at "ev") T.f_House_tap (by walk_at "lk") (Nat.le_of_ble_eq_true rfl) fun σ F H s => ?_
    exact k σ F H _ s rfl
def R_sizes (C : Cs) : Rel := fun es r => ∃ z t, es = [.v (houseS C z t)] ∧ r = .o (lstO (z.map iS))
/-! ### House_sizes: slots 0:self -/
abbrev s_House_sizes : Stmt := inClass (top 34) 1
theorem sc_House_sizes : FnScope ["self"] ["self"] (defScope s_House_sizes) := ⟨rfl, rfl, rfl, by decide +kernel, rfl, by decide +kernel, by decide +kernel⟩
theorem ok_House_sizes (T : Top K mg C) {D : Addr} (M : MetT K D "sizes" "House.sizes" s_House_sizes ["self"]) : MetX P w K mg base 1 D "sizes" (SpOf (R_sizes C)) := by
  obtain ⟨f, fd, F, hc, hm, hb⟩ := M.ex
  refine ⟨f, fd, _, hc, hm, fn_ok F sc_House_sizes (by walk_at "len") (fun cdv A outer s H E hr => ⟨_, (pss_cons (ps_ret (pe_callTy (kc_list (K := K) rfl) (by rfl) T.n_list bt_list (pa_cons (ke_fld (K := K) rfl (pv 0) rfl) pa_nil))) pss_nil), ?_⟩), hb⟩

  rintro es r F σ Q ⟨z, t, rfl, rfl⟩ s k
  simp only [J.cx_K, List.length_cons, List.length_nil, List.cons_append, List.nil_append, Nat.reduceAdd, Nat.reduceSub, List.reduceReplicate, List.append_nil] at s ⊢
  exact q_retO s (eo_cb (by walk_at "args") (kb_list (by walk_at "isr"))) k
def R_check (C : Cs) : Rel := fun es r => ∃ z t x, es = [.v (houseS C z t), .v (stS x)] ∧ (StOk z x ∧ z.length ≤ 4) ∧ r = .v nS
/-! ### House_check: slots 0:self 1:state 2:jug -/
abbrev s_House_check : Stmt := inClass (top 34) 2
theorem sc_House_check : FnScope ["self", "state", "jug"] ["self", "state"] (defScope s_House_check) := ⟨rfl, rfl, rfl, by decide +kernel, rfl, by decide +kernel, by decide +kernel⟩
theorem ok_House_check (T : Top K mg C) {D : Addr} (M : MetT K D "check" "House.check" s_House_check ["self", "state"]) : MetX P w K mg base 2 D "check" (SpOf (R_check C)) := by
  obtain ⟨f, fd, F, hc, hm, hb⟩ := M.ex
  refine ⟨f, fd, _, hc, hm, fn_ok F sc_House_check (by walk_at "len") (fun cdv A outer s H E hr => ⟨_, (pss_cons (ps_if (PW.pt (pw_or (pt_not (pt_val (pe_callB (kc_isi (K := K) rfl) (by rfl) T.n_isinstance bt_isinstance (pa_cons (pv 1) (pa_cons (pe_bltn (v := .ty "tuple") (by rfl) T.n_tuple bt_tuple rfl) pa_nil))))) (pw_or1 (pt_cmpR (ko_ne (K := K) rfl hr) (pe_callB (kc_len (K := K) rfl) (by rfl) T.n_len bt_len (pa_cons (pv 1) pa_nil)) (pe_callB (kc_len (K := K) rfl) (by rfl) T.n_len bt_len (pa_cons (ke_fld (K := K) rfl (pv 0) rfl) pa_nil)) (nomark _))))) (pss_cons (ps_raiseX rfl tk_of T.x_BadState (by rfl)) pss_nil) pss_nil) (pss_cons (ps_for (passes_of rfl) rfl (pi_range1 (by rfl) T.n_range (pa_cons (pe_callB (kc_len (K := K) rfl) (by rfl) T.n_len bt_len (pa_cons (pv 1) pa_nil)) pa_nil)) (pg_name (i := 2) sc_House_check.nd rfl (Or.inl rfl)) (pss_cons (ps_if (pt_not (pt_val (pe_cX (ok_within T) hr (by decide) px_of (by rfl) (pa_cons (ke_ix (K := K) rfl hr (pv 1) (pv 2) (fun _ _ => rfl) (fun _ _ => rfl)) (pa_cons pe_int (pa_cons (ke_ix (K := K) rfl hr (ke_fld (K := K) rfl (pv 0) rfl) (pv 2) (fun _ _ => rfl) (fun _ _ => rfl)) pa_nil)))))) (pss_cons (ps_raiseX rfl tk_of T.x_BadState (by rfl)) pss_nil) pss_nil) pss_nil)) pss_nil)), ?_⟩), hb⟩

  rintro es r F σ Q ⟨z, t, x, rfl, ⟨hx, hz⟩, rfl⟩ s k
  simp only [J.cx_K, List.length_cons, List.length_nil, List.cons_append, List.nil_append, Nat.reduceAdd, Nat.reduceSub, List.reduceReplicate, List.append_nil] at s ⊢
  have hl := hx.len
  refine q_whenF s (by walk_at "et") (by simp; omega) fun σ F H s => ?_
  refine q_forR (n := x.length) s (by walk_at "args") rfl (by omega) (fun n d => ∃ e, d = [.v (houseS C z t), .v (stS x), e]) ⟨_, rfl⟩ ?_ ?_
  · rintro n δ' σ F H hn ⟨e, rfl⟩ s
    dsimp only [List.set, J.putS, List.nil_append, List.cons_append] at s
    have h1 : x[n]? = some (am x n) := am_get hn
    have h2 : z[n]? = some (am z n) := am_get (by omega)
    have h3 := hx.bd n _ _ h1 h2
    refine q_whenF s (et_not (et_B (ev_call (by walk_at "args") ⟨_, _, _, rfl, rfl⟩))) (by simp; omega) fun σ F H s => ?_
    exact q_nx s ⟨_, rfl⟩
  · rintro δ' σ F H ⟨e, rfl⟩ s
    exact k .non F H s.g rfl

end
end Jug


namespace Jug
open PySem PySem.Spec L2 PyProof.Rows J
section
variable {P : Program} {w : World} {K : PySem.W.Frag} {mg : Str → Option Value} {base : Heap} {C : Cs}
/-! ### all moves, all states -/
def poursOf (n i : Nat) : List Mv := ((List.range n).filter fun j : Nat => !decide ((j : Int) = (i : Int))).map fun j : Nat => Mv.pour i j
def pours (n : Nat) : List Mv := (List.range n).flatMap (poursOf n)
def allMoves (n : Nat) (t : Bool) : List Mv := pours n ++ (if t = true then (List.range n).map Mv.fill ++ (List.range n).map Mv.empty else [])
theorem poursOf_len (n i : Nat) : (poursOf n i).length ≤ n := by
  unfold poursOf
  rw [List.length_map]
  have h := List.length_filter_le (fun j : Nat => !decide ((j : Int) = (i : Int))) (List.range n)
  rw [List.length_range] at h
  exact h
theorem flat_len {α : Type} {f : Nat → List α} {m : Nat} (h : ∀ i, (f i).length ≤ m) : ∀ l : List Nat, (l.flatMap f).length ≤ l.length * m
  | [] => by simp
  | a :: l => by
    rw [List.flatMap_cons, List.length_append, List.length_cons, Nat.succ_mul]
    have := flat_len h l
    have := h a
    omega
theorem flat_succ {α : Type} (f : Nat → List α) (i : Nat) : (List.range (i + 1)).flatMap f = (List.range i).flatMap f ++ f i := by
  rw [List.range_succ, List.flatMap_append]
  simp

def R_moves (C : Cs) : Rel := fun es r => ∃ z t, es = [.v (houseS C z t)] ∧ (z.length ≤ 4) ∧ r = .o (lstO ((allMoves z.length t).map (moveS C)))
/-! ### House_moves: slots 0:self 1:jugs 2:found 3:one 4:other 5:jug -/
abbrev s_House_moves : Stmt := inClass (top 34) 3
theorem sc_House_moves : FnScope ["self", "jugs", "found", "one", "other", "jug"] ["self"] (defScope s_House_moves) := ⟨rfl, rfl, rfl, by decide +kernel, rfl, by decide +kernel, by decide +kernel⟩
theorem ok_House_moves (T : Top K mg C) {D : Addr} (M : MetT K D "moves" "House.moves" s_House_moves ["self"]) : MetX P w K mg base 5 D "moves" (SpOf (R_moves C)) := by
  obtain ⟨f, fd, F, hc, hm, hb⟩ := M.ex
  refine ⟨f, fd, _, hc, hm, fn_ok F sc_House_moves (by walk_at "len") (fun cdv A outer s H E hr => ⟨_, (pss_cons (ps_set (i := 1) sc_House_moves.nd rfl (Or.inl rfl) (pe_listRg rfl (by rfl) T.n_list (prg_1 (by rfl) T.n_range (pe_callB (kc_len (K := K) rfl) (by rfl) T.n_len bt_len (pa_cons (ke_fld (K := K) rfl (pv 0) rfl) pa_nil))))) (pss_cons (ps_set (i := 2) sc_House_moves.nd rfl (Or.inl rfl) (pe_lst pa_nil)) (pss_cons (ps_for (passes_of rfl) rfl (ki_any (K := K) rfl (pv 1)) (pg_name (i := 3) sc_House_moves.nd rfl (Or.inr rfl)) (pss_cons (ps_expr (pe_bm PySem.F.plainAttrs_list PySem.F.slot_list_extend PySem.F.type_list_extend mt_extend (pv 2) (pa_cons (pe_lc (own := [("other", 4)]) (g := gName 4) rfl sc_House_moves.nd (ki_any (K := K) rfl (pv 1)) (blkOk_by (N := ["self", "jugs", "found", "one", "other", "jug"]) (sc := defScope s_House_moves) (by decide +kernel)) (fun _ _ _ _ _ => pg_name (i := 4) sc_House_moves.nd rfl (Or.inl rfl)) (fun _ _ _ _ _ => (pts_one (pt_cmpR (ko_ne (K := K) rfl hr) (pv 4) (pv 3) (nomark _)))) (fun _ _ _ _ _ => (pe_mkX (ok_Pour___init__ T) hr (by decide) passL (by rfl) (pa_cons (pv 3) (pa_cons (pv 4) pa_nil))))) pa_nil))) pss_nil)) (pss_cons (ps_if (pt_val (ke_fld (K := K) rfl (pv 0) rfl)) (pss_cons (ps_expr (pe_bm PySem.F.plainAttrs_list PySem.F.slot_list_extend PySem.F.type_list_extend mt_extend (pv 2) (pa_cons (pe_lc (own := [("jug", 5)]) (g := gName 5) rfl sc_House_moves.nd (ki_any (K := K) rfl (pv 1)) (blkOk_by (N := ["self", "jugs", "found", "one", "other", "jug"]) (sc := defScope s_House_moves) (by decide +kernel)) (fun _ _ _ _ _ => pg_name (i := 5) sc_House_moves.nd rfl (Or.inl rfl)) (fun _ _ _ _ _ => pts_nil) (fun _ _ _ _ _ => (pe_mkX (ok_Fill___init__ T) hr (by decide) passL (by rfl) (pa_cons (pv 5) pa_nil)))) pa_nil))) (pss_cons (ps_expr (pe_bm PySem.F.plainAttrs_list PySem.F.slot_list_extend PySem.F.type_list_extend mt_extend (pv 2) (pa_cons (pe_lc (own := [("jug", 5)]) (g := gName 5) rfl sc_House_moves.nd (ki_any (K := K) rfl (pv 1)) (blkOk_by (N := ["self", "jugs", "found", "one", "other", "jug"]) (sc := defScope s_House_moves) (by decide +kernel)) (fun _ _ _ _ _ => pg_name (i := 5) sc_House_moves.nd rfl (Or.inl rfl)) (fun _ _ _ _ _ => pts_nil) (fun _ _ _ _ _ => (pe_mkX (ok_Empty___init__ T) hr (by decide) passL (by rfl) (pa_cons (pv 5) pa_nil)))) pa_nil))) pss_nil)) pss_nil) (pss_cons (ps_ret (pv 2)) pss_nil))))), ?_⟩), hb⟩

  rintro es r F σ Q ⟨z, t, rfl, hz, rfl⟩ s k
  simp only [J.cx_K, List.length_cons, List.length_nil, List.cons_append, List.nil_append, Nat.reduceAdd, Nat.reduceSub, List.reduceReplicate, List.append_nil] at s ⊢
  refine q_setO s (eo_listRg (n := z.length) (by walk_at "ev") rfl (by omega)) fun σ F H s => ?_
  dsimp only [List.set, J.putS, List.nil_append, List.cons_append] at s
  refine q_setO s (eo_lstN ea_nilV (Nat.le_of_ble_eq_true rfl)) fun σ F H s => ?_
  dsimp only [List.set, J.putS, List.nil_append, List.cons_append] at s
  refine q_freeze s 1 rfl fun F s => ?_
  dsimp only [List.set, J.putS, List.nil_append, List.cons_append] at s
  refine q_forL s (ev_v rfl) (fun n d => ∃ e, d = [.v (houseS C z t), .v (lstS ((List.range z.length).map fun k : Nat => iS (k : Int))), .ow (lstO (((List.range n).flatMap (poursOf z.length)).map (moveS C))), e, .un, .un]) ⟨_, rfl⟩ ?_ ?_
  · rintro F1 bs n T' δ' σ F H hT ⟨e, rfl⟩ s
    obtain ⟨hn, rfl⟩ : n < z.length ∧ T' = iS (n : Int) := by
      have hn : n < ((List.range z.length).map fun k : Nat => iS (k : Int)).length := (List.getElem?_eq_some_iff.mp hT).1
      rw [List.length_map, List.length_range] at hn
      rw [List.getElem?_map, List.getElem?_range hn] at hT
      exact ⟨hn, (Option.some.inj hT).symm⟩
    dsimp only [List.set, J.putS, List.nil_append, List.cons_append] at s
    have hl : ((List.range n).flatMap (poursOf z.length)).length ≤ 16 := by
      have h1 := flat_len (poursOf_len z.length) (List.range n)
      rw [List.length_range] at h1
      have h2 : n * z.length ≤ 4 * 4 := Nat.mul_le_mul (by omega) hz
      omega
    have hp := poursOf_len z.length n
    have hj : ∀ j ∈ List.range z.length, (!decide ((j : Int) = (n : Int))) = true → n ≤ 3 ∧ j ≤ 3 ∧ n ≠ j := fun j hj hne => by
      have := List.mem_range.mp hj
      refine ⟨by omega, by omega, ?_⟩
      rintro rfl
      simp at hne
    have hl2 : (((List.range n).flatMap (poursOf z.length)).map (moveS C)).length + (((List.range z.length).filter fun j : Nat => !decide ((j : Int) = (n : Int))).map fun j : Nat => moveS C (.pour n j)).length ≤ 100000 := by
      rw [List.length_map, List.length_map]
      have e1 : (List.filter (fun j : Nat => !decide ((j : Int) = (n : Int))) (List.range z.length)).length = (poursOf z.length n).length := by unfold poursOf; rw [List.length_map]
      omega
    refine q_ext s rfl (eo_lcL (fun k : Nat => iS (k : Int)) (List.range z.length) (fun j : Nat => !decide ((j : Int) = (n : Int))) (fun j : Nat => moveS C (.pour n j)) (by walk_at "ev") (by walk_at "isr") (by rw [List.length_range]; omega)
      (fun j _ => by walk_at "et") (fun j hm hne => ev_make (by walk_at "args") ⟨n, j, rfl, hj j hm hne, rfl⟩)).b isR_b hl2 fun σ F H s => ?_
    dsimp only [List.set, J.putS, List.nil_append, List.cons_append] at s
    refine q_nx s ⟨.v (iS (n : Int)), ?_⟩
    rw [flat_succ, List.map_append]
    conv => rhs; unfold poursOf
    rw [List.map_map]
    rfl
  · rintro δ' σ F H ⟨e, rfl⟩ s
    rw [List.length_map, List.length_range] at s
    have hl : ((List.range z.length).flatMap (poursOf z.length)).length ≤ 16 := by
      have h1 := flat_len (poursOf_len z.length) (List.range z.length)
      rw [List.length_range] at h1
      have h2 : z.length * z.length ≤ 4 * 4 := Nat.mul_le_mul hz hz
      omega
    refine q_when s (by walk_at "et") (fun ht σ F H s => ?_) (fun ht σ F H s => ?_)
    · subst ht
      refine q_ext s rfl (eo_lcM (fun k : Nat => iS (k : Int)) (List.range z.length) (fun j : Nat => moveS C (.fill j)) (by walk_at "ev") (by walk_at "isr") (by rw [List.length_range]; omega)
        (fun j hj => ev_make (by walk_at "args") ⟨j, rfl, by have := List.mem_range.mp hj; omega, rfl⟩)).b isR_b (by simp only [List.length_map, List.length_range, List.length_append]; omega) fun σ F H s => ?_
      dsimp only [List.set, J.putS, List.nil_append, List.cons_append] at s
      refine q_ext s rfl (eo_lcM (fun k : Nat => iS (k : Int)) (List.range z.length) (fun j : Nat => moveS C (.empty j)) (by walk_at "ev") (by walk_at "isr") (by rw [List.length_range]; omega)
        (fun j hj => ev_make (by walk_at "args") ⟨j, rfl, by have := List.mem_range.mp hj; omega, rfl⟩)).b isR_b (by simp only [List.length_map, List.length_range, List.length_append]; omega) fun σ F H s => ?_
      dsimp only [List.set, J.putS, List.nil_append, List.cons_append] at s
      refine q_thru ?_
      refine q_retOw s rfl fun p ho F' H' g h0 hf hp hq => k p ho F' H' g h0 hf hp ?_
      unfold allMoves pours
      rw [if_pos rfl, List.map_append, List.map_append, List.map_map, List.map_map, ← List.append_assoc]
      exact hq
    · subst ht
      refine q_retOw s rfl fun p ho F' H' g h0 hf hp hq => k p ho F' H' g h0 hf hp ?_
      unfold allMoves pours
      rw [if_neg Bool.false_ne_true, List.append_nil]
      exact hq

def nextStates (acc : List (List Int)) (size : Int) : List (List Int) := acc.flatMap fun st => (List.range (size + 1).toNat).map fun m : Nat => st ++ [(m : Int)]
def statesTo (z : List Int) (n : Nat) : List (List Int) := (z.take n).foldl nextStates [[]]
def statesOf (z : List Int) : List (List Int) := statesTo z z.length
theorem statesTo_succ {z : List Int} {n : Nat} {a : Int} (h : z[n]? = some a) : statesTo z (n + 1) = nextStates (statesTo z n) a := by
  unfold statesTo
  rw [List.take_add_one, h, List.foldl_append]
  rfl
theorem next_len (acc : List (List Int)) {a : Int} (h : 0 ≤ a) : ((nextStates acc a).length : Int) = (acc.length : Int) * (a + 1) := by
  unfold nextStates
  induction acc with
  | nil => simp
  | cons x l ih =>
    rw [List.flatMap_cons, List.length_append, List.length_map, List.length_range, List.length_cons, Int.natCast_add, ih, Int.natCast_add, Int.add_mul]
    omega
theorem statesTo_len {z : List Int} (h : ∀ x ∈ z, 1 ≤ x ∧ x ≤ 60) : ∀ n, n ≤ z.length → ((statesTo z n).length : Int) = prodTo z n
  | 0, _ => by unfold statesTo prodTo; simp
  | n + 1, hn => by
    have hx : z[n]? = some z[n] := List.getElem?_eq_getElem (by omega)
    have hb := h z[n] (List.getElem_mem _)
    rw [statesTo_succ hx, prodTo_succ hx, next_len _ (by omega), statesTo_len h n (by omega)]
theorem prodTo_mono {z : List Int} (h : ∀ x ∈ z, 1 ≤ x ∧ x ≤ 60) {n : Nat} : ∀ k, n + k ≤ z.length → prodTo z n ≤ prodTo z (n + k)
  | 0, _ => Int.le_refl _
  | k + 1, hk => by
    have hx : z[n + k]? = some z[n + k] := List.getElem?_eq_getElem (by omega)
    have hb := h z[n + k] (List.getElem_mem _)
    have ih := prodTo_mono h (n := n) k (by omega)
    have hp := prodTo_pos h (n + k) (by omega)
    rw [show n + (k + 1) = (n + k) + 1 from rfl, prodTo_succ hx]
    have h3 : prodTo z (n + k) * 1 ≤ prodTo z (n + k) * (z[n + k] + 1) := Int.mul_le_mul_of_nonneg_left (by omega) (by omega)
    omega
theorem statesTo_le {z : List Int} (h : HouseOk z) {n : Nat} (hn : n ≤ z.length) : (statesTo z n).length ≤ 2000 := by
  have h1 := statesTo_len h.sz n hn
  have h2 := prodTo_mono h.sz (n := n) (z.length - n) (by omega)
  rw [show n + (z.length - n) = z.length by omega] at h2
  have h3 := h.pr
  omega
theorem next_take {acc : List (List Int)} {a : Int} {n : Nat} {st : List Int} (h : acc[n]? = some st) : nextStates (acc.take (n + 1)) a = nextStates (acc.take n) a ++ (List.range (a + 1).toNat).map fun m : Nat => st ++ [(m : Int)] := by
  unfold nextStates
  rw [List.take_add_one, h, List.flatMap_append]
  simp
theorem next_le (acc : List (List Int)) {a : Int} (n : Nat) : (nextStates (acc.take n) a).length ≤ (nextStates acc a).length := by
  have e : nextStates acc a = nextStates (acc.take n) a ++ nextStates (acc.drop n) a := by
    unfold nextStates
    rw [← List.flatMap_append, List.take_append_drop]
  rw [e, List.length_append]
  omega
/-- each state's length -/
theorem statesTo_wid {z : List Int} : ∀ n, n ≤ z.length → ∀ st ∈ statesTo z n, st.length = n
  | 0, _, st, h => by
    unfold statesTo at h
    simp at h
    rw [h]
    rfl
  | n + 1, hn, st, h => by
    have hx : z[n]? = some z[n] := List.getElem?_eq_getElem (by omega)
    rw [statesTo_succ hx] at h
    unfold nextStates at h
    obtain ⟨x, hx, h⟩ := List.mem_flatMap.mp h
    obtain ⟨m, _, rfl⟩ := List.mem_map.mp h
    rw [List.length_append, statesTo_wid n (by omega) x hx]
    rfl

theorem mem_all {n : Nat} {t : Bool} {m : Mv} (h : m ∈ allMoves n t) : fitsN m t n ∧ inN m n := by
  unfold allMoves at h
  rcases List.mem_append.mp h with h | h
  · unfold pours at h
    obtain ⟨i, hi, h⟩ := List.mem_flatMap.mp h
    unfold poursOf at h
    obtain ⟨j, hj, rfl⟩ := List.mem_map.mp h
    obtain ⟨hj, hne⟩ := List.mem_filter.mp hj
    have hi := List.mem_range.mp hi
    have hj := List.mem_range.mp hj
    have hij : i ≠ j := by
      rintro rfl
      simp at hne
    exact ⟨⟨hi, hj⟩, hi, hj, hij⟩
  · cases t with
    | false => rw [if_neg Bool.false_ne_true] at h; cases h
    | true =>
      rw [if_pos rfl] at h
      rcases List.mem_append.mp h with h | h
      · obtain ⟨j, hj, rfl⟩ := List.mem_map.mp h
        have hj := List.mem_range.mp hj
        exact ⟨⟨rfl, hj⟩, hj⟩
      · obtain ⟨j, hj, rfl⟩ := List.mem_map.mp h
        have hj := List.mem_range.mp hj
        exact ⟨⟨rfl, hj⟩, hj⟩

theorem behind_ok {z x : List Int} {m : Mv} (hz : ∀ a ∈ z, 1 ≤ a ∧ a ≤ 60) (h : StOk z x) (hm : inN m z.length) : StOk z (behind z x m) := by
  rw [stOk_iff] at h ⊢
  obtain ⟨hl, hb⟩ := h
  have pz : ∀ i, i < z.length → 1 ≤ am z i := fun i hi => (hz _ (List.mem_of_getElem? (am_get hi))).1
  cases m with
  | pour i j =>
    obtain ⟨hi, hj, hij⟩ := hm
    refine ⟨by simp [behind, hl], fun k hk => ?_⟩
    show 0 ≤ am ((x.set i _).set j _) k ∧ am ((x.set i _).set j _) k ≤ am z k
    rw [am_set (by rw [List.length_set]; omega), am_set (by omega)]
    have h1 := hb i hi
    have h2 := hb j hj
    have h3 := hb k hk
    split
    · subst_vars; omega
    · split
      · subst_vars; omega
      · exact h3
  | fill i =>
    have hi : i < z.length := hm
    refine ⟨by simp [behind, hl], fun k hk => ?_⟩
    show 0 ≤ am (x.set i _) k ∧ am (x.set i _) k ≤ am z k
    rw [am_set (by omega)]
    have h3 := hb k hk
    have h4 := pz k hk
    split
    · subst_vars; omega
    · exact h3
  | empty i =>
    have hi : i < z.length := hm
    refine ⟨by simp [behind, hl], fun k hk => ?_⟩
    show 0 ≤ am (x.set i _) k ∧ am (x.set i _) k ≤ am z k
    rw [am_set (by omega)]
    have h3 := hb k hk
    have h4 := pz k hk
    split
    · subst_vars; omega
    · exact h3

/-! ### the walk over all states -/
structure Bf where
  L : List (List Int)
  hs : List (List Int × Int)
  ah : List (List Int × List Int × Mv)
def hOf (hs : List (List Int × Int)) (x : List Int) : Int := ((hs.find? fun p => decide (p.1 = x)).map (·.2)).getD 0
def stepB (z here : List Int) (b : Bf) (m : Mv) : Bf := if behind z here m ∈ b.L then b else ⟨b.L ++ [behind z here m], b.hs ++ [(behind z here m, hOf b.hs here + 1)], b.ah ++ [(behind z here m, here, m)]⟩
def run (z : List Int) (ms : List Mv) (b0 : Bf) : Nat → Bf
  | 0 => b0
  | n + 1 => match (run z ms b0 n).L[n]? with
    | some here => ms.foldl (stepB z here) (run z ms b0 n)
    | none => run z ms b0 n
def startB (x : List Int) : Bf := ⟨[x], [(x, 0)], []⟩
def bfs (z : List Int) (t : Bool) (x : List Int) : Bf := run z (allMoves z.length t) (startB x) 2000
structure BOk (z x : List Int) (b : Bf) : Prop where
  nd : b.L.Nodup
  ok : ∀ y ∈ b.L, StOk z y
  hk : b.hs.map (·.1) = b.L
  ak : ∀ p ∈ b.ah, p.1 ∈ b.L
  st : x ∈ b.L
  al : b.ah.length + 1 = b.L.length
theorem BOk.start {z x : List Int} (h : StOk z x) : BOk z x (startB x) := by
  refine ⟨?_, fun y hy => ?_, rfl, fun p hp => ?_, List.mem_cons_self, rfl⟩
  · exact List.nodup_cons.mpr ⟨List.not_mem_nil, List.nodup_nil⟩
  · rw [List.mem_singleton.mp hy]
    exact h
  · cases hp
theorem BOk.step {z x here : List Int} {b : Bf} {m : Mv} (hz : HouseOk z) (h : BOk z x b) (hh : StOk z here) (hm : inN m z.length) : BOk z x (stepB z here b m) := by
  unfold stepB
  split
  · exact h
  · rename_i hn
    refine ⟨?_, fun y hy => ?_, ?_, fun p hp => ?_, List.mem_append_left _ h.st, by
      show (b.ah ++ [_]).length + 1 = (b.L ++ [_]).length
      rw [List.length_append, List.length_append, ← h.al]; rfl⟩
    · show (b.L ++ [behind z here m]).Nodup
      rw [List.nodup_append]
      refine ⟨h.nd, List.nodup_cons.mpr ⟨List.not_mem_nil, List.nodup_nil⟩, fun a ha c hc => ?_⟩
      rw [List.mem_singleton.mp hc]
      rintro rfl
      exact hn ha
    · rcases List.mem_append.mp hy with hy | hy
      · exact h.ok y hy
      · rw [List.mem_singleton.mp hy]
        exact behind_ok hz.sz hh hm
    · show (b.hs ++ [(behind z here m, hOf b.hs here + 1)]).map (fun p : List Int × Int => p.1) = b.L ++ [behind z here m]
      rw [List.map_append, h.hk]
      rfl
    · rcases List.mem_append.mp hp with hp | hp
      · exact List.mem_append_left _ (h.ak p hp)
      · rw [List.mem_singleton.mp hp]
        exact List.mem_append_right _ List.mem_cons_self
theorem BOk.fold {z x here : List Int} (hz : HouseOk z) (hh : StOk z here) : ∀ {ms : List Mv} {b : Bf}, (∀ m ∈ ms, inN m z.length) → BOk z x b → BOk z x (ms.foldl (stepB z here) b)
  | [], b, _, h => h
  | m :: ms, b, hm, h => BOk.fold hz hh (ms := ms) (fun m' h' => hm m' (List.mem_cons_of_mem _ h')) (h.step hz hh (hm m List.mem_cons_self))
theorem BOk.run {z x : List Int} {ms : List Mv} (hz : HouseOk z) (hx : StOk z x) (hm : ∀ m ∈ ms, inN m z.length) : ∀ n, BOk z x (run z ms (startB x) n)
  | 0 => BOk.start hx
  | n + 1 => by
    have ih := BOk.run hz hx hm n
    rw [Jug.run]
    split
    · rename_i here hh
      exact BOk.fold hz (ih.ok here (List.mem_of_getElem? hh)) hm ih
    · exact ih
theorem run_stop {z : List Int} {ms : List Mv} {b0 : Bf} {n : Nat} (h : (run z ms b0 n).L.length ≤ n) : ∀ k, run z ms b0 (n + k) = run z ms b0 n
  | 0 => rfl
  | k + 1 => by
    have ih := run_stop h k
    show run z ms b0 ((n + k) + 1) = _
    rw [run, ih, List.getElem?_eq_none (by omega)]
theorem nodup_len {α : Type} [DecidableEq α] : ∀ {l D : List α}, l.Nodup → (∀ x ∈ l, x ∈ D) → l.length ≤ D.length
  | [], _, _, _ => Nat.zero_le _
  | x :: l, D, hn, hs => by
    obtain ⟨h1, h2⟩ := List.nodup_cons.mp hn
    have hx : x ∈ D := hs x List.mem_cons_self
    have ih := nodup_len (l := l) (D := D.erase x) h2 fun y hy => by
      have hne : y ≠ x := fun e => h1 (e ▸ hy)
      exact (List.mem_erase_of_ne hne).2 (hs y (List.mem_cons_of_mem _ hy))
    have e := List.length_erase_of_mem hx
    have hp : 0 < D.length := List.length_pos_of_mem hx
    rw [List.length_cons]
    omega
theorem mem_states {z y : List Int} (h : StOk z y) : ∀ n, n ≤ z.length → y.take n ∈ statesTo z n
  | 0, _ => by unfold statesTo; simp
  | n + 1, hn => by
    have hl := h.len
    have hz : z[n]? = some (am z n) := am_get (by omega)
    have hy : y[n]? = some (am y n) := am_get (by omega)
    rw [statesTo_succ hz, List.take_add_one, hy]
    unfold nextStates
    have hb := h.bd n _ _ hy hz
    refine List.mem_flatMap.mpr ⟨_, mem_states h n (by omega), List.mem_map.mpr ⟨(am y n).toNat, List.mem_range.mpr (by omega), ?_⟩⟩
    rw [Int.toNat_of_nonneg hb.1]
    rfl
theorem mem_statesOf {z y : List Int} (h : StOk z y) : y ∈ statesOf z := by
  have e := mem_states h z.length (Nat.le_refl _)
  rw [List.take_of_length_le (by rw [h.len]; exact Nat.le_refl _)] at e
  exact e
theorem BOk.len {z x : List Int} {b : Bf} (hz : HouseOk z) (h : BOk z x b) : b.L.length ≤ 2000 :=
  Nat.le_trans (nodup_len h.nd fun y hy => mem_statesOf (h.ok y hy)) (statesTo_le hz (Nat.le_refl _))
theorem hOf_find {hs : List (List Int × Int)} {x : List Int} (h : x ∈ hs.map (·.1)) : ∃ p, hs.find? (fun p => decide (p.1 = x)) = some p ∧ p.2 = hOf hs x := by
  cases e : hs.find? fun p => decide (p.1 = x) with
  | none =>
    obtain ⟨p, hp, e2⟩ := List.mem_map.mp h
    have := List.find?_eq_none.mp e p hp
    exact absurd (decide_eq_true e2) this
  | some p => exact ⟨p, rfl, by unfold hOf; rw [e]; rfl⟩
def hK (b : Bf) : List (List Key × Slot) := b.hs.map fun p => (kx p.1, iS p.2)
def aK (C : Cs) (b : Bf) : List (List Key × Slot) := b.ah.map fun p => (kx p.1, tupS [stS p.2.1, moveS C p.2.2])
theorem hK_keys {z x : List Int} {b : Bf} (h : BOk z x b) : (hK b).map (·.1) = b.L.map kx := by
  unfold hK
  rw [List.map_map, ← h.hk, List.map_map]
  rfl
theorem aK_keys {b : Bf} : (aK C b).map (·.1) = (b.ah.map (·.1)).map kx := by
  unfold aK
  rw [List.map_map, List.map_map]
  rfl
theorem hK_find {hs : List (List Int × Int)} {x : List Int} {p : List Int × Int} (h : hs.find? (fun p => decide (p.1 = x)) = some p) : (hs.map fun p => (kx p.1, iS p.2)).find? (fun q => decide (q.1 = kx x)) = some (kx p.1, iS p.2) := by
  rw [List.find?_map]
  have e : ((fun q : List Key × Slot => decide (q.1 = kx x)) ∘ fun p : List Int × Int => (kx p.1, iS p.2)) = fun p => decide (p.1 = x) := by
    funext p
    exact decide_eq_decide.mpr ⟨fun h => kx_inj h, fun h => congrArg kx h⟩
  rw [e, h]
  rfl
theorem bfs_ok {z x : List Int} {t : Bool} (hz : HouseOk z) (hx : StOk z x) : BOk z x (bfs z t x) := BOk.run hz hx (fun m hm => (mem_all hm).2) 2000
theorem foldl_take {α β : Type} {f : β → α → β} {b : β} {l : List α} {n : Nat} {a : α} (h : l[n]? = some a) : (l.take (n + 1)).foldl f b = f ((l.take n).foldl f b) a := by
  rw [List.take_add_one, h, List.foldl_append]
  rfl
theorem fold_len {z here : List Int} : ∀ (ms : List Mv) (b : Bf), b.L.length ≤ (ms.foldl (stepB z here) b).L.length
  | [], b => Nat.le_refl _
  | m :: ms, b => by
    refine Nat.le_trans ?_ (fold_len ms _)
    unfold stepB
    split
    · exact Nat.le_refl _
    · show b.L.length ≤ (b.L ++ [_]).length
      rw [List.length_append]
      omega

/-! ### heights, the way back -/
structure BH (z : List Int) (ms : List Mv) (x : List Int) (b : Bf) : Prop where
  hb : ∀ y ∈ b.L, 0 ≤ hOf b.hs y ∧ hOf b.hs y < (b.L.length : Int)
  hx : hOf b.hs x = 0
  hp : ∀ p ∈ b.ah, p.2.1 ∈ b.L ∧ hOf b.hs p.1 = hOf b.hs p.2.1 + 1 ∧ p.1 = behind z p.2.1 p.2.2 ∧ p.2.2 ∈ ms
  hk : ∀ y ∈ b.L, y = x ∨ y ∈ b.ah.map (·.1)
  hn : x ∉ b.ah.map (·.1)
theorem BH.start {z x : List Int} {ms : List Mv} : BH z ms x (startB x) := by
  have e : hOf [(x, (0 : Int))] x = 0 := by
    unfold hOf
    rw [List.find?_cons, decide_eq_true rfl]
    rfl
  refine ⟨fun y hy => ?_, e, fun p hp => ?_, fun y hy => .inl (List.mem_singleton.mp hy), fun h => ?_⟩
  · rw [List.mem_singleton.mp hy]
    show 0 ≤ hOf [(x, 0)] x ∧ hOf [(x, 0)] x < 1
    rw [e]
    decide
  · cases hp
  · cases h
theorem hOf_old {hs : List (List Int × Int)} {x y : List Int} {h : Int} (hx : x ∈ hs.map (·.1)) : hOf (hs ++ [(y, h)]) x = hOf hs x := by
  obtain ⟨p, hp, _⟩ := hOf_find hx
  unfold hOf
  rw [List.find?_append, hp]
  rfl
theorem hOf_new {hs : List (List Int × Int)} {y : List Int} {h : Int} (hy : y ∉ hs.map (·.1)) : hOf (hs ++ [(y, h)]) y = h := by
  unfold hOf
  have e : hs.find? (fun p => decide (p.1 = y)) = none := by
    rw [List.find?_eq_none]
    intro p hp c
    exact hy (List.mem_map.mpr ⟨p, hp, of_decide_eq_true c⟩)
  rw [List.find?_append, e, List.find?_cons, decide_eq_true rfl]
  rfl
theorem BH.step {z x here : List Int} {ms : List Mv} {b : Bf} {m : Mv} (o : BOk z x b) (h : BH z ms x b) (hh : here ∈ b.L) (hm : m ∈ ms) : BH z ms x (stepB z here b m) := by
  unfold stepB
  split
  · exact h
  · rename_i hn
    have old : ∀ y ∈ b.L, hOf (b.hs ++ [(behind z here m, hOf b.hs here + 1)]) y = hOf b.hs y := fun y hy => hOf_old (by rw [o.hk]; exact hy)
    have new : hOf (b.hs ++ [(behind z here m, hOf b.hs here + 1)]) (behind z here m) = hOf b.hs here + 1 := hOf_new (by rw [o.hk]; exact hn)
    have hhb := h.hb here hh
    refine ⟨fun y hy => ?_, (old x o.st).trans h.hx, fun p hp => ?_, fun y hy => ?_, fun hc => ?_⟩
    · show 0 ≤ hOf (b.hs ++ [_]) y ∧ hOf (b.hs ++ [_]) y < (((b.L ++ [behind z here m]).length : Nat) : Int)
      rw [List.length_append]
      rcases List.mem_append.mp hy with hy | hy
      · rw [old y hy]
        have := h.hb y hy
        exact ⟨this.1, by have := this.2; simp; omega⟩
      · rw [List.mem_singleton.mp hy, new]
        exact ⟨by omega, by simp; omega⟩
    · rcases List.mem_append.mp hp with hp | hp
      · obtain ⟨h1, h2, h3, h4⟩ := h.hp p hp
        refine ⟨List.mem_append_left _ h1, ?_, h3, h4⟩
        show hOf (b.hs ++ [_]) p.1 = hOf (b.hs ++ [_]) p.2.1 + 1
        rw [old _ h1, old _ (o.ak p hp), h2]
      · rw [List.mem_singleton.mp hp]
        refine ⟨List.mem_append_left _ hh, ?_, rfl, hm⟩
        show hOf (b.hs ++ [_]) (behind z here m) = hOf (b.hs ++ [_]) here + 1
        rw [old _ hh, new]
    · show y = x ∨ y ∈ (b.ah ++ [(behind z here m, here, m)]).map (·.1)
      rw [List.map_append]
      rcases List.mem_append.mp hy with hy | hy
      · exact (h.hk y hy).imp id fun q => List.mem_append_left _ q
      · rw [List.mem_singleton.mp hy]
        exact .inr (List.mem_append_right _ List.mem_cons_self)
    · have hc : x ∈ (b.ah ++ [(behind z here m, here, m)]).map (·.1) := hc
      rw [List.map_append] at hc
      rcases List.mem_append.mp hc with hc | hc
      · exact h.hn hc
      · have e : x = behind z here m := List.mem_singleton.mp hc
        exact hn (e ▸ o.st)
theorem BH.fold {z x here : List Int} {ms0 : List Mv} (hz : HouseOk z) (hh : StOk z here) : ∀ {ms : List Mv} {b : Bf}, (∀ m ∈ ms, inN m z.length ∧ m ∈ ms0) → BOk z x b → here ∈ b.L → BH z ms0 x b → BH z ms0 x (ms.foldl (stepB z here) b)
  | [], b, _, _, _, h => h
  | m :: ms, b, hm, o, hl, h => BH.fold hz hh (ms := ms) (fun m' h' => hm m' (List.mem_cons_of_mem _ h')) (o.step hz hh (hm m List.mem_cons_self).1) (by
      unfold stepB
      split
      · exact hl
      · exact List.mem_append_left _ hl) (h.step o hl (hm m List.mem_cons_self).2)
theorem BH.run {z x : List Int} {ms : List Mv} (hz : HouseOk z) (hx : StOk z x) (hm : ∀ m ∈ ms, inN m z.length) : ∀ n, BH z ms x (run z ms (startB x) n)
  | 0 => BH.start
  | n + 1 => by
    have ih := BH.run hz hx hm n
    have o := BOk.run hz hx hm n
    rw [Jug.run]
    split
    · rename_i here hh
      exact BH.fold hz (o.ok here (List.mem_of_getElem? hh)) (fun m h => ⟨hm m h, h⟩) o (List.mem_of_getElem? hh) ih
    · exact ih
theorem bfs_h {z x : List Int} {t : Bool} (hz : HouseOk z) (hx : StOk z x) : BH z (allMoves z.length t) x (bfs z t x) := BH.run hz hx (fun m hm => (mem_all hm).2) 2000
def way (ah : List (List Int × List Int × Mv)) : Nat → List Int → List Mv
  | 0, _ => []
  | n + 1, y => match ah.find? fun p => decide (p.1 = y) with
    | none => []
    | some p => way ah n p.2.1 ++ [p.2.2]

def R_empty (C : Cs) : Rel := fun es r => ∃ z t, es = [.v (houseS C z t)] ∧ z.length ≤ 4 ∧ r = .v (stS (z.map fun _ => 0))
/-! ### House_empty: slots 0:self 1:size -/
abbrev s_House_empty : Stmt := inClass (top 34) 5
theorem sc_House_empty : FnScope ["self", "size"] ["self"] (defScope s_House_empty) := ⟨rfl, rfl, rfl, by decide +kernel, rfl, by decide +kernel, by decide +kernel⟩
theorem ok_House_empty (T : Top K mg C) {D : Addr} (M : MetT K D "empty" "House.empty" s_House_empty ["self"]) : MetX P w K mg base 1 D "empty" (SpOf (R_empty C)) := by
  obtain ⟨f, fd, F, hc, hm, hb⟩ := M.ex
  refine ⟨f, fd, _, hc, hm, fn_ok F sc_House_empty (by walk_at "len") (fun cdv A outer s H E hr => ⟨_, (pss_cons (ps_ret (pe_callTy (kc_tuple (K := K) rfl) (by rfl) T.n_tuple bt_tuple (pa_cons (pe_lc (own := [("size", 1)]) (g := gName 1) rfl sc_House_empty.nd (ki_any (K := K) rfl (ke_fld (K := K) rfl (pv 0) rfl)) (blkOk_by (N := ["self", "size"]) (sc := defScope s_House_empty) (by decide +kernel)) (fun _ _ _ _ _ => pg_name (i := 1) sc_House_empty.nd rfl (Or.inl rfl)) (fun _ _ _ _ _ => pts_nil) (fun _ _ _ _ _ => pe_int)) pa_nil))) pss_nil), ?_⟩), hb⟩

  rintro es r F σ Q ⟨z, t, rfl, hz, rfl⟩ s k
  simp only [J.cx_K, List.length_cons, List.length_nil, List.cons_append, List.nil_append, Nat.reduceAdd, Nat.reduceSub, List.reduceReplicate, List.append_nil] at s ⊢
  refine q_ret s (EvE.to (ev_cb (ea_cons (EvO.b (eo_lcM iS z (fun _ => iS 0) (by walk_at "ev") (by walk_at "isr") (by omega) (fun _ _ => by walk_at "ev"))) ea_nil) (kb_tuple isR_b)) ?_) k
  unfold stS
  rw [List.map_map]
  rfl

end
end Jug


namespace Jug
open PySem PySem.Spec L2 PyProof.Rows J
section
variable {P : Program} {w : World} {K : PySem.W.Frag} {mg : Str → Option Value} {base : Heap} {C : Cs}
def R_spread (C : Cs) : Rel := fun es r => ∃ z t x, es = [.v (houseS C z t), .v (stS x)] ∧ (HouseOk z ∧ StOk z x) ∧ r = .p (dicO (hK (bfs z t x))) (dicO (aK C (bfs z t x)))
theorem ev_behind {E : XK} {to : TE} {ta : TA} {δ : List Ent} {z x : List Int} {m : Mv} (h : EvE to δ (.v (moveS C m))) (ha : EvAs ta δ [.v (intsS z), .v (stS x)]) (hm : inN m z.length ∧ x.length = z.length ∧ z.length ≤ 4) :
    EvE (fun σ H Q => tMeth C.Pour "behind" (SpOf (R_behindP C)) [] E to ta σ H Q ∨ (fun σ H Q => tMeth C.Fill "behind" (SpOf (R_behindF C)) [] E to ta σ H Q ∨ tMeth C.Empty "behind" (SpOf (R_behindE C)) [] E to ta σ H Q) σ H Q) δ (.v (stS (behind z x m))) := by
  cases m with
  | pour i j => exact ev_orl (ev_meth (fs := pourF i j) h (by walk_at "lk") ha ⟨i, j, z, x, rfl, hm, rfl⟩)
  | fill i => exact ev_orr (ev_orl (ev_meth (fs := jugF i) h (by walk_at "lk") ha ⟨i, z, x, rfl, hm, rfl⟩))
  | empty i => exact ev_orr (ev_orr (ev_meth (fs := jugF i) h (by walk_at "lk") ha ⟨i, z, x, rfl, hm, rfl⟩))
/-! ### spread: slots 0:house 1:state 2:sizes 3:moves 4:heights 5:ahead 6:waiting 7:at 8:here 9:move 10:there -/
abbrev s_spread : Stmt := top 2
theorem sc_spread : FnScope ["house", "state", "sizes", "moves", "heights", "ahead", "waiting", "at", "here", "move", "there"] ["house", "state"] (defScope s_spread) := ⟨rfl, rfl, rfl, by decide +kernel, rfl, by decide +kernel, by decide +kernel⟩
theorem ok_spread (T : Top K mg C) : CalX P w K mg base 6 "spread" (SpOf (R_spread C)) := by
  obtain ⟨f, fd, F, hm, hb⟩ := T.d_spread.ex
  refine ⟨f, fd, _, fn_ok F sc_spread (by walk_at "len") (fun cdv A outer s H E hr => ⟨_, (pss_cons (ps_set (i := 2) sc_spread.nd rfl (Or.inl rfl) (pe_mtX0 (ok_House_sizes T T.m_House_sizes) hr (by decide) px_of (pv 0))) (pss_cons (ps_set (i := 3) sc_spread.nd rfl (Or.inl rfl) (pe_mtX0 (ok_House_moves T T.m_House_moves) hr (by decide) px_of (pv 0))) (pss_cons (ps_set (i := 4) sc_spread.nd rfl (Or.inl rfl) (pe_disp1 hr (pv 1) pe_int)) (pss_cons (ps_set (i := 5) sc_spread.nd rfl (Or.inl rfl) pe_dnewT) (pss_cons (ps_set (i := 6) sc_spread.nd rfl (Or.inl rfl) (pe_lst (pa_cons (pv 1) pa_nil))) (pss_cons (ps_set (i := 7) sc_spread.nd rfl (Or.inl rfl) pe_int) (pss_cons (ps_while (passes_of rfl) (pt_cmpR op_lt (pv 7) (pe_callB (kc_len (K := K) rfl) (by rfl) T.n_len bt_len (pa_cons (pv 6) pa_nil)) (nomark _)) (pss_cons (ps_set (i := 8) sc_spread.nd rfl (Or.inl rfl) (ke_ix (K := K) rfl hr (pv 6) (pv 7) (fun _ _ => rfl) (fun _ _ => rfl))) (pss_cons (ps_for (passes_of rfl) rfl (ki_any (K := K) rfl (pv 3)) (pg_name (i := 9) sc_spread.nd rfl (Or.inl rfl)) (pss_cons (ps_set (i := 10) sc_spread.nd rfl (Or.inl rfl) (pe_or2 (pe_mtX (ok_Pour_behind T T.m_Pour_behind) hr (by decide) px_of (pv 9) (pa_cons (pv 2) (pa_cons (pv 8) pa_nil))) (pe_or2 (pe_mtX (ok_Fill_behind T T.m_Fill_behind) hr (by decide) px_of (pv 9) (pa_cons (pv 2) (pa_cons (pv 8) pa_nil))) (pe_mtX (ok_Empty_behind T T.m_Empty_behind) hr (by decide) px_of (pv 9) (pa_cons (pv 2) (pa_cons (pv 8) pa_nil)))))) (pss_cons (ps_if (kt_ni (K := K) rfl hr (pv 10) (pv 4) (by rfl)) (pss_cons (ps_dput (hu_of hr) (pv 4) (pv 10) (pe_op (ko_add (K := K) rfl) (ke_ix (K := K) rfl hr (pv 4) (pv 8) (fun _ _ => rfl) (fun _ _ => rfl)) pe_int) rfl) (pss_cons (ps_dput (hu_of hr) (pv 5) (pv 10) (pe_tup (pa_cons (pv 8) (pa_cons (pv 9) pa_nil))) rfl) (pss_cons (ps_expr (pe_bm PySem.F.plainAttrs_list PySem.F.slot_list_append PySem.F.type_list_append mt_append (pv 6) (pa_cons (pv 10) pa_nil))) pss_nil))) pss_nil) pss_nil))) (pss_cons (ps_aug (i := 7) sc_spread.nd rfl (Or.inl rfl) pe_int ip_add) pss_nil)))) (pss_cons (ps_ret (pe_tup (pa_cons (pv 4) (pa_cons (pv 5) pa_nil)))) pss_nil)))))))), ?_⟩), hm, F.kp, hb⟩

  rintro es r F σ Q ⟨z, t, x, rfl, ⟨hz, hx⟩, rfl⟩ s k
  simp only [J.cx_K, List.length_cons, List.length_nil, List.cons_append, List.nil_append, Nat.reduceAdd, Nat.reduceSub, List.reduceReplicate, List.append_nil] at s ⊢
  have hz4 := hz.l4
  have hmv : ∀ m ∈ allMoves z.length t, inN m z.length := fun m hm => (mem_all hm).2
  refine q_setO s (eo_meth (ev_v rfl) (by walk_at "lk") ea_nil ⟨z, t, rfl, rfl⟩) fun σ F H s => ?_
  dsimp only [List.set, J.putS, List.nil_append, List.cons_append] at s
  refine q_setO s (eo_meth (ev_v rfl) (by walk_at "lk") ea_nil ⟨z, t, rfl, hz4, rfl⟩) fun σ F H s => ?_
  dsimp only [List.set, J.putS, List.nil_append, List.cons_append] at s
  refine q_freeze s 2 rfl fun F s => ?_
  dsimp only [List.set, J.putS, List.nil_append, List.cons_append] at s
  refine q_freeze s 3 rfl fun F s => ?_
  dsimp only [List.set, J.putS, List.nil_append, List.cons_append] at s
  refine q_setO s (eo_disp1 (S := iS 0) (ev_v rfl) ev_c) fun σ F H s => ?_
  dsimp only [List.set, J.putS, List.nil_append, List.cons_append] at s
  refine q_setO s eo_newT fun σ F H s => ?_
  dsimp only [List.set, J.putS, List.nil_append, List.cons_append] at s
  refine q_setO s (o := lstO ([x].map stS)) (eo_lstN (ea_consV (ev_v rfl) ea_nilV) (Nat.le_of_ble_eq_true rfl)) fun σ F H s => ?_
  dsimp only [List.set, J.putS, List.nil_append, List.cons_append] at s
  refine q_set s (S := iS 0) ev_c fun σ F H s => ?_
  dsimp only [List.set, J.putS, List.nil_append, List.cons_append] at s
  have hok := BOk.run hz hx hmv
  refine q_while s (fun m' d => ∃ (n : Nat) (e8 e9 e10 : Ent), m' = 2000 - n ∧ n ≤ (run z (allMoves z.length t) (startB x) n).L.length ∧ d = [.v (houseS C z t), .v (stS x), .v (intsS z), .v (lstS ((allMoves z.length t).map (moveS C))), .ow (dicO (hK (run z (allMoves z.length t) (startB x) n))), .ow (dicO (aK C (run z (allMoves z.length t) (startB x) n))), .ow (lstO ((run z (allMoves z.length t) (startB x) n).L.map stS)), .v (iS (n : Int)), e8, e9, e10]) 2000 ⟨0, .un, .un, .un, rfl, Nat.zero_le _, rfl⟩ ?_
  rintro m' δ' σ F H ⟨n, e8, e9, e10, rfl, hn, rfl⟩ s
  have hl := (hok n).len hz
  refine ⟨decide ((n : Int) < ((run z (allMoves z.length t) (startB x) n).L.length : Int)), by walk_at "et", fun hb σ F H s => ?_, fun hb σ F H s => ?_⟩
  · have hb : n < (run z (allMoves z.length t) (startB x) n).L.length := by have := of_decide_eq_true hb; omega
    obtain ⟨here, hh⟩ : ∃ here, (run z (allMoves z.length t) (startB x) n).L[n]? = some here := ⟨_, List.getElem?_eq_getElem hb⟩
    have hhere := (hok n).ok here (List.mem_of_getElem? hh)
    have hhl := hhere.len
    have hrun : run z (allMoves z.length t) (startB x) (n + 1) = (allMoves z.length t).foldl (stepB z here) (run z (allMoves z.length t) (startB x) n) := by
      rw [run, hh]
    have hb1 := (hok (n + 1))
    have hmem : here ∈ (run z (allMoves z.length t) (startB x) n).L := List.mem_of_getElem? hh
    generalize hB : run z (allMoves z.length t) (startB x) n = B at s hh hl hrun hmem
    have hBok : BOk z x B := by rw [← hB]; exact hok n
    refine q_set s (S := stS here) (ev_ix (ev_ow rfl) (ev_v rfl) (jx_l isR_b (by omega) hh)) fun σ F H s => ?_
    dsimp only [List.set, J.putS, List.nil_append, List.cons_append] at s
    refine q_forL s (ev_v rfl) (fun j d => ∃ (e9 e10 : Ent), d = [.v (houseS C z t), .v (stS x), .v (intsS z), .v (lstS ((allMoves z.length t).map (moveS C))), .ow (dicO (hK (((allMoves z.length t).take j).foldl (stepB z here) B))), .ow (dicO (aK C (((allMoves z.length t).take j).foldl (stepB z here) B))), .ow (lstO ((((allMoves z.length t).take j).foldl (stepB z here) B).L.map stS)), .v (iS (n : Int)), .v (stS here), e9, e10]) ⟨_, _, rfl⟩ ?_ ?_
    · rintro F1 bs j T' δ' σ F H hT ⟨e9, e10, rfl⟩ s
      obtain ⟨m, hm, rfl⟩ := mapGet hT
      have hmn := hmv m (List.mem_of_getElem? hm)
      have hG : BOk z x (((allMoves z.length t).take j).foldl (stepB z here) B) := BOk.fold hz hhere (fun m h => hmv m (List.mem_of_mem_take h)) hBok
      have hmem2 : here ∈ (((allMoves z.length t).take j).foldl (stepB z here) B).L := by
        have : ∀ (ms : List Mv) (b : Bf), here ∈ b.L → here ∈ (ms.foldl (stepB z here) b).L := by
          intro ms
          induction ms with
          | nil => intro b h; exact h
          | cons m ms ih =>
            intro b h
            refine ih _ ?_
            unfold stepB
            split
            · exact h
            · exact List.mem_append_left _ h
        exact this _ _ hmem
      have hnx := foldl_take (f := stepB z here) (b := B) hm
      generalize ((allMoves z.length t).take j).foldl (stepB z here) B = G at s hG hmem2 hnx
      have hGl := hG.len hz
      have hkk := hK_keys hG
      dsimp only [List.set, J.putS, List.nil_append, List.cons_append] at s
      refine q_set s (S := stS (behind z here m)) (ev_behind (ev_v rfl) (by walk_at "args") ⟨hmn, hhl, hz4⟩) fun σ F H s => ?_
      dsimp only [List.set, J.putS, List.nil_append, List.cons_append] at s
      refine q_when s (et_B (ev_niDT (ev_v rfl) (ev_ow rfl) isR_b hkk)) (fun hb σ F H s => ?_) (fun hb σ F H s => ?_)
      · have hnot : behind z here m ∉ G.L := by simpa using hb
        have hst : stepB z here G m = ⟨G.L ++ [behind z here m], G.hs ++ [(behind z here m, hOf G.hs here + 1)], G.ah ++ [(behind z here m, here, m)]⟩ := by unfold stepB; rw [if_neg hnot]
        obtain ⟨pr, hp1, hp2⟩ := hOf_find (hs := G.hs) (x := here) (by rw [hG.hk]; exact hmem2)
        refine q_dput s rfl hkk hnot (by omega) (ev_op (ev_dget (ev_ow rfl) isR_b (ev_v rfl) (hK_find hp1)) ev_c jv_add) (ev_v rfl) fun σ F H s => ?_
        dsimp only [List.set, J.putS, List.nil_append, List.cons_append] at s
        have hnot2 : behind z here m ∉ G.ah.map (·.1) := fun h => by
          obtain ⟨p, hp, e⟩ := List.mem_map.mp h
          exact hnot (by rw [← e]; exact hG.ak p hp)
        have hal : (G.ah.map (·.1)).length < 100000 := by
          rw [List.length_map]
          have := hG.al
          omega
        refine q_dput s rfl aK_keys hnot2 hal (S := tupS [stS here, moveS C m]) (ev_tupN (ea_consV (ev_v rfl) (ea_consV (ev_v rfl) ea_nilV)) (Nat.le_of_ble_eq_true rfl)) (ev_v rfl) fun σ F H s => ?_
        dsimp only [List.set, J.putS, List.nil_append, List.cons_append] at s
        refine q_app s rfl (S := stS (behind z here m)) (ev_v rfl) (by rw [List.length_map]; omega) fun σ F H s => ?_
        dsimp only [List.set, J.putS, List.nil_append, List.cons_append] at s
        refine q_nx s ⟨.v (moveS C m), .v (stS (behind z here m)), ?_⟩
        rw [hnx, hst, hp2]
        unfold hK aK
        rw [List.map_append, List.map_append, List.map_append]
        rfl
      · have hin : behind z here m ∈ G.L := by simpa using hb
        have hst : stepB z here G m = G := by unfold stepB; rw [if_pos hin]
        refine q_nx s ⟨.v (moveS C m), .v (stS (behind z here m)), ?_⟩
        rw [hnx, hst]
    · rintro δ' σ F H ⟨e9, e10, rfl⟩ s
      rw [List.length_map, List.take_length, ← hrun] at s
      refine q_aug (i := 7) (a := (n : Int)) (b := 1) s rfl ev_c fun σ F H s => ?_
      dsimp only [List.set, J.putS, List.nil_append, List.cons_append] at s
      have h1 := fold_len (z := z) (here := here) (allMoves z.length t) B
      have hb2 : n < B.L.length := by
        rw [← hB]
        exact hb
      have h3 : n + 1 ≤ (run z (allMoves z.length t) (startB x) (n + 1)).L.length := by
        rw [hrun]
        omega
      exact q_nx s ⟨2000 - (n + 1), by omega, n + 1, .v (stS here), e9, e10, rfl, h3, rfl⟩
  · have hb : ¬ n < (run z (allMoves z.length t) (startB x) n).L.length := by have := of_decide_eq_false hb; omega
    have he : bfs z t x = run z (allMoves z.length t) (startB x) n := by
      unfold bfs
      have := run_stop (z := z) (ms := allMoves z.length t) (b0 := startB x) (n := n) (by omega) (2000 - n)
      rw [show n + (2000 - n) = 2000 by omega] at this
      exact this
    rw [← he] at s
    exact q_retP s rfl rfl (by decide) k

theorem bfs_T {z x : List Int} {t : Bool} (hz : HouseOk z) (hx : StOk z x) : ∀ y ∈ (bfs z t x).L, TOk z.length y := by
  intro y hy
  have h := (bfs_ok (t := t) hz hx).ok y hy
  refine ⟨h.len, fun m hm => ?_⟩
  obtain ⟨i, hi⟩ := List.mem_iff_getElem?.mp hm
  have hil := (List.getElem?_eq_some_iff.mp hi).1
  have hl := h.len
  have h1 := h.bd i m _ hi (am_get (by omega))
  have h2 := hz.sz _ (List.mem_of_getElem? (am_get (x := z) (i := i) (by omega)))
  omega
def R_reached (C : Cs) : Rel := fun es r => ∃ z t x, es = [.v (houseS C z t), .v (stS x)] ∧ (HouseOk z ∧ StOk z x) ∧ r = .o (lstO ((sortT (bfs z t x).L).map stS))
/-! ### reached: slots 0:house 1:state -/
abbrev s_reached : Stmt := top 3
theorem sc_reached : FnScope ["house", "state"] ["house", "state"] (defScope s_reached) := ⟨rfl, rfl, rfl, by decide +kernel, rfl, by decide +kernel, by decide +kernel⟩
theorem ok_reached (T : Top K mg C) : CalX P w K mg base 7 "reached" (SpOf (R_reached C)) := by
  obtain ⟨f, fd, F, hm, hb⟩ := T.d_reached.ex
  refine ⟨f, fd, _, fn_ok F sc_reached (by walk_at "len") (fun cdv A outer s H E hr => ⟨_, (pss_cons (ps_expr (pe_mtX (ok_House_check T T.m_House_check) hr (by decide) px_of (pv 0) (pa_cons (pv 1) pa_nil))) (pss_cons (ps_ret (pe_callB (kc_sorted (K := K) rfl rfl) (by rfl) T.n_sorted bt_sorted (pa_cons (ke_ix (K := K) rfl hr (pe_cX (ok_spread T) hr (by decide) px_of (by rfl) (pa_cons (pv 0) (pa_cons (pv 1) pa_nil))) pe_int (fun _ _ => rfl) (fun _ _ => rfl)) pa_nil))) pss_nil)), ?_⟩), hm, F.kp, hb⟩

  rintro es r F σ Q ⟨z, t, x, rfl, ⟨hz, hx⟩, rfl⟩ s k
  simp only [J.cx_K, List.length_cons, List.length_nil, List.cons_append, List.nil_append, Nat.reduceAdd, Nat.reduceSub, List.reduceReplicate, List.append_nil] at s ⊢
  refine q_drop s (ev_meth (by walk_at "ev") (by walk_at "lk") (by walk_at "args") ⟨z, t, x, rfl, ⟨hx, hz.l4⟩, rfl⟩) fun σ F H s => ?_
  exact q_retO s (eo_sortKT (ev_ixP0 (ep_call (by walk_at "args") ⟨z, t, x, rfl, ⟨hz, hx⟩, rfl⟩) ev_c) isR_b (hK_keys (bfs_ok hz hx)) hz.l1 (bfs_T hz hx)) k
structure KsOk (ks : List Int) : Prop where
  nd : ks.Nodup
  bd : ∀ k ∈ ks, 0 ≤ k ∧ k ≤ 60
theorem KsOk.len {ks : List Int} (h : KsOk ks) : ks.length < 64 := by
  have e := nodup_len (D := (List.range 61).map fun k : Nat => (k : Int)) h.nd fun k hk => List.mem_map.mpr ⟨k.toNat, List.mem_range.mpr (by have := h.bd k hk; omega), by have := h.bd k hk; omega⟩
  rw [List.length_map, List.length_range] at e
  omega
theorem KsOk.add {ks : List Int} {n : Int} (h : KsOk ks) (hn : 0 ≤ n ∧ n ≤ 60) : KsOk (addI ks n) := by
  unfold addI
  split
  · exact h
  · rename_i hk
    refine ⟨?_, fun k hm => ?_⟩
    · rw [List.nodup_append]
      refine ⟨h.nd, List.nodup_cons.mpr ⟨List.not_mem_nil, List.nodup_nil⟩, fun a ha c hc => ?_⟩
      rw [List.mem_singleton.mp hc]
      rintro rfl
      exact hk ha
    · rcases List.mem_append.mp hm with hm | hm
      · exact h.bd k hm
      · rw [List.mem_singleton.mp hm]
        exact hn
theorem KsOk.foldA {y : List Int} (hy : ∀ a ∈ y, 0 ≤ a ∧ a ≤ 60) : ∀ {ks : List Int}, KsOk ks → KsOk (y.foldl addI ks) := by
  induction y with
  | nil => intro ks h; exact h
  | cons a l ih => intro ks h; exact ih (fun b hb => hy b (List.mem_cons_of_mem _ hb)) (h.add (hy a List.mem_cons_self))
def amounts (L : List (List Int)) : List Int := L.foldl (fun ks y => y.foldl addI ks) []
theorem KsOk.all : ∀ {L : List (List Int)} {ks : List Int}, (∀ y ∈ L, ∀ a ∈ y, 0 ≤ a ∧ a ≤ 60) → KsOk ks → KsOk (L.foldl (fun ks y => y.foldl addI ks) ks) := by
  intro L
  induction L with
  | nil => intro ks _ h; exact h
  | cons y L ih => intro ks hy h; exact ih (fun z hz => hy z (List.mem_cons_of_mem _ hz)) (KsOk.foldA (hy y List.mem_cons_self) h)
theorem KsOk.nil : KsOk [] := ⟨List.nodup_nil, fun k h => by cases h⟩
theorem st_bd {z y : List Int} (hz : HouseOk z) (h : StOk z y) : ∀ a ∈ y, 0 ≤ a ∧ a ≤ 60 := by
  intro m hm
  obtain ⟨i, hi⟩ := List.mem_iff_getElem?.mp hm
  have hil := (List.getElem?_eq_some_iff.mp hi).1
  have hl := h.len
  have h1 := h.bd i m _ hi (am_get (by omega))
  have h2 := hz.sz _ (List.mem_of_getElem? (am_get (x := z) (i := i) (by omega)))
  omega
theorem sort_ok {z x : List Int} {t : Bool} (hz : HouseOk z) (hx : StOk z x) : ∀ y ∈ sortT (bfs z t x).L, StOk z y := fun y hy => (bfs_ok (t := t) hz hx).ok y ((sortT_perm _).mem_iff.mp hy)
def R_measured (C : Cs) : Rel := fun es r => ∃ z t x, es = [.v (houseS C z t), .v (stS x)] ∧ (HouseOk z ∧ StOk z x) ∧ r = .o (lstO ((sortI (amounts (sortT (bfs z t x).L))).map iS))
/-! ### measured: slots 0:house 1:state 2:found 3:there 4:many -/
abbrev s_measured : Stmt := top 4
theorem sc_measured : FnScope ["house", "state", "found", "there", "many"] ["house", "state"] (defScope s_measured) := ⟨rfl, rfl, rfl, by decide +kernel, rfl, by decide +kernel, by decide +kernel⟩
theorem ok_measured (T : Top K mg C) : CalX P w K mg base 8 "measured" (SpOf (R_measured C)) := by
  obtain ⟨f, fd, F, hm, hb⟩ := T.d_measured.ex
  refine ⟨f, fd, _, fn_ok F sc_measured (by walk_at "len") (fun cdv A outer s H E hr => ⟨_, (pss_cons (ps_set (i := 2) sc_measured.nd rfl (Or.inl rfl) pe_dnewK) (pss_cons (ps_for (passes_of rfl) rfl (ki_any (K := K) rfl (pe_cX (ok_reached T) hr (by decide) px_of (by rfl) (pa_cons (pv 0) (pa_cons (pv 1) pa_nil)))) (pg_name (i := 3) sc_measured.nd rfl (Or.inl rfl)) (pss_cons (ps_for (passes_of rfl) rfl (ki_any (K := K) rfl (pv 3)) (pg_name (i := 4) sc_measured.nd rfl (Or.inl rfl)) (pss_cons (ps_dput (hu_of hr) (pv 2) (pv 4) pe_bl rfl) pss_nil)) pss_nil)) (pss_cons (ps_ret (pe_callB (kc_sorted (K := K) rfl rfl) (by rfl) T.n_sorted bt_sorted (pa_cons (pv 2) pa_nil))) pss_nil))), ?_⟩), hm, F.kp, hb⟩

  rintro es r F σ Q ⟨z, t, x, rfl, ⟨hz, hx⟩, rfl⟩ s k
  simp only [J.cx_K, List.length_cons, List.length_nil, List.cons_append, List.nil_append, Nat.reduceAdd, Nat.reduceSub, List.reduceReplicate, List.append_nil] at s ⊢
  have hS := sort_ok (t := t) hz hx
  have hb : ∀ y ∈ sortT (bfs z t x).L, ∀ a ∈ y, 0 ≤ a ∧ a ≤ 60 := fun y hy => st_bd hz (hS y hy)
  refine q_setO s (o := setO []) eo_newK fun σ F H s => ?_
  dsimp only [List.set, J.putS, List.nil_append, List.cons_append] at s
  refine q_forL s (EvO.v (eo_call (by walk_at "args") ⟨z, t, x, rfl, ⟨hz, hx⟩, rfl⟩)) (fun n d => ∃ e3 e4, d = [.v (houseS C z t), .v (stS x), .ow (setO (((sortT (bfs z t x).L).take n).foldl (fun ks y => y.foldl addI ks) [])), e3, e4]) ⟨_, _, rfl⟩ ?_ ?_
  · rintro F1 bs n T' δ' σ F H hT ⟨e3, e4, rfl⟩ s
    obtain ⟨y, hy, rfl⟩ := mapGet hT
    have hyb := hb y (List.mem_of_getElem? hy)
    have hk := KsOk.all (L := (sortT (bfs z t x).L).take n) (fun y h => hb y (List.mem_of_mem_take h)) KsOk.nil
    have hnx := foldl_take (f := fun ks y => y.foldl addI ks) (b := ([] : List Int)) hy
    generalize ((sortT (bfs z t x).L).take n).foldl (fun ks y => y.foldl addI ks) [] = ks at s hk hnx
    dsimp only [List.set, J.putS, List.nil_append, List.cons_append] at s
    refine q_forT s (ev_v rfl) (fun m d => ∃ e4, d = [.v (houseS C z t), .v (stS x), .ow (setO ((y.take m).foldl addI ks)), .v (stS y), e4]) ⟨_, rfl⟩ ?_ ?_
    · rintro F1 bs m T' δ' σ F H hT ⟨e4, rfl⟩ s
      obtain ⟨a, ha, rfl⟩ := mapGet hT
      have hk2 := KsOk.foldA (y := y.take m) (fun b h => hyb b (List.mem_of_mem_take h)) hk
      have hn2 := foldl_take (f := addI) (b := ks) ha
      generalize (y.take m).foldl addI ks = ks2 at s hk2 hn2
      dsimp only [List.set, J.putS, List.nil_append, List.cons_append] at s
      refine q_dputB s rfl (by have := hk2.len; omega) ev_c (ev_v rfl) fun σ F H s => ?_
      dsimp only [List.set, J.putS, List.nil_append, List.cons_append] at s
      exact q_nx s ⟨.v (iS a), by rw [hn2]⟩
    · rintro δ' σ F H ⟨e4, rfl⟩ s
      rw [List.length_map, List.take_length] at s
      exact q_nx s ⟨.v (stS y), e4, by rw [hnx]⟩
  · rintro δ' σ F H ⟨e3, e4, rfl⟩ s
    rw [List.length_map, List.take_length] at s
    have hk := KsOk.all hb KsOk.nil
    exact q_retO s (eo_sortDI (ev_ow rfl) isR_b set_keys hk.len) k

end
end Jug


namespace Jug
open PySem PySem.Spec L2 PyProof.Rows J
section
variable {P : Program} {w : World} {K : PySem.W.Frag} {mg : Str → Option Value} {base : Heap} {C : Cs}
def R_amount : Rel := fun es r => ∃ n : Int, es = [.v (iS n)] ∧ (0 ≤ n ∧ n ≤ 240) ∧ r = .v nS
/-! ### check_amount: slots 0:many -/
abbrev s_check_amount : Stmt := top 22
theorem sc_check_amount : FnScope ["many"] ["many"] (defScope s_check_amount) := ⟨rfl, rfl, rfl, by decide +kernel, rfl, by decide +kernel, by decide +kernel⟩
theorem ok_check_amount (T : Top K mg C) : CalX P w K mg base 2 "check_amount" (SpOf R_amount) := by
  obtain ⟨f, fd, F, hm, hb⟩ := T.d_check_amount.ex
  refine ⟨f, fd, _, fn_ok F sc_check_amount (by walk_at "len") (fun cdv A outer s H E hr => ⟨_, (pss_cons (ps_if (pt_not (pt_val (pe_cX (ok_within T) hr (by decide) px_of (by rfl) (pa_cons (pv 0) (pa_cons pe_int (pa_cons (C8.pe_gc (by rfl) T.g_MOST) pa_nil)))))) (pss_cons (ps_raiseX rfl tk_of T.x_BadGoal (by rfl)) pss_nil) pss_nil) pss_nil), ?_⟩), hm, F.kp, hb⟩

  rintro es r F σ Q ⟨n, rfl, hn, rfl⟩ s k
  simp only [J.cx_K, List.length_cons, List.length_nil, List.cons_append, List.nil_append, Nat.reduceAdd, Nat.reduceSub, List.reduceReplicate, List.append_nil] at s ⊢
  refine q_whenF s (et_not (et_B (ev_call (by walk_at "args") ⟨n, 0, 240, rfl, rfl⟩))) (by simp; omega) fun σ F H s => ?_
  exact k .non F H s.g rfl
def R_Some : RelI := fun es r => ∃ (m : Int), es = [.v (iS m)] ∧ (0 ≤ m ∧ m ≤ 240) ∧ r = .ok (someF m)
/-! ### Some___init__: slots 0:self 1:many -/
abbrev s_Some___init__ : Stmt := inClass (top 24) 0
theorem sc_Some___init__ : FnScope ["self", "many"] ["self", "many"] (defScope s_Some___init__) := ⟨rfl, rfl, rfl, by decide +kernel, rfl, by decide +kernel, by decide +kernel⟩
theorem ok_Some___init__ (T : Top K mg C) : MakX P w K mg base 3 "Some" C.Some (SpInit C.Some R_Some) := by
  obtain ⟨f, fd, F, hk, hm, hb⟩ := T.i_Some.ex
  refine ⟨f, fd, _, hk, init_ok F sc_Some___init__ (by walk_at "len") (fun cdv A outer s H E hr => ⟨_, (pss_cons (ps_expr (pe_cX (ok_check_amount T) hr (by decide) px_of (by rfl) (pa_cons (pv 1) pa_nil))) (pss_cons (ps_fld (pv 0) (pv 1) rfl) pss_nil)), ?_⟩), hm, hb⟩

  rintro p es r F H0 H σ D ⟨m, rfl, hm, rfl⟩ s k
  simp only [J.cx_K, List.length_cons, List.length_nil, List.cons_append, List.nil_append, Nat.reduceAdd, Nat.reduceSub, List.reduceReplicate, List.append_nil] at s ⊢
  refine q_drop s (ev_call (by walk_at "args") ⟨m, rfl, hm, rfl⟩) fun σ F H s => ?_
  refine q_self s rfl (by walk_at "ev") T.f_Some_many rfl (Nat.le_of_ble_eq_true rfl) fun σ F H s => ?_
  exact k σ F H _ s rfl
def R_fitsO (C : Cs) : Rel := fun es r => ∃ g z t, es = [.v (goalS C g), .v (houseS C z t)] ∧ r = .v (bS true)
/-! ### Some_fits: slots 0:self 1:house -/
abbrev s_Some_fits : Stmt := inClass (top 24) 1
theorem sc_Some_fits : FnScope ["self", "house"] ["self", "house"] (defScope s_Some_fits) := ⟨rfl, rfl, rfl, by decide +kernel, rfl, by decide +kernel, by decide +kernel⟩
theorem ok_Some_fits (T : Top K mg C) {D : Addr} (M : MetT K D "fits" "Some.fits" s_Some_fits ["self", "house"]) : MetX P w K mg base 1 D "fits" (SpOf (R_fitsO C)) := by
  obtain ⟨f, fd, F, hc, hm, hb⟩ := M.ex
  refine ⟨f, fd, _, hc, hm, fn_ok F sc_Some_fits (by walk_at "len") (fun cdv A outer s H E hr => ⟨_, (pss_cons (ps_ret pe_bl) pss_nil), ?_⟩), hb⟩

  rintro es r F σ Q ⟨m, z, t, rfl, rfl⟩ s k
  simp only [J.cx_K, List.length_cons, List.length_nil, List.cons_append, List.nil_append, Nat.reduceAdd, Nat.reduceSub, List.reduceReplicate, List.append_nil] at s ⊢
  exact q_ret s ev_c k
def R_metO (C : Cs) : Rel := fun es r => ∃ g x, es = [.v (goalS C g), .v (stS x)] ∧ r = .v (bS (metG x g))
/-! ### Some_met: slots 0:self 1:state -/
abbrev s_Some_met : Stmt := inClass (top 24) 2
theorem sc_Some_met : FnScope ["self", "state"] ["self", "state"] (defScope s_Some_met) := ⟨rfl, rfl, rfl, by decide +kernel, rfl, by decide +kernel, by decide +kernel⟩
theorem ok_Some_met (T : Top K mg C) {D : Addr} (M : MetT K D "met" "Some.met" s_Some_met ["self", "state"]) : MetX P w K mg base 1 D "met" (SpOf (R_metO C)) := by
  obtain ⟨f, fd, F, hc, hm, hb⟩ := M.ex
  refine ⟨f, fd, _, hc, hm, fn_ok F sc_Some_met (by walk_at "len") (fun cdv A outer s H E hr => ⟨_, (pss_cons (ps_ret (ke_in (K := K) rfl hr (ke_fld (K := K) rfl (pv 0) rfl) (pv 1) (by rfl))) pss_nil), ?_⟩), hb⟩

  rintro es r F σ Q ⟨m, x, rfl, rfl⟩ s k
  simp only [J.cx_K, List.length_cons, List.length_nil, List.cons_append, List.nil_append, Nat.reduceAdd, Nat.reduceSub, List.reduceReplicate, List.append_nil] at s ⊢
  exact q_ret s (ev_inI (xs := x) (ev_fld (fs := someF m) (ev_v rfl) isR_v T.f_Some_many (by walk_at "lk")) (ev_v rfl) (.inr isR_v)) k
def R_come (C : Cs) : Rel := fun es r => ∃ g z t x, es = [.v (goalS C g), .v (houseS C z t), .v (stS x)] ∧ (StOk z x ∧ z.length ≤ 4) ∧ r = .v (bS (metG x g))
/-! ### Goal_come: slots 0:self 1:house 2:state -/
abbrev s_Goal_come : Stmt := inClass (top 23) 2
theorem sc_Goal_come : FnScope ["self", "house", "state"] ["self", "house", "state"] (defScope s_Goal_come) := ⟨rfl, rfl, rfl, by decide +kernel, rfl, by decide +kernel, by decide +kernel⟩
theorem ok_Goal_come (T : Top K mg C) {D : Addr} (M : MetT K D "come" "Goal.come" s_Goal_come ["self", "house", "state"]) : MetX P w K mg base 3 D "come" (SpOf (R_come C)) := by
  obtain ⟨f, fd, F, hc, hm, hb⟩ := M.ex
  refine ⟨f, fd, _, hc, hm, fn_ok F sc_Goal_come (by walk_at "len") (fun cdv A outer s H E hr => ⟨_, (pss_cons (ps_expr (pe_mtX (ok_House_check T T.m_House_check) hr (by decide) px_of (pv 1) (pa_cons (pv 2) pa_nil))) (pss_cons (ps_if (pt_not (pt_val (pe_mtX (ok_Some_fits T T.m_Some_fits) hr (by decide) px_of (pv 0) (pa_cons (pv 1) pa_nil)))) (pss_cons (ps_raiseX rfl tk_of T.x_BadGoal (by rfl)) pss_nil) pss_nil) (pss_cons (ps_ret (pe_mtX (ok_Some_met T T.m_Some_met) hr (by decide) px_of (pv 0) (pa_cons (pv 2) pa_nil))) pss_nil))), ?_⟩), hb⟩

  rintro es r F σ Q ⟨g, z, t, x, rfl, ⟨hx, hz⟩, rfl⟩ s k
  simp only [J.cx_K, List.length_cons, List.length_nil, List.cons_append, List.nil_append, Nat.reduceAdd, Nat.reduceSub, List.reduceReplicate, List.append_nil] at s ⊢
  refine q_drop s (ev_meth (by walk_at "ev") (by walk_at "lk") (by walk_at "args") ⟨z, t, x, rfl, ⟨hx, hz⟩, rfl⟩) fun σ F H s => ?_
  refine q_whenF s (et_not (a := true) (et_B (b := true) (ev_meth (fs := someF g) (ev_v rfl) (by walk_at "lk") (by walk_at "args") ⟨g, z, t, rfl, rfl⟩))) rfl fun σ F H s => ?_
  exact q_ret s (ev_meth (fs := someF g) (ev_v rfl) (by walk_at "lk") (by walk_at "args") ⟨g, x, rfl, rfl⟩) k
theorem is_G (T : Top K mg C) (g : Gl) : CbE (rIsi K) [.v (goalS C g), .v (kS (.ref C.Goal))] (.v (bS true)) := cb_isi (ty_ins T.ik_Some isR_v) (.own _) T.is_Some_Goal
theorem ev_come {E : XK} {to : TE} {ta : TA} {δ : List Ent} {z : List Int} {t : Bool} {x : List Int} {g : Gl} (h : EvE to δ (.v (goalS C g))) (ha : EvAs ta δ [.v (houseS C z t), .v (stS x)]) (_ : gPre z g) (hx : StOk z x) (hz : z.length ≤ 4) : EvE (tMeth C.Some "come" (SpOf (R_come C)) [] E to ta) δ (.v (bS (metG x g))) := ev_meth (fs := someF g) h (by walk_at "lk") ha ⟨g, z, t, x, rfl, ⟨hx, hz⟩, rfl⟩
theorem ev_met {E : XK} {to : TE} {ta : TA} {δ : List Ent} {z x : List Int} {g : Gl} (h : EvE to δ (.v (goalS C g))) (ha : EvAs ta δ [.v (stS x)]) (_ : gPre z g) (_ : x.length = z.length) : EvE (tMeth C.Some "met" (SpOf (R_metO C)) [] E to ta) δ (.v (bS (metG x g))) := ev_meth (fs := someF g) h (by walk_at "lk") ha ⟨g, x, rfl, rfl⟩
/-! ### way_to, fewest -/
theorem aK_find {ah : List (List Int × List Int × Mv)} {y : List Int} {p : List Int × List Int × Mv} (h : ah.find? (fun p => decide (p.1 = y)) = some p) : (ah.map fun p => (kx p.1, tupS [stS p.2.1, moveS C p.2.2])).find? (fun q => decide (q.1 = kx y)) = some (kx p.1, tupS [stS p.2.1, moveS C p.2.2]) := by
  rw [List.find?_map]
  have e : ((fun q : List Key × Slot => decide (q.1 = kx y)) ∘ fun p : List Int × List Int × Mv => (kx p.1, tupS [stS p.2.1, moveS C p.2.2])) = fun p => decide (p.1 = y) := by
    funext p
    exact decide_eq_decide.mpr ⟨fun h => kx_inj h, fun h => congrArg kx h⟩
  rw [e, h]
  rfl
def R_way (C : Cs) : Rel := fun es r => ∃ b z ms x y, es = [.bo (dicO (aK C b)), .v (stS y)] ∧ (BH z ms x b ∧ hOf b.hs y < 2000 ∧ b.L.length ≤ 2000 ∧ ∀ y ∈ b.L, 0 ≤ hOf b.hs y) ∧ r = .o (lstO ((way b.ah 2000 y).map (moveS C)))
/-! ### way_to: slots 0:ahead 1:state 2:moves 3:move -/
abbrev s_way_to : Stmt := top 29
theorem sc_way_to : FnScope ["ahead", "state", "moves", "move"] ["ahead", "state"] (defScope s_way_to) := ⟨rfl, rfl, rfl, by decide +kernel, rfl, by decide +kernel, by decide +kernel⟩
theorem ok_way_to (T : Top K mg C) : CalX P w K mg base 1 "way_to" (SpOf (R_way C)) := by
  obtain ⟨f, fd, F, hm, hb⟩ := T.d_way_to.ex
  refine ⟨f, fd, _, fn_ok F sc_way_to (by walk_at "len") (fun cdv A outer s H E hr => ⟨_, (pss_cons (ps_set (i := 2) sc_way_to.nd rfl (Or.inl rfl) (pe_lst pa_nil)) (pss_cons (ps_while (passes_of rfl) (kt_in (K := K) rfl hr (pv 1) (pv 0) (by rfl)) (pss_cons (ps_asg (ke_ix (K := K) rfl hr (pv 0) (pv 1) (fun _ _ => rfl) (fun _ _ => rfl)) (pg_tup rfl (pgs_cons (pg_name (i := 1) sc_way_to.nd rfl (Or.inl rfl)) (pgs_cons (pg_name (i := 3) sc_way_to.nd rfl (Or.inl rfl)) pgs_nil)))) (pss_cons (ps_set (i := 2) sc_way_to.nd rfl (Or.inl rfl) (pe_op (ko_add (K := K) rfl) (pe_lst (pa_cons (pv 3) pa_nil)) (pv 2))) pss_nil))) (pss_cons (ps_ret (pv 2)) pss_nil))), ?_⟩), hm, F.kp, hb⟩

  rintro es r F σ Q ⟨b, z, ms, x, y, rfl, ⟨hb, hy, hl, h0⟩, rfl⟩ s k
  simp only [J.cx_K, List.length_cons, List.length_nil, List.cons_append, List.nil_append, Nat.reduceAdd, Nat.reduceSub, List.reduceReplicate, List.append_nil] at s ⊢
  refine q_setO s (o := lstO (([] : List Mv).map (moveS C))) (eo_lstN ea_nilV (Nat.le_of_ble_eq_true rfl)) fun σ F H s => ?_
  dsimp only [List.set, J.putS, List.nil_append, List.cons_append] at s
  refine q_while s (fun n d => ∃ (cur : List Int) (acc : List Mv) (e3 : Ent), (hOf b.hs cur < (n : Int) ∧ way b.ah 2000 y = way b.ah n cur ++ acc ∧ acc.length + n ≤ 2000) ∧ d = [.bo (dicO (aK C b)), .v (stS cur), .ow (lstO (acc.map (moveS C))), e3]) 2000 ⟨y, [], .un, ⟨by omega, by rw [List.append_nil], by rw [List.length_nil]; omega⟩, rfl⟩ ?_
  rintro n δ' σ F H ⟨cur, acc, e3, ⟨hn, hw, ha⟩, rfl⟩ s
  refine ⟨decide (cur ∈ b.ah.map (·.1)), et_B (ev_inDT (ev_v rfl) (ev_bo rfl) isR_b aK_keys), fun hb' σ F H s => ?_, fun hb' σ F H s => ?_⟩
  · have hin := of_decide_eq_true hb'
    obtain ⟨p, hp⟩ : ∃ p, b.ah.find? (fun p => decide (p.1 = cur)) = some p := by
      cases e : b.ah.find? fun p => decide (p.1 = cur) with
      | some p => exact ⟨p, rfl⟩
      | none =>
        obtain ⟨p, hp, e2⟩ := List.mem_map.mp hin
        exact absurd (decide_eq_true e2) (List.find?_eq_none.mp e p hp)
    have hpe : p.1 = cur := by simpa using List.find?_some hp
    obtain ⟨h1, h2, _, _⟩ := hb.hp p (List.mem_of_find?_eq_some hp)
    rw [hpe] at h2
    have h3 := h0 _ h1
    obtain ⟨n', rfl⟩ : ∃ n', n = n' + 1 := ⟨n - 1, by omega⟩
    refine q_tup2 s (S1 := stS p.2.1) (S2 := moveS C p.2.2) (ev_dget (ev_bo rfl) isR_b (ev_v rfl) (aK_find hp)) fun σ F H s => ?_
    dsimp only [List.set, J.putS, List.nil_append, List.cons_append] at s
    refine q_setO s (o := lstO ((p.2.2 :: acc).map (moveS C))) (eo_op (EvO.b (eo_lstN (ss := [p.2.2].map (moveS C)) (ea_consV (ev_v rfl) ea_nilV) (Nat.le_of_ble_eq_true rfl))) (ev_ow rfl) (jo_addl isR_b isR_b (by rw [List.length_map, List.length_map]; show 1 + acc.length ≤ 100000; omega))) fun σ F H s => ?_
    dsimp only [List.set, J.putS, List.nil_append, List.cons_append] at s
    have ew : way b.ah (n' + 1) cur = way b.ah n' p.2.1 ++ [p.2.2] := by
      rw [way, hp]
    exact q_nx s ⟨n', by omega, p.2.1, p.2.2 :: acc, .v (moveS C p.2.2), ⟨by omega, by rw [hw, ew, List.append_assoc]; rfl, by rw [List.length_cons]; omega⟩, rfl⟩
  · have hin := of_decide_eq_false hb'
    have ew : way b.ah n cur = [] := by
      cases n with
      | zero => rfl
      | succ n =>
        have e : b.ah.find? (fun p => decide (p.1 = cur)) = none := by
          rw [List.find?_eq_none]
          intro p hp c
          exact hin (List.mem_map.mpr ⟨p, hp, of_decide_eq_true c⟩)
        rw [way, e]
    rw [ew, List.nil_append] at hw
    rw [← hw] at s
    exact q_retOw s rfl k
abbrev pourdF (C : Cs) (ms : List Mv) (hs : List (List Int × Int)) : List (Str × Slot) := [("pours", lstS (ms.map (moveS C))), ("heights", lstS (hs.map fun p => tupS [stS p.1, iS p.2]))]
abbrev barF (L : List (List Int)) : List (Str × Slot) := [("among", lstS (L.map stS))]
def R_Poured (C : Cs) : RelI := fun es r => ∃ ms hs, es = [.bo (lstO (ms.map (moveS C))), .bo (lstO (hs.map fun p : List Int × Int => tupS [stS p.1, iS p.2]))] ∧ r = .ok (pourdF C ms hs)
/-! ### Poured___init__: slots 0:self 1:pours 2:heights -/
abbrev s_Poured___init__ : Stmt := inClass (top 27) 0
theorem sc_Poured___init__ : FnScope ["self", "pours", "heights"] ["self", "pours", "heights"] (defScope s_Poured___init__) := ⟨rfl, rfl, rfl, by decide +kernel, rfl, by decide +kernel, by decide +kernel⟩
theorem ok_Poured___init__ (T : Top K mg C) : MakX P w K mg base 1 "Poured" C.Poured (SpInit C.Poured (R_Poured C)) := by
  obtain ⟨f, fd, F, hk, hm, hb⟩ := T.i_Poured.ex
  refine ⟨f, fd, _, hk, init_ok F sc_Poured___init__ (by walk_at "len") (fun cdv A outer s H E hr => ⟨_, (pss_cons (ps_fld (pv 0) (pe_callTy (kc_list (K := K) rfl) (by rfl) T.n_list bt_list (pa_cons (pv 1) pa_nil)) rfl) (pss_cons (ps_fld (pv 0) (pe_callTy (kc_list (K := K) rfl) (by rfl) T.n_list bt_list (pa_cons (pv 2) pa_nil)) rfl) pss_nil)), ?_⟩), hm, hb⟩

  rintro p es r F H0 H σ D ⟨ms, hs, rfl, rfl⟩ s k
  simp only [J.cx_K, List.length_cons, List.length_nil, List.cons_append, List.nil_append, Nat.reduceAdd, Nat.reduceSub, List.reduceReplicate, List.append_nil] at s ⊢
  refine q_self s rfl (eo_cb (by walk_at "args") (kb_list isR_b)).v T.f_Poured_pours rfl (Nat.le_of_ble_eq_true rfl) fun σ F H s => ?_
  dsimp only [List.set, J.putS, List.nil_append, List.cons_append] at s
  refine q_self s rfl (eo_cb (by walk_at "args") (kb_list isR_b)).v T.f_Poured_heights (by walk_at "lk") (Nat.le_of_ble_eq_true rfl) fun σ F H s => ?_
  exact k σ F H _ s rfl
def R_Barred : RelI := fun es r => ∃ L : List (List Int), es = [.bo (lstO (L.map stS))] ∧ r = .ok (barF L)
/-! ### Barred___init__: slots 0:self 1:among -/
abbrev s_Barred___init__ : Stmt := inClass (top 28) 0
theorem sc_Barred___init__ : FnScope ["self", "among"] ["self", "among"] (defScope s_Barred___init__) := ⟨rfl, rfl, rfl, by decide +kernel, rfl, by decide +kernel, by decide +kernel⟩
theorem ok_Barred___init__ (T : Top K mg C) : MakX P w K mg base 1 "Barred" C.Barred (SpInit C.Barred R_Barred) := by
  obtain ⟨f, fd, F, hk, hm, hb⟩ := T.i_Barred.ex
  refine ⟨f, fd, _, hk, init_ok F sc_Barred___init__ (by walk_at "len") (fun cdv A outer s H E hr => ⟨_, (pss_cons (ps_fld (pv 0) (pe_callTy (kc_list (K := K) rfl) (by rfl) T.n_list bt_list (pa_cons (pv 1) pa_nil)) rfl) pss_nil), ?_⟩), hm, hb⟩

  rintro p es r F H0 H σ D ⟨L, rfl, rfl⟩ s k
  simp only [J.cx_K, List.length_cons, List.length_nil, List.cons_append, List.nil_append, Nat.reduceAdd, Nat.reduceSub, List.reduceReplicate, List.append_nil] at s ⊢
  refine q_self s rfl (eo_cb (by walk_at "args") (kb_list isR_b)).v T.f_Barred_among rfl (Nat.le_of_ble_eq_true rfl) fun σ F H s => ?_
  exact k σ F H _ s rfl
def answer (C : Cs) (g : Gl) (b : Bf) : Slot := match b.L.find? fun y => metG y g with
  | some y => objS C.Poured (pourdF C (way b.ah 2000 y) (b.L.map fun y => (y, hOf b.hs y)))
  | none => objS C.Barred (barF b.L)
def R_fewest (C : Cs) : Rel := fun es r => ∃ z t x g, es = [.v (houseS C z t), .v (stS x), .v (goalS C g)] ∧ (HouseOk z ∧ StOk z x ∧ gPre z g) ∧ r = .v (answer C g (bfs z t x))
/-! ### fewest: slots 0:house 1:state 2:goal 3:heights 4:ahead 5:there 6:one -/
abbrev s_fewest : Stmt := top 30
theorem sc_fewest : FnScope ["house", "state", "goal", "heights", "ahead", "there", "one"] ["house", "state", "goal"] (defScope s_fewest) := ⟨rfl, rfl, rfl, by decide +kernel, rfl, by decide +kernel, by decide +kernel⟩
theorem ok_fewest (T : Top K mg C) : CalX P w K mg base 7 "fewest" (SpOf (R_fewest C)) := by
  obtain ⟨f, fd, F, hm, hb⟩ := T.d_fewest.ex
  refine ⟨f, fd, _, fn_ok F sc_fewest (by walk_at "len") (fun cdv A outer s H E hr => ⟨_, (pss_cons (ps_expr (pe_mtX (ok_House_check T T.m_House_check) hr (by decide) px_of (pv 0) (pa_cons (pv 1) pa_nil))) (pss_cons (ps_if (pt_not (pt_val (pe_callB (kc_isi (K := K) rfl) (by rfl) T.n_isinstance bt_isinstance (pa_cons (pv 2) (pa_cons (C8.pe_gc (by rfl) T.k_Goal) pa_nil))))) (pss_cons (ps_raiseX rfl tk_of T.x_BadGoal (by rfl)) pss_nil) pss_nil) (pss_cons (ps_expr (pe_mtX (ok_Goal_come T T.m_Some_come) hr (by decide) px_of (pv 2) (pa_cons (pv 0) (pa_cons (pv 1) pa_nil)))) (pss_cons (ps_asg (pe_cX (ok_spread T) hr (by decide) px_of (by rfl) (pa_cons (pv 0) (pa_cons (pv 1) pa_nil))) (pg_tup rfl (pgs_cons (pg_name (i := 3) sc_fewest.nd rfl (Or.inr rfl)) (pgs_cons (pg_name (i := 4) sc_fewest.nd rfl (Or.inl rfl)) pgs_nil)))) (pss_cons (ps_lock (ps_for (passes_of rfl) rfl (ki_any (K := K) rfl (pv 3)) (pg_name (i := 5) sc_fewest.nd rfl (Or.inl rfl)) (pss_cons (ps_if (pt_val (pe_mtX (ok_Some_met T T.m_Some_met) hr (by decide) px_of (pv 2) (pa_cons (pv 5) pa_nil))) (pss_cons (ps_ret (pe_mkX (ok_Poured___init__ T) hr (by decide) px_of (by rfl) (pa_cons (pe_cX (ok_way_to T) hr (by decide) px_of (by rfl) (pa_cons (pv 4) (pa_cons (pv 5) pa_nil))) (pa_cons (pe_lc (own := [("one", 6)]) (g := gName 6) rfl sc_fewest.nd (ki_any (K := K) rfl (pv 3)) (blkOk_by (N := ["house", "state", "goal", "heights", "ahead", "there", "one"]) (sc := defScope s_fewest) (by decide +kernel)) (fun _ _ _ _ _ => pg_name (i := 6) sc_fewest.nd rfl (Or.inl rfl)) (fun _ _ _ _ _ => pts_nil) (fun _ _ _ _ _ => (pe_tup (pa_cons (pv 6) (pa_cons (ke_ix (K := K) rfl hr (pv 3) (pv 6) (fun _ _ => rfl) (fun _ _ => rfl)) pa_nil))))) pa_nil)))) pss_nil) pss_nil) pss_nil))) (pss_cons (ps_ret (pe_mkX (ok_Barred___init__ T) hr (by decide) px_of (by rfl) (pa_cons (pe_callTy (kc_listW (K := K) rfl rfl) (by rfl) T.n_list bt_list (pa_cons (pv 3) pa_nil)) pa_nil))) pss_nil)))))), ?_⟩), hm, F.kp, hb⟩

  rintro es r F σ Q ⟨z, t, x, g, rfl, ⟨hz, hx, hg⟩, rfl⟩ s k
  simp only [J.cx_K, List.length_cons, List.length_nil, List.cons_append, List.nil_append, Nat.reduceAdd, Nat.reduceSub, List.reduceReplicate, List.append_nil] at s ⊢
  have hz4 := hz.l4
  have hB := bfs_ok (t := t) hz hx
  have hH := bfs_h (t := t) hz hx
  have hBl := hB.len hz
  refine q_drop s (ev_meth (by walk_at "ev") (by walk_at "lk") (by walk_at "args") ⟨z, t, x, rfl, ⟨hx, hz4⟩, rfl⟩) fun σ F H s => ?_
  refine q_whenF s (et_not (et_B (ev_cb (by walk_at "args") (is_G T g)))) rfl fun σ F H s => ?_
  refine q_drop s (ev_come (ev_v rfl) (by walk_at "args") hg hx hz4) fun σ F H s => ?_
  refine q_tup2P s (ep_call (by walk_at "args") ⟨z, t, x, rfl, ⟨hz, hx⟩, rfl⟩) (Nat.le_of_ble_eq_true rfl) fun σ F H s => ?_
  dsimp only [List.set, J.putS, List.nil_append, List.cons_append] at s
  generalize bfs z t x = B at s hB hH hBl k
  have hkk := hK_keys hB
  refine q_forD s rfl hkk (by decide) (fun n d => ∃ e5, (∀ y ∈ B.L.take n, metG y g = false) ∧ d = [.v (houseS C z t), .v (stS x), .v (goalS C g), .ow (dicO (hK B)), .ow (dicO (aK C B)), e5, .un]) ⟨_, (fun y h => by rw [List.take_zero] at h; cases h), rfl⟩ (fun n δ' ⟨e5, _, h⟩ => by rw [h]; rfl) ?_ ?_
  · rintro d od kv F1 bs n y δ' σ F H hy ⟨e5, hpre, rfl⟩ s
    have hyL := List.mem_of_getElem? hy
    have hyk := hB.ok y hyL
    dsimp only [List.set, J.putS, List.nil_append, List.cons_append] at s
    refine q_when s (et_B (ev_met (ev_v rfl) (by walk_at "args") hg hyk.len)) (fun hb σ F H s => ?_) (fun hb σ F H s => ?_)
    · have hfind : B.L.find? (fun y => metG y g) = some y := by
        have hlt := (List.getElem?_eq_some_iff.mp hy)
        obtain ⟨hlt, e⟩ := hlt
        rw [List.find?_eq_some_iff_getElem]
        refine ⟨hb, n, hlt, e, fun j hj => ?_⟩
        rw [hpre _ (List.mem_take_iff_getElem.mpr ⟨j, by omega, rfl⟩)]
        rfl
      have ea : answer C g B = objS C.Poured (pourdF C (way B.ah 2000 y) (B.L.map fun y => (y, hOf B.hs y))) := by
        unfold answer
        rw [hfind]
      rw [ea] at k
      refine q_retL (i := 3) s bs rfl (ev_make (ea_cons (EvO.b (eo_call (by walk_at "args") ⟨B, z, _, x, y, rfl, ⟨hH, by have := (hH.hb y hyL).2; omega, hBl, fun y h => (hH.hb y h).1⟩, rfl⟩)) (ea_cons (EvO.b (eo_lcD (fun y => tupS [stS y, iS (hOf B.hs y)]) rfl hkk (by omega) (fun w hw => ?_))) ea_nil)) ⟨_, B.L.map fun y => (y, hOf B.hs y), by rw [List.map_map]; rfl, rfl⟩) k
      obtain ⟨pr, hp1, hp2⟩ := hOf_find (hs := B.hs) (x := w) (by rw [hB.hk]; exact hw)
      rw [← hp2]
      exact ev_tupN (ea_consV (ev_v rfl) (ea_consV (ev_dgetL rfl (ev_v rfl) (hK_find hp1)) ea_nilV)) (Nat.le_of_ble_eq_true rfl)
    · refine q_nxL s [.v (houseS C z t), .v (stS x), .v (goalS C g), .ow (dicO (hK B)), .ow (dicO (aK C B)), .v (stS y), .un] rfl ⟨_, fun w hw => ?_, rfl⟩
      rw [List.take_add_one, hy] at hw
      rcases List.mem_append.mp hw with hw | hw
      · exact hpre w hw
      · rw [List.mem_singleton.mp hw]
        exact hb
  · rintro δ' σ F H ⟨e5, hpre, rfl⟩ s
    have ea : answer C g B = objS C.Barred (barF B.L) := by
      unfold answer
      have e : B.L.find? (fun y => metG y g) = none := by
        rw [List.find?_eq_none]
        intro y hy c
        rw [List.take_length] at hpre
        rw [hpre y hy] at c
        cases c
      rw [e]
    rw [ea] at k
    exact q_ret s (ev_make (ea_cons (EvO.b (eo_listD (ev_ow rfl) isR_b hkk)) ea_nil) ⟨B.L, rfl, rfl⟩) k

end
end Jug
namespace Jug
open PySem PySem.Spec L2 PyProof.Rows J
/-! ### the walk is closed under moves -/
theorem step_pre (z here : List Int) (b : Bf) (m : Mv) : b.L <+: (stepB z here b m).L := by
  unfold stepB
  split
  · exact List.prefix_refl _
  · exact List.prefix_append _ _
theorem step_mem (z here : List Int) (b : Bf) (m : Mv) : behind z here m ∈ (stepB z here b m).L := by
  unfold stepB
  split
  · assumption
  · exact List.mem_append_right _ List.mem_cons_self
theorem fold_pre (z here : List Int) : ∀ (ms : List Mv) (b : Bf), b.L <+: (ms.foldl (stepB z here) b).L
  | [], b => List.prefix_refl _
  | m :: ms, b => (step_pre z here b m).trans (fold_pre z here ms _)
theorem fold_mem (z here : List Int) : ∀ (ms : List Mv) (b : Bf) (m : Mv), m ∈ ms → behind z here m ∈ (ms.foldl (stepB z here) b).L
  | m0 :: ms, b, m, h => by
    rcases List.mem_cons.mp h with rfl | h
    · exact (fold_pre z here ms _).subset (step_mem z here b m)
    · exact fold_mem z here ms _ m h
theorem run_pre (z : List Int) (ms : List Mv) (b0 : Bf) (n : Nat) : (run z ms b0 n).L <+: (run z ms b0 (n + 1)).L := by
  show _ <+: (match (run z ms b0 n).L[n]? with | some here => ms.foldl (stepB z here) (run z ms b0 n) | none => run z ms b0 n).L
  split
  · exact fold_pre _ _ _ _
  · exact List.prefix_refl _
theorem pre_get {α : Type} {l m : List α} (h : l <+: m) {j : Nat} {a : α} (e : l[j]? = some a) : m[j]? = some a := by
  obtain ⟨t, rfl⟩ := h
  rw [List.getElem?_append_left (List.getElem?_eq_some_iff.mp e).1]
  exact e
theorem run_closed (z : List Int) (ms : List Mv) (b0 : Bf) : ∀ (n j : Nat) (y : List Int), j < n → (run z ms b0 n).L[j]? = some y → ∀ m ∈ ms, behind z y m ∈ (run z ms b0 n).L
  | n + 1, j, y, hj, hy, m, hm => by
    have hp := run_pre z ms b0 n
    by_cases hjn : j < n
    · by_cases hl : j < (run z ms b0 n).L.length
      · have e : (run z ms b0 n).L[j]? = some ((run z ms b0 n).L[j]) := List.getElem?_eq_getElem hl
        have e2 := pre_get hp e
        rw [hy] at e2
        cases e2
        exact hp.subset (run_closed z ms b0 n j _ hjn e m hm)
      · have e3 : run z ms b0 (n + 1) = run z ms b0 n := run_stop (k := 1) (n := n) (by omega)
        rw [e3] at hy
        rw [List.getElem?_eq_none (by omega)] at hy
        cases hy
    · have : j = n := by omega
      subst this
      cases e : (run z ms b0 j).L[j]? with
      | none =>
        have e3 : run z ms b0 (j + 1) = run z ms b0 j := run_stop (k := 1) (n := j) (by
          have := List.getElem?_eq_none_iff.mp e
          omega)
        rw [e3, e] at hy
        cases hy
      | some here =>
        have e2 := pre_get hp e
        rw [hy] at e2
        cases e2
        rw [run, e]
        exact fold_mem z y ms _ m hm
theorem bfs_closed {z x : List Int} {t : Bool} (hz : HouseOk z) (hx : StOk z x) : ∀ y ∈ (bfs z t x).L, ∀ m ∈ allMoves z.length t, behind z y m ∈ (bfs z t x).L := by
  intro y hy m hm
  obtain ⟨j, hj⟩ := List.mem_iff_getElem?.mp hy
  have hl := (bfs_ok (t := t) hz hx).len hz
  have h2 := (List.getElem?_eq_some_iff.mp hj).1
  exact run_closed z _ _ 2000 j y (by omega) hj m hm
theorem bfs_ind {z x : List Int} {t : Bool} {P : List Int → Prop} (hx : P x) (hs : ∀ y m, P y → m ∈ allMoves z.length t → P (behind z y m)) : ∀ y ∈ (bfs z t x).L, P y := by
  have key : ∀ n, ∀ y ∈ (run z (allMoves z.length t) (startB x) n).L, P y := by
    intro n
    induction n with
    | zero =>
      intro y hy
      rw [List.mem_singleton.mp hy]
      exact hx
    | succ n ih =>
      rw [run]
      split
      · rename_i here hh
        have hP := ih here (List.mem_of_getElem? hh)
        have : ∀ (ms : List Mv) (b : Bf), (∀ m ∈ ms, m ∈ allMoves z.length t) → (∀ y ∈ b.L, P y) → ∀ y ∈ (ms.foldl (stepB z here) b).L, P y := by
          intro ms
          induction ms with
          | nil => intro b _ h; exact h
          | cons m ms ih2 =>
            intro b hm h
            refine ih2 _ (fun m' h' => hm m' (List.mem_cons_of_mem _ h')) ?_
            unfold stepB
            split
            · exact h
            · intro y hy
              rcases List.mem_append.mp hy with hy | hy
              · exact h y hy
              · rw [List.mem_singleton.mp hy]
                exact hs _ _ hP (hm m List.mem_cons_self)
        exact this _ _ (fun m h => h) ih
      · exact ih
  exact key 2000

/-! ### two jugs: the numbers -/
theorem bez (p q : Nat) : ∃ x y : Int, x * p + y * q = ((Nat.gcd p q : Nat) : Int) := by
  induction p, q using Nat.gcd.induction with
  | H0 n => exact ⟨0, 1, by rw [Nat.gcd_zero_left]; omega⟩
  | H1 m n hm ih =>
    obtain ⟨x, y, h⟩ := ih
    refine ⟨y - x * ((n / m : Nat) : Int), x, ?_⟩
    rw [Nat.gcd_rec, ← h]
    have e : ((n : Nat) : Int) = (m : Int) * ((n / m : Nat) : Int) + ((n % m : Nat) : Int) := by
      have := Nat.div_add_mod n m
      rw [← Int.natCast_mul, ← Int.natCast_add, this]
    generalize ((n / m : Nat) : Int) = d at e ⊢
    generalize ((n % m : Nat) : Int) = r at e ⊢
    rw [e, Int.sub_mul, Int.mul_add]
    have e1 : x * d * (m : Int) = x * ((m : Int) * d) := by rw [Int.mul_assoc, Int.mul_comm d]
    omega
theorem reach {R : Int → Int → Prop} {p q : Int} (h0 : R 0 0) (hf : ∀ u v, R u v → R p v) (he : ∀ u v, R u v → R u 0) (hp : ∀ u v, R u v → R (u - min u (q - v)) (v + min u (q - v))) (p1 : 1 ≤ p) (pq : p ≤ q) : ∀ k : Nat, R 0 (((k : Int) * p) % q)
  | 0 => by simpa using h0
  | k + 1 => by
    have ih := reach h0 hf he hp p1 pq k
    have r0 := Int.emod_nonneg ((k : Int) * p) (show q ≠ 0 by omega)
    have r1 := Int.emod_lt_of_pos ((k : Int) * p) (show 0 < q by omega)
    have e : (((k + 1 : Nat) : Int) * p) % q = (((k : Int) * p) % q + p) % q := by
      rw [Int.natCast_succ, Int.add_mul, Int.one_mul, Int.emod_add_emod]
    rw [e]
    generalize ((k : Int) * p) % q = r at ih r0 r1
    have a1 := hp _ _ (hf _ _ ih)
    by_cases c : p ≤ q - r
    · rw [show min p (q - r) = p by omega, show p - p = 0 by omega] at a1
      by_cases c2 : r + p < q
      · rw [Int.emod_eq_of_lt (by omega) c2]
        exact a1
      · have e2 : r + p = q := by omega
        rw [e2, Int.emod_self]
        exact he _ _ a1
    · rw [show min p (q - r) = q - r by omega] at a1
      have a2 := hp _ _ (he _ _ a1)
      rw [show min (p - (q - r)) (q - 0) = p - (q - r) by omega, show p - (q - r) - (p - (q - r)) = 0 by omega] at a2
      have e3 : (r + p) % q = r + p - q := by
        have : r + p = (r + p - q) + q := by omega
        rw [this, Int.add_emod_right, Int.emod_eq_of_lt (by omega) (by omega)]
        omega
      rw [e3]
      rw [show 0 + (p - (q - r)) = r + p - q by omega] at a2
      exact a2
theorem hit {p q : Nat} (hq : 0 < q) {m : Int} (h0 : 0 ≤ m) (h1 : m < q) (hd : ((Nat.gcd p q : Nat) : Int) ∣ m) : ∃ k : Nat, ((k : Int) * p) % q = m := by
  obtain ⟨c, rfl⟩ := hd
  obtain ⟨x, y, h⟩ := bez p q
  refine ⟨(x * c % q).toNat, ?_⟩
  rw [Int.toNat_of_nonneg (Int.emod_nonneg _ (by omega)), Int.mul_emod, Int.emod_emod, ← Int.mul_emod]
  have e : x * c * (p : Int) = ((Nat.gcd p q : Nat) : Int) * c + (-(y * c)) * (q : Int) := by
    rw [← h, Int.add_mul, Int.neg_mul]
    have e1 : x * c * (p : Int) = x * (p : Int) * c := by rw [Int.mul_assoc, Int.mul_comm c, ← Int.mul_assoc]
    have e2 : y * c * (q : Int) = y * (q : Int) * c := by rw [Int.mul_assoc, Int.mul_comm c, ← Int.mul_assoc]
    omega
  rw [e, Int.add_mul_emod_self_right, Int.emod_eq_of_lt h0 h1]
/-- the greatest number that goes into both, by trying -/
def cstep (a b : Int) (f : Int) (n : Nat) : Int := if a % (2 + (n : Int)) = 0 ∧ b % (2 + (n : Int)) = 0 then 2 + (n : Int) else f
def comTo (a b : Int) (n : Nat) : Int := (List.range n).foldl (cstep a b) 1
def com (a b : Int) : Int := comTo a b (min a b + 1 - 2).toNat
theorem comTo_ok (a b : Int) : ∀ n : Nat, 1 ≤ comTo a b n ∧ comTo a b n ∣ a ∧ comTo a b n ∣ b ∧ ∀ d : Int, 1 ≤ d → d ≤ (n : Int) + 1 → d ∣ a → d ∣ b → d ≤ comTo a b n
  | 0 => ⟨Int.le_refl 1, ⟨a, by show a = 1 * a; omega⟩, ⟨b, by show b = 1 * b; omega⟩, fun d h1 h2 _ _ => by show d ≤ 1; omega⟩
  | n + 1 => by
    obtain ⟨i1, i2, i3, i4⟩ := comTo_ok a b n
    have e : comTo a b (n + 1) = cstep a b (comTo a b n) n := by
      unfold comTo
      rw [List.range_succ, List.foldl_append]
      rfl
    rw [e]
    unfold cstep
    split
    · rename_i h
      exact ⟨by omega, Int.dvd_of_emod_eq_zero h.1, Int.dvd_of_emod_eq_zero h.2, fun d h1 h2 _ _ => by omega⟩
    · rename_i h
      refine ⟨i1, i2, i3, fun d h1 h2 h3 h4 => ?_⟩
      by_cases c : d ≤ (n : Int) + 1
      · exact i4 d h1 c h3 h4
      · have : d = 2 + (n : Int) := by omega
        subst this
        exact absurd ⟨Int.emod_eq_zero_of_dvd h3, Int.emod_eq_zero_of_dvd h4⟩ h
theorem com_gcd {p q : Nat} (hp : 1 ≤ p) (hq : 1 ≤ q) : com (p : Int) (q : Int) = ((Nat.gcd p q : Nat) : Int) := by
  obtain ⟨h1, h2, h3, h4⟩ := comTo_ok (p : Int) (q : Int) (min (p : Int) (q : Int) + 1 - 2).toNat
  have g0 : 0 < Nat.gcd p q := Nat.gcd_pos_of_pos_left _ hp
  have ga : ((Nat.gcd p q : Nat) : Int) ∣ (p : Int) := Int.natCast_dvd_natCast.mpr (Nat.gcd_dvd_left p q)
  have gb : ((Nat.gcd p q : Nat) : Int) ∣ (q : Int) := Int.natCast_dvd_natCast.mpr (Nat.gcd_dvd_right p q)
  have l1 : ((Nat.gcd p q : Nat) : Int) ≤ com (p : Int) (q : Int) := by
    refine h4 _ (by omega) ?_ ga gb
    have a1 := Nat.le_of_dvd hp (Nat.gcd_dvd_left p q)
    have a2 := Nat.le_of_dvd hq (Nat.gcd_dvd_right p q)
    omega
  have l2 : com (p : Int) (q : Int) ≤ ((Nat.gcd p q : Nat) : Int) := by
    obtain ⟨c, hc⟩ : ∃ c : Nat, com (p : Int) (q : Int) = (c : Int) := nat_of (by unfold com; omega)
    have h2 : com (p : Int) (q : Int) ∣ (p : Int) := h2
    have h3 : com (p : Int) (q : Int) ∣ (q : Int) := h3
    rw [hc] at h2 h3 ⊢
    have := Nat.le_of_dvd g0 (Nat.dvd_gcd (Int.natCast_dvd_natCast.mp h2) (Int.natCast_dvd_natCast.mp h3))
    omega
  omega

end Jug
namespace Jug
open PySem PySem.Spec L2 PyProof.Rows J
theorem mem_addI {ks : List Int} {n v : Int} : v ∈ addI ks n ↔ v ∈ ks ∨ v = n := by
  unfold addI
  split
  · rename_i h
    exact ⟨.inl, fun q => q.elim id fun e => e ▸ h⟩
  · rw [List.mem_append, List.mem_singleton]
theorem mem_foldA {v : Int} : ∀ {y ks : List Int}, v ∈ y.foldl addI ks ↔ v ∈ ks ∨ v ∈ y
  | [], ks => by simp
  | a :: y, ks => by
    rw [List.foldl_cons, mem_foldA, mem_addI, List.mem_cons]
    exact or_assoc
theorem mem_amounts0 {v : Int} : ∀ {L : List (List Int)} {ks : List Int}, v ∈ L.foldl (fun ks y => y.foldl addI ks) ks ↔ v ∈ ks ∨ ∃ y ∈ L, v ∈ y
  | [], ks => by simp
  | y :: L, ks => by
    rw [List.foldl_cons, mem_amounts0, mem_foldA]
    constructor
    · rintro ((h | h) | ⟨w, hw, h⟩)
      · exact .inl h
      · exact .inr ⟨y, List.mem_cons_self, h⟩
      · exact .inr ⟨w, List.mem_cons_of_mem _ hw, h⟩
    · rintro (h | ⟨w, hw, h⟩)
      · exact .inl (.inl h)
      · rcases List.mem_cons.mp hw with rfl | hw
        · exact .inl (.inr h)
        · exact .inr ⟨w, hw, h⟩
theorem mem_amounts {v : Int} {L : List (List Int)} : v ∈ amounts L ↔ ∃ y ∈ L, v ∈ y := by
  unfold amounts
  rw [mem_amounts0]
  simp
theorem moves2 : allMoves 2 true = [.pour 0 1, .pour 1 0, .fill 0, .fill 1, .empty 0, .empty 1] := by decide
theorem two_div {a b g : Int} (ha : g ∣ a) (hb : g ∣ b) : ∀ y ∈ (bfs [a, b] true [0, 0]).L, ∃ u v, y = [u, v] ∧ g ∣ u ∧ g ∣ v := by
  refine bfs_ind ⟨0, 0, rfl, Int.dvd_zero g, Int.dvd_zero g⟩ ?_
  rintro y m ⟨u, v, rfl, hu, hv⟩ hm
  have hm : m ∈ allMoves 2 true := hm
  rw [moves2] at hm
  have dm : ∀ {s t : Int}, g ∣ s → g ∣ t → g ∣ min s t := fun {s t} h1 h2 => by
    rcases Int.le_total s t with h | h
    · rw [Int.min_eq_left h]; exact h1
    · rw [Int.min_eq_right h]; exact h2
  simp only [List.mem_cons, List.not_mem_nil, or_false] at hm
  rcases hm with rfl | rfl | rfl | rfl | rfl | rfl
  · exact ⟨u - min u (b - v), v + min u (b - v), rfl, Int.dvd_sub hu (dm hu (Int.dvd_sub hb hv)), Int.dvd_add hv (dm hu (Int.dvd_sub hb hv))⟩
  · exact ⟨u + min v (a - u), v - min v (a - u), rfl, Int.dvd_add hu (dm hv (Int.dvd_sub ha hu)), Int.dvd_sub hv (dm hv (Int.dvd_sub ha hu))⟩
  · exact ⟨a, v, rfl, ha, hv⟩
  · exact ⟨u, b, rfl, hu, hb⟩
  · exact ⟨0, v, rfl, Int.dvd_zero g, hv⟩
  · exact ⟨u, 0, rfl, hu, Int.dvd_zero g⟩
theorem zero2 {a b : Int} (hz : HouseOk [a, b]) : StOk [a, b] [0, 0] := by
  rw [stOk_iff]
  refine ⟨rfl, fun i hi => ?_⟩
  have h1 := hz.sz a (by simp)
  have h2 := hz.sz b (by simp)
  have hi : i < 2 := hi
  have : i = 0 ∨ i = 1 := by omega
  rcases this with rfl | rfl
  · show (0 : Int) ≤ 0 ∧ (0 : Int) ≤ a; omega
  · show (0 : Int) ≤ 0 ∧ (0 : Int) ≤ b; omega
theorem two {a b : Int} (hz : HouseOk [a, b]) (v : Int) : (∃ y ∈ (bfs [a, b] true [0, 0]).L, v ∈ y) ↔ 0 ≤ v ∧ v ≤ max a b ∧ com a b ∣ v := by
  have h1 := hz.sz a (by simp)
  have h2 := hz.sz b (by simp)
  obtain ⟨p, rfl⟩ := nat_of (i := a) (by omega)
  obtain ⟨q, rfl⟩ := nat_of (i := b) (by omega)
  have hx := zero2 hz
  have cg := com_gcd (p := p) (q := q) (by omega) (by omega)
  have ga : com (p : Int) (q : Int) ∣ (p : Int) := by rw [cg]; exact Int.natCast_dvd_natCast.mpr (Nat.gcd_dvd_left p q)
  have gb : com (p : Int) (q : Int) ∣ (q : Int) := by rw [cg]; exact Int.natCast_dvd_natCast.mpr (Nat.gcd_dvd_right p q)
  have hB := bfs_ok (t := true) hz hx
  have hC := bfs_closed (t := true) hz hx
  have hC : ∀ y ∈ (bfs [(p : Int), (q : Int)] true [0, 0]).L, ∀ m ∈ allMoves 2 true, behind [(p : Int), (q : Int)] y m ∈ (bfs [(p : Int), (q : Int)] true [0, 0]).L := hC
  have m0 : Mv.pour 0 1 ∈ allMoves 2 true := by rw [moves2]; decide
  have m1 : Mv.pour 1 0 ∈ allMoves 2 true := by rw [moves2]; decide
  have m2 : Mv.fill 0 ∈ allMoves 2 true := by rw [moves2]; decide
  have m3 : Mv.fill 1 ∈ allMoves 2 true := by rw [moves2]; decide
  have m4 : Mv.empty 0 ∈ allMoves 2 true := by rw [moves2]; decide
  have m5 : Mv.empty 1 ∈ allMoves 2 true := by rw [moves2]; decide
  constructor
  · rintro ⟨y, hy, hv⟩
    obtain ⟨u, w, rfl, hu, hw⟩ := two_div ga gb y hy
    have hs := hB.ok _ hy
    have b0 := hs.bd 0 u (p : Int) rfl rfl
    have b1 := hs.bd 1 w (q : Int) rfl rfl
    simp only [List.mem_cons, List.not_mem_nil, or_false] at hv
    rcases hv with rfl | rfl
    · exact ⟨b0.1, by omega, hu⟩
    · exact ⟨b1.1, by omega, hw⟩
  · rintro ⟨v0, v1, vd⟩
    rw [cg] at vd
    by_cases c : p ≤ q
    · by_cases ce : v = (q : Int)
      · exact ⟨_, hC _ hB.st _ m3, by rw [ce]; show (q : Int) ∈ [(0 : Int), (q : Int)]; simp⟩
      · obtain ⟨k, hk⟩ := hit (p := p) (q := q) (by omega) v0 (by omega) vd
        have r := reach (R := fun u w => [u, w] ∈ (bfs [(p : Int), (q : Int)] true [0, 0]).L) (p := p) (q := q) hB.st (fun u w h => hC _ h _ m2) (fun u w h => hC _ h _ m5) (fun u w h => hC _ h _ m0) (by omega) (by omega) k
        rw [hk] at r
        exact ⟨_, r, by simp⟩
    · by_cases ce : v = (p : Int)
      · exact ⟨_, hC _ hB.st _ m2, by rw [ce]; show (p : Int) ∈ [(p : Int), (0 : Int)]; simp⟩
      · rw [Nat.gcd_comm] at vd
        obtain ⟨k, hk⟩ := hit (p := q) (q := p) (by omega) v0 (by omega) vd
        have r := reach (R := fun u w => [w, u] ∈ (bfs [(p : Int), (q : Int)] true [0, 0]).L) (p := q) (q := p) hB.st (fun u w h => hC _ h _ m3) (fun u w h => hC _ h _ m4) (fun u w h => hC _ h _ m1) (by omega) (by omega) k
        rw [hk] at r
        exact ⟨_, r, by simp⟩
theorem perm_of {l m : List Int} (hl : l.Nodup) (hm : m.Nodup) (h : ∀ v, v ∈ l ↔ v ∈ m) : l.Perm m := by
  rw [List.perm_iff_count]
  intro v
  rw [hl.count, hm.count]
  by_cases c : v ∈ l
  · rw [if_pos c, if_pos ((h v).mp c)]
  · rw [if_neg c, if_neg fun q => c ((h v).mpr q)]
theorem com_pos {a b : Int} : 1 ≤ com a b := (comTo_ok a b _).1
theorem two_sorted {a b : Int} (hz : HouseOk [a, b]) : sortI (amounts (sortT (bfs [a, b] true [0, 0]).L)) = (List.range ((max a b) / com a b + 1).toNat).map fun k : Nat => 0 + (k : Int) * com a b := by
  have h1 := hz.sz a (by simp)
  have h2 := hz.sz b (by simp)
  have hx := zero2 hz
  have hc := com_pos (a := a) (b := b)
  have hq : 0 ≤ max a b / com a b := Int.ediv_nonneg (by omega) (by omega)
  refine (sortI_uniq ?_ ?_).symm
  · refine perm_of ?_ (KsOk.all (fun y hy => st_bd hz (sort_ok (t := true) hz hx y hy)) KsOk.nil).nd fun v => ?_
    · refine List.pairwise_map.mpr (List.Pairwise.imp (fun {s t} hst e => ?_) (List.nodup_range (n := ((max a b) / com a b + 1).toNat)))
      have e2 : (s : Int) * com a b = (t : Int) * com a b := by omega
      have := Int.eq_of_mul_eq_mul_right (by omega) e2
      exact hst (by omega)
    · show v ∈ _ ↔ v ∈ amounts _
      rw [mem_amounts]
      have e : (∃ y ∈ sortT (bfs [a, b] true [0, 0]).L, v ∈ y) ↔ (∃ y ∈ (bfs [a, b] true [0, 0]).L, v ∈ y) := ⟨fun ⟨y, hy, h⟩ => ⟨y, (sortT_perm _).mem_iff.mp hy, h⟩, fun ⟨y, hy, h⟩ => ⟨y, (sortT_perm _).mem_iff.mpr hy, h⟩⟩
      rw [e, two hz]
      constructor
      · intro h
        obtain ⟨k, hk, rfl⟩ := List.mem_map.mp h
        have hk := List.mem_range.mp hk
        have k1 : (k : Int) ≤ max a b / com a b := by omega
        have k2 := Int.mul_le_of_le_ediv (by omega) k1
        have k0 : 0 ≤ (k : Int) * com a b := Int.mul_nonneg (by omega) (by omega)
        exact ⟨by omega, by omega, ⟨(k : Int), by rw [Int.mul_comm]; omega⟩⟩
      · rintro ⟨v0, v1, c, rfl⟩
        have c0 : 0 ≤ c := by
          rcases Int.lt_or_le c 0 with h | h
          · have : com a b * c < 0 := Int.mul_neg_of_pos_of_neg (by omega) h
            omega
          · exact h
        have c1 : c ≤ max a b / com a b := Int.le_ediv_of_mul_le (by omega) (by rw [Int.mul_comm]; exact v1)
        exact List.mem_map.mpr ⟨c.toNat, List.mem_range.mpr (by omega), by rw [Int.toNat_of_nonneg c0, Int.mul_comm]; omega⟩
  · refine List.pairwise_map.mpr (List.Pairwise.imp (fun {s t} hst => ?_) (List.pairwise_lt_range (n := ((max a b) / com a b + 1).toNat)))
    have : (s : Int) * com a b ≤ (t : Int) * com a b := Int.mul_le_mul_of_nonneg_right (by omega) (by omega)
    omega

end Jug


namespace Jug
open PySem PySem.Spec L2 PyProof.Rows J
section
variable {P : Program} {w : World} {K : PySem.W.Frag} {mg : Str → Option Value} {base : Heap} {C : Cs}
def R_cell (K : PySem.W.Frag) : Rel := fun es r => ∃ (ns : List Int) (k : Int), es = [.v (scrS K ns), .v (iS k)] ∧ 0 ≤ k ∧ r = .v (iS (cell ns k))
/-! ### _law_cell_at: slots 0:_law_script 1:_law_k -/
abbrev s__law_cell_at : Stmt := top 36
theorem sc__law_cell_at : FnScope ["_law_script", "_law_k"] ["_law_script", "_law_k"] (defScope s__law_cell_at) := ⟨rfl, rfl, rfl, by decide +kernel, rfl, by decide +kernel, by decide +kernel⟩
theorem ok__law_cell_at (T : Top K mg C) : CalX P w K mg base 1 "_law_cell_at" (SpOf (R_cell K)) := by
  obtain ⟨f, fd, F, hm, hb⟩ := T.d__law_cell_at.ex
  refine ⟨f, fd, _, fn_ok F sc__law_cell_at (by walk_at "len") (fun cdv A outer s H E hr => ⟨_, (pss_cons (ps_if (pt_cmpR op_lt (pv 1) (pe_callB (kc_len (K := K) rfl) (by rfl) T.n_len bt_len (pa_cons (pv 0) pa_nil)) (nomark _)) (pss_cons (ps_ret (ke_ix (K := K) rfl hr (pv 0) (pv 1) (fun _ _ => rfl) (fun _ _ => rfl))) pss_nil) pss_nil) (pss_cons (ps_ret pe_int) pss_nil)), ?_⟩), hm, F.kp, hb⟩

  rintro es r F σ Q ⟨ns, k, rfl, hk, rfl⟩ s kq
  simp only [J.cx_K, List.length_cons, List.length_nil, List.cons_append, List.nil_append, Nat.reduceAdd, Nat.reduceSub, List.reduceReplicate, List.append_nil] at s ⊢
  refine q_when s (et_B (ev_op (ev_v rfl) (ev_cb (by walk_at "args") cb_lenScr) op_I0)) (fun hb σ F H s => ?_) (fun hb σ F H s => ?_)
  · have hb := of_decide_eq_true hb
    exact q_ret s (ev_ix (ev_v rfl) (ev_v rfl) (jx_scr hk hb)) kq
  · have hb := of_decide_eq_false hb
    refine q_ret s (EvE.to ev_c ?_) kq
    unfold cell
    rw [List.getD_eq_getElem?_getD, List.getElem?_eq_none (by omega)]
    rfl
def primesL : List Int := [1000003, 1000033, 1000037, 1000039, 1000081, 1000099, 1000117, 1000121, 1000133, 1000151, 1000159, 1000171, 1000183, 1000187, 1000193, 1000199]
def primeAt (k : Int) : Int := primesL.getD (k % 16).toNat 1
def drw (c k m : Int) : Int := (c * 48271 + k * 69621) % primeAt k % m
theorem prime_get (k : Int) : primesL[(k % 16).toNat]? = some (primeAt k) := by
  have h : (k % 16).toNat < primesL.length := by
    show _ < 16
    omega
  unfold primeAt
  rw [List.getD_eq_getElem?_getD, List.getElem?_eq_getElem h]
  rfl
theorem prime_pos (k : Int) : 0 < primeAt k := by
  have h : (k % 16).toNat < 16 := by omega
  have : ∀ i < 16, 0 < primesL.getD i 1 := by decide
  exact this _ h
theorem drw_bd {c k m : Int} (h : 0 < m) : 0 ≤ drw c k m ∧ drw c k m < m := ⟨Int.emod_nonneg _ (by omega), Int.emod_lt_of_pos _ h⟩
def R_draw : Rel := fun es r => ∃ c k m : Int, es = [.v (iS c), .v (iS k), .v (iS m)] ∧ 0 < m ∧ r = .v (iS (drw c k m))
/-! ### _law_draw: slots 0:_law_cell 1:_law_k 2:_law_many 3:_law_primes -/
abbrev s__law_draw : Stmt := top 37
theorem sc__law_draw : FnScope ["_law_cell", "_law_k", "_law_many", "_law_primes"] ["_law_cell", "_law_k", "_law_many"] (defScope s__law_draw) := ⟨rfl, rfl, rfl, by decide +kernel, rfl, by decide +kernel, by decide +kernel⟩
theorem ok__law_draw (T : Top K mg C) : CalX P w K mg base 1 "_law_draw" (SpOf R_draw) := by
  obtain ⟨f, fd, F, hm, hb⟩ := T.d__law_draw.ex
  refine ⟨f, fd, _, fn_ok F sc__law_draw (by walk_at "len") (fun cdv A outer s H E hr => ⟨_, (pss_cons (ps_set (i := 3) sc__law_draw.nd rfl (Or.inl rfl) (pe_tup (pa_cons pe_int (pa_cons pe_int (pa_cons pe_int (pa_cons pe_int (pa_cons pe_int (pa_cons pe_int (pa_cons pe_int (pa_cons pe_int (pa_cons pe_int (pa_cons pe_int (pa_cons pe_int (pa_cons pe_int (pa_cons pe_int (pa_cons pe_int (pa_cons pe_int (pa_cons pe_int pa_nil)))))))))))))))))) (pss_cons (ps_ret (pe_op op_mod (pe_op op_mod (pe_op (ko_add (K := K) rfl) (pe_op jo_mul (pv 0) pe_int) (pe_op jo_mul (pv 1) pe_int)) (ke_ix (K := K) rfl hr (pv 3) (pe_op op_mod (pv 1) pe_int) (fun _ _ => rfl) (fun _ _ => rfl))) (pv 2))) pss_nil)), ?_⟩), hm, F.kp, hb⟩

  rintro es r F σ Q ⟨c, k, m, rfl, hm, rfl⟩ s kq
  simp only [J.cx_K, List.length_cons, List.length_nil, List.cons_append, List.nil_append, Nat.reduceAdd, Nat.reduceSub, List.reduceReplicate, List.append_nil] at s ⊢
  refine q_set s (S := tupS (primesL.map iS)) (EvE.to (by walk_at "ev") (by rfl)) fun σ F H s => ?_
  dsimp only [List.set, J.putS, List.nil_append, List.cons_append] at s
  refine q_ret s (ev_op (ev_op (ev_op (ev_op (ev_v rfl) ev_c (op_I (.inr ⟨by omega, by omega⟩))) (ev_op (ev_v rfl) ev_c (op_I (.inr ⟨by omega, by omega⟩))) jv_add) (ev_ix (ev_v rfl) (ev_op (ev_v rfl) ev_c (op_I (by omega))) (jx_t isR_v (Int.emod_nonneg _ (by omega)) (prime_get k))) (op_I (prime_pos k))) (ev_v rfl) (op_I hm)) kq

def R_common : Rel := fun es r => ∃ a b : Int, es = [.v (iS a), .v (iS b)] ∧ ((1 ≤ a ∧ a ≤ 60) ∧ (1 ≤ b ∧ b ≤ 60)) ∧ r = .v (iS (com a b))
/-! ### _law_common: slots 0:_law_one 1:_law_other 2:_law_found 3:_law_many -/
abbrev s__law_common : Stmt := top 38
theorem sc__law_common : FnScope ["_law_one", "_law_other", "_law_found", "_law_many"] ["_law_one", "_law_other"] (defScope s__law_common) := ⟨rfl, rfl, rfl, by decide +kernel, rfl, by decide +kernel, by decide +kernel⟩
theorem ok__law_common (T : Top K mg C) : CalX P w K mg base 1 "_law_common" (SpOf R_common) := by
  obtain ⟨f, fd, F, hm, hb⟩ := T.d__law_common.ex
  refine ⟨f, fd, _, fn_ok F sc__law_common (by walk_at "len") (fun cdv A outer s H E hr => ⟨_, (pss_cons (ps_set (i := 2) sc__law_common.nd rfl (Or.inl rfl) pe_int) (pss_cons (ps_for (passes_of rfl) rfl (pi_range2 (by rfl) T.n_range (pa_cons pe_int (pa_cons (pe_op (ko_add (K := K) rfl) (pe_callB (kc_min2 rfl) (by rfl) T.n_min bt_min (pa_cons (pv 0) (pa_cons (pv 1) pa_nil))) pe_int) pa_nil))) (pg_name (i := 3) sc__law_common.nd rfl (Or.inl rfl)) (pss_cons (ps_if (PW.pt (pw_and (pt_cmpR (ko_eq (K := K) rfl hr) (pe_op op_mod (pv 0) (pv 3)) pe_int (nomark _)) (pw_and1 (pt_cmpR (ko_eq (K := K) rfl hr) (pe_op op_mod (pv 1) (pv 3)) pe_int (nomark _))))) (pss_cons (ps_set (i := 2) sc__law_common.nd rfl (Or.inl rfl) (pv 3)) pss_nil) pss_nil) pss_nil)) (pss_cons (ps_ret (pv 2)) pss_nil))), ?_⟩), hm, F.kp, hb⟩

  rintro es r F σ Q ⟨a, b, rfl, ⟨ha, hb⟩, rfl⟩ s k
  simp only [J.cx_K, List.length_cons, List.length_nil, List.cons_append, List.nil_append, Nat.reduceAdd, Nat.reduceSub, List.reduceReplicate, List.append_nil] at s ⊢
  refine q_set s (S := iS 1) ev_c fun σ F H s => ?_
  dsimp only [List.set, J.putS, List.nil_append, List.cons_append] at s
  refine q_forR2 (n := (min a b + 1 - 2).toNat) (lo := 2) (hi := min a b + 1) s (by walk_at "args") rfl ⟨by omega, by omega⟩ (fun n d => ∃ e, d = [.v (iS a), .v (iS b), .v (iS (comTo a b n)), e]) ⟨_, rfl⟩ ?_ ?_
  · rintro n δ' σ F H hn ⟨e, rfl⟩ s
    dsimp only [List.set, J.putS, List.nil_append, List.cons_append] at s
    have hnx : comTo a b (n + 1) = cstep a b (comTo a b n) n := by
      unfold comTo
      rw [List.range_succ, List.foldl_append]
      rfl
    refine q_when s (et_and (et_B (ev_op (ev_op (ev_v rfl) (ev_v rfl) (op_I (by omega))) ev_c jv_eqi)) fun _ => et_B (ev_op (ev_op (ev_v rfl) (ev_v rfl) (op_I (by omega))) ev_c jv_eqi)) (fun hb σ F H s => ?_) (fun hb σ F H s => ?_)
    · simp only [Bool.and_eq_true, decide_eq_true_eq] at hb
      refine q_set s (ev_v rfl) fun σ F H s => ?_
      dsimp only [List.set, J.putS, List.nil_append, List.cons_append] at s
      exact q_nx s ⟨.v (iS (2 + (n : Int))), by rw [hnx]; unfold cstep; rw [if_pos hb]⟩
    · simp only [Bool.and_eq_false_iff, decide_eq_false_iff_not] at hb
      exact q_nx s ⟨.v (iS (2 + (n : Int))), by rw [hnx]; unfold cstep; rw [if_neg (by omega)]⟩
  · rintro δ' σ F H ⟨e, rfl⟩ s
    exact q_ret s (ev_v rfl) k
theorem rg_tab : ∀ m < 61, ∀ c < 61, 1 ≤ c → Builtin.Range.small 0 (((m : Nat) : Int) + 1) ((c : Nat) : Int) = true ∧ Builtin.Range.rangeSize 0 (((m : Nat) : Int) + 1) ((c : Nat) : Int) = m / c + 1 := by decide +kernel
theorem rg_ok {m c : Int} (h0 : 0 ≤ m) (h1 : m ≤ 60) (c1 : 1 ≤ c) (c2 : c ≤ 60) : RgC 0 (m + 1) c (m / c + 1).toNat := by
  obtain ⟨m, rfl⟩ := nat_of h0
  obtain ⟨c, rfl⟩ := nat_of (show 0 ≤ c by omega)
  obtain ⟨t1, t2⟩ := rg_tab m (by omega) c (by omega) (by omega)
  refine ⟨by omega, by omega, t1, ?_⟩
  rw [t2]
  have hq : 0 ≤ (m : Int) / (c : Int) := Int.ediv_nonneg (by omega) (by omega)
  omega
theorem house2 {a b : Int} (ha : 1 ≤ a ∧ a ≤ 60) (hb : 1 ≤ b ∧ b ≤ 60) (h : (a ≤ 20 ∧ b ≤ 20) ∨ a ≤ 6 ∨ b ≤ 6) : HouseOk [a, b] := by
  refine ⟨by show 1 ≤ 2; decide, by show 2 ≤ 4; decide, fun x hx => ?_, ?_⟩
  · simp only [List.mem_cons, List.not_mem_nil, or_false] at hx
    rcases hx with rfl | rfl
    · exact ha
    · exact hb
  · show 1 * (a + 1) * (b + 1) ≤ 2000
    rw [Int.one_mul]
    rcases h with h | h | h
    · have := Int.mul_le_mul (show a + 1 ≤ 21 by omega) (show b + 1 ≤ 21 by omega) (by omega) (by omega)
      omega
    · have := Int.mul_le_mul (show a + 1 ≤ 7 by omega) (show b + 1 ≤ 61 by omega) (by omega) (by omega)
      omega
    · have := Int.mul_le_mul (show a + 1 ≤ 61 by omega) (show b + 1 ≤ 7 by omega) (by omega) (by omega)
      omega
theorem house2r {a b : Int} (h : HouseOk [a, b]) : HouseOk [b, a] := by
  refine ⟨h.l1, h.l4, fun x hx => h.sz x ?_, ?_⟩
  · simp only [List.mem_cons, List.not_mem_nil, or_false] at hx ⊢
    exact hx.symm
  · have e : 1 * (a + 1) * (b + 1) ≤ 2000 := h.pr
    show 1 * (b + 1) * (a + 1) ≤ 2000
    rw [Int.one_mul] at e ⊢
    rw [Int.mul_comm]
    exact e
def R_law (K : PySem.W.Frag) : Rel := fun es r => ∃ ns : List Int, es = [.v (scrS K ns)] ∧ r = .v (bS true)
/-! ### law: slots 0:_law_script 1:_law_sizes 2:_law_house 3:_law_step 4:_law_many 5:_law_found -/
abbrev s_law : Stmt := top 39
theorem sc_law : FnScope ["_law_script", "_law_sizes", "_law_house", "_law_step", "_law_many", "_law_found"] ["_law_script"] (defScope s_law) := ⟨rfl, rfl, rfl, by decide +kernel, rfl, by decide +kernel, by decide +kernel⟩
theorem ok_law_at (T : Top K mg C) {f : Addr} {fd : FuncData} (F : Fun K "law" "law" s_law f fd) : FnOk P w K mg base (L2.CX P w) 9 f fd ["_law_script"] (SpOf (R_law K)) := by
  refine fn_ok F sc_law (by walk_at "len") (fun cdv A outer s H E hr => ⟨_, (pss_cons (ps_set (i := 1) sc_law.nd rfl (Or.inl rfl) (pe_lst (pa_cons (pe_op (ko_add (K := K) rfl) pe_int (pe_cX (ok__law_draw T) hr (by decide) px_of (by rfl) (pa_cons (pe_cX (ok__law_cell_at T) hr (by decide) px_of (by rfl) (pa_cons (pv 0) (pa_cons pe_int pa_nil))) (pa_cons pe_int (pa_cons pe_int pa_nil))))) (pa_cons (pe_op (ko_add (K := K) rfl) pe_int (pe_cX (ok__law_draw T) hr (by decide) px_of (by rfl) (pa_cons (pe_cX (ok__law_cell_at T) hr (by decide) px_of (by rfl) (pa_cons (pv 0) (pa_cons pe_int pa_nil))) (pa_cons pe_int (pa_cons pe_int pa_nil))))) pa_nil)))) (pss_cons (ps_if (pt_cmpR (ko_eq (K := K) rfl hr) (pe_cX (ok__law_draw T) hr (by decide) px_of (by rfl) (pa_cons (pe_cX (ok__law_cell_at T) hr (by decide) px_of (by rfl) (pa_cons (pv 0) (pa_cons pe_int pa_nil))) (pa_cons pe_int (pa_cons pe_int pa_nil)))) pe_int (nomark _)) (pss_cons (ps_set (i := 1) sc_law.nd rfl (Or.inl rfl) (pe_lst (pa_cons (pe_op (ko_add (K := K) rfl) pe_int (pe_cX (ok__law_draw T) hr (by decide) px_of (by rfl) (pa_cons (pe_cX (ok__law_cell_at T) hr (by decide) px_of (by rfl) (pa_cons (pv 0) (pa_cons pe_int pa_nil))) (pa_cons pe_int (pa_cons pe_int pa_nil))))) (pa_cons (pe_op (ko_add (K := K) rfl) pe_int (pe_cX (ok__law_draw T) hr (by decide) px_of (by rfl) (pa_cons (pe_cX (ok__law_cell_at T) hr (by decide) px_of (by rfl) (pa_cons (pv 0) (pa_cons pe_int pa_nil))) (pa_cons pe_int (pa_cons pe_int pa_nil))))) pa_nil)))) pss_nil) pss_nil) (pss_cons (ps_if (pt_cmpR (ko_eq (K := K) rfl hr) (pe_cX (ok__law_draw T) hr (by decide) px_of (by rfl) (pa_cons (pe_cX (ok__law_cell_at T) hr (by decide) px_of (by rfl) (pa_cons (pv 0) (pa_cons pe_int pa_nil))) (pa_cons pe_int (pa_cons pe_int pa_nil)))) pe_int (nomark _)) (pss_cons (ps_set (i := 1) sc_law.nd rfl (Or.inl rfl) (pe_revL (pv 1))) pss_nil) pss_nil) (pss_cons (ps_set (i := 2) sc_law.nd rfl (Or.inl rfl) (pe_mkX (ok_House___init__ T) hr (by decide) px_of (by rfl) (pa_cons (pv 1) (pa_cons pe_bl pa_nil)))) (pss_cons (ps_set (i := 3) sc_law.nd rfl (Or.inl rfl) (pe_cX (ok__law_common T) hr (by decide) px_of (by rfl) (pa_cons (ke_ix (K := K) rfl hr (pv 1) pe_int (fun _ _ => rfl) (fun _ _ => rfl)) (pa_cons (ke_ix (K := K) rfl hr (pv 1) pe_int (fun _ _ => rfl) (fun _ _ => rfl)) pa_nil)))) (pss_cons (ps_if (pt_cmpR (ko_ne (K := K) rfl hr) (pe_cX (ok_measured T) hr (by decide) px_of (by rfl) (pa_cons (pv 2) (pa_cons (pe_mtX0 (ok_House_empty T T.m_House_empty) hr (by decide) px_of (pv 2)) pa_nil))) (pe_listRg3 rfl (by rfl) T.n_list (by rfl) T.n_range (pa_cons pe_int (pa_cons (pe_op (ko_add (K := K) rfl) (pe_callB (kc_max (K := K) rfl rfl) (by rfl) T.n_max bt_max (pa_cons (pv 1) pa_nil)) pe_int) (pa_cons (pv 3) pa_nil)))) (nomark _)) (pss_cons (ps_ret pe_bl) pss_nil) pss_nil) (pss_cons (ps_set (i := 4) sc_law.nd rfl (Or.inl rfl) (pe_cX (ok__law_draw T) hr (by decide) px_of (by rfl) (pa_cons (pe_cX (ok__law_cell_at T) hr (by decide) px_of (by rfl) (pa_cons (pv 0) (pa_cons pe_int pa_nil))) (pa_cons pe_int (pa_cons (pe_op (ko_add (K := K) rfl) (pe_callB (kc_max (K := K) rfl rfl) (by rfl) T.n_max bt_max (pa_cons (pv 1) pa_nil)) pe_int) pa_nil))))) (pss_cons (ps_set (i := 5) sc_law.nd rfl (Or.inl rfl) (pe_cX (ok_fewest T) hr (by decide) px_of (by rfl) (pa_cons (pv 2) (pa_cons (pe_mtX0 (ok_House_empty T T.m_House_empty) hr (by decide) px_of (pv 2)) (pa_cons (pe_mkX (ok_Some___init__ T) hr (by decide) px_of (by rfl) (pa_cons (pv 4) pa_nil)) pa_nil))))) (pss_cons (ps_if (PW.pt (pw_and (pt_cmpR (ko_eq (K := K) rfl hr) (pe_op op_mod (pv 4) (pv 3)) pe_int (nomark _)) (pw_and1 (pt_cmpR op_le (pv 4) (pe_callB (kc_max (K := K) rfl rfl) (by rfl) T.n_max bt_max (pa_cons (pv 1) pa_nil)) (nomark _))))) (pss_cons (ps_ret (pe_callB (kc_isi (K := K) rfl) (by rfl) T.n_isinstance bt_isinstance (pa_cons (pv 5) (pa_cons (C8.pe_gc (by rfl) T.k_Poured) pa_nil)))) pss_nil) pss_nil) (pss_cons (ps_ret (pe_callB (kc_isi (K := K) rfl) (by rfl) T.n_isinstance bt_isinstance (pa_cons (pv 5) (pa_cons (C8.pe_gc (by rfl) T.k_Barred) pa_nil)))) pss_nil)))))))))), ?_⟩)

  rintro es r F σ Q ⟨ns, rfl, rfl⟩ s k
  simp only [J.cx_K, List.length_cons, List.length_nil, List.cons_append, List.nil_append, Nat.reduceAdd, Nat.reduceSub, List.reduceReplicate, List.append_nil] at s ⊢
  have d0 := drw_bd (c := cell ns 0) (k := 0) (m := 20) (by omega)
  have d1 := drw_bd (c := cell ns 0) (k := 1) (m := 20) (by omega)
  have d3 := drw_bd (c := cell ns 0) (k := 3) (m := 6) (by omega)
  have d4 := drw_bd (c := cell ns 0) (k := 4) (m := 60) (by omega)
  refine q_setO s (o := lstO ([1 + drw (cell ns 0) 0 20, 1 + drw (cell ns 0) 1 20].map iS)) (eo_lstN (ea_consV (ev_op ev_c (ev_call (ea_cons (ev_call (by walk_at "args") ⟨ns, 0, rfl, by omega, rfl⟩) (by walk_at "args")) ⟨_, 0, 20, rfl, by omega, rfl⟩) jv_add) (ea_consV (ev_op ev_c (ev_call (ea_cons (ev_call (by walk_at "args") ⟨ns, 0, rfl, by omega, rfl⟩) (by walk_at "args")) ⟨_, 1, 20, rfl, by omega, rfl⟩) jv_add) ea_nilV)) (Nat.le_of_ble_eq_true rfl)) fun σ F H s => ?_
  dsimp only [List.set, J.putS, List.nil_append, List.cons_append] at s
  refine q_ifJ (fun d => ∃ a b : Int, HouseOk [a, b] ∧ d = [.v (scrS K ns), .ow (lstO ([a, b].map iS)), .un, .un, .un, .un]) s (et_B (ev_op (ev_call (ea_cons (ev_call (by walk_at "args") ⟨ns, 1, rfl, by omega, rfl⟩) (by walk_at "args")) ⟨_, 2, 4, rfl, by omega, rfl⟩) ev_c jv_eqi)) ?_ (fun kk hb σ F H s => ?_) (fun kk hb σ F H s => q_thru (kk _ σ F H ⟨_, _, house2 (by omega) (by omega) (by omega), rfl⟩ s))
  · rintro δ' σ F H ⟨a, b, hz, rfl⟩ s
    refine q_ifJ (fun d => ∃ a b : Int, HouseOk [a, b] ∧ d = [.v (scrS K ns), .ow (lstO ([a, b].map iS)), .un, .un, .un, .un]) s (et_B (ev_op (ev_call (ea_cons (ev_call (by walk_at "args") ⟨ns, 1, rfl, by omega, rfl⟩) (by walk_at "args")) ⟨_, 3, 2, rfl, by omega, rfl⟩) ev_c jv_eqi)) ?_ (fun kk hb σ F H s => ?_) (fun kk hb σ F H s => q_thru (kk _ σ F H ⟨a, b, hz, rfl⟩ s))
    · clear hz
      rintro δ' σ F H ⟨a, b, hz, rfl⟩ s
      have h1 := hz.sz a (by simp)
      have h2 := hz.sz b (by simp)
      have hc := com_pos (a := a) (b := b)
      have hx := zero2 hz
      have hcm : com a b ≤ 60 := by
        have := Int.le_of_dvd (by omega) (comTo_ok a b (min a b + 1 - 2).toNat).2.1
        show comTo a b _ ≤ 60
        omega
      refine q_set s (S := houseS C [a, b] true) (ev_make (ea_cons (ev_ow rfl) (by walk_at "args")) ⟨[a, b], true, rfl, hz, rfl⟩) fun σ F H s => ?_
      dsimp only [List.set, J.putS, List.nil_append, List.cons_append] at s
      refine q_set s (ev_call (ea_cons (ev_ix (ev_ow rfl) ev_c (jx_l (xs := [a, b]) (a := a) isR_b (by decide) rfl)) (ea_cons (ev_ix (ev_ow rfl) ev_c (jx_l (xs := [a, b]) (a := b) isR_b (by decide) rfl)) ea_nil)) ⟨a, b, rfl, ⟨h1, h2⟩, rfl⟩) fun σ F H s => ?_
      dsimp only [List.set, J.putS, List.nil_append, List.cons_append] at s
      have emp : ∀ {δ : List Ent} {E : XK}, δ[2]? = some (.v (houseS C [a, b] true)) → EvE (tMeth C.House "empty" (SpOf (R_empty C)) [] E (tVar 2) tNil) δ (.v (stS [0, 0])) := fun h => ev_meth (ev_v h) (by walk_at "lk") ea_nil ⟨[a, b], true, rfl, (by show 2 ≤ 4; decide), rfl⟩
      have mx : ∀ {δ : List Ent}, δ[1]? = some (.ow (lstO ([a, b].map iS))) → EvE (tCB (rMax K) (tCons (tVar 1) tNil)) δ (.v (iS (max a b))) := fun h => ev_cb (ea_cons (ev_ow h) ea_nil) (cb_maxl (ns := [a, b]) isR_b (by simp only [List.mem_cons, List.not_mem_nil, or_false]; omega) (by intro y hy; simp only [List.mem_cons, List.not_mem_nil, or_false] at hy; omega))
      refine q_whenF s (et_B (ev_op (EvO.b (eo_call (ea_cons (ev_v rfl) (ea_cons (emp rfl) ea_nil)) ⟨[a, b], true, [0, 0], rfl, ⟨hz, hx⟩, rfl⟩)) (EvO.b (eo_listRg3 (ea_cons ev_c (ea_cons (ev_op (mx rfl) ev_c jv_add) (ea_cons (ev_v rfl) ea_nil))) (rg_ok (by omega) (by omega) hc hcm) (by
        have : max a b / com a b ≤ max a b := Int.ediv_le_self _ (by omega)
        omega))) (jv_neSame (dat_il isR_b) (dat_il (.inl (by rw [two_sorted hz])))))) (by rfl) fun σ F H s => ?_
      have dm := drw_bd (c := cell ns 2) (k := 4) (m := max a b + 2) (by omega)
      refine q_set s (ev_call (ea_cons (ev_call (by walk_at "args") ⟨ns, 2, rfl, by omega, rfl⟩) (ea_cons ev_c (ea_cons (ev_op (mx rfl) ev_c jv_add) ea_nil))) ⟨_, 4, max a b + 2, rfl, by omega, rfl⟩) fun σ F H s => ?_
      dsimp only [List.set, J.putS, List.nil_append, List.cons_append] at s
      generalize drw (cell ns 2) 4 (max a b + 2) = m at s dm
      refine q_set s (ev_call (ea_cons (ev_v rfl) (ea_cons (emp rfl) (ea_cons (ev_make (by walk_at "args") ⟨m, rfl, by omega, rfl⟩) ea_nil))) ⟨[a, b], true, [0, 0], m, rfl, ⟨hz, hx, True.intro⟩, rfl⟩) fun σ F H s => ?_
      dsimp only [List.set, J.putS, List.nil_append, List.cons_append] at s
      have tw := two hz m
      refine q_when s (et_and (et_B (ev_op (ev_op (ev_v rfl) (ev_v rfl) (op_I (by omega))) ev_c jv_eqi)) fun _ => et_B (ev_op (ev_v rfl) (mx rfl) op_I0)) (fun hb σ F H s => ?_) (fun hb σ F H s => ?_)
      · simp only [Bool.and_eq_true, decide_eq_true_eq] at hb
        obtain ⟨y, hy, hv⟩ := tw.mpr ⟨dm.1, hb.2, Int.dvd_of_emod_eq_zero hb.1⟩
        obtain ⟨w, hw⟩ : ∃ w, (bfs [a, b] true [0, 0]).L.find? (fun y => metG y m) = some w := by
          cases e : (bfs [a, b] true [0, 0]).L.find? fun y => metG y m with
          | some w => exact ⟨w, rfl⟩
          | none => exact absurd (decide_eq_true hv) (List.find?_eq_none.mp e y hy)
        have ea : answer C m (bfs [a, b] true [0, 0]) = objS C.Poured (pourdF C (way (bfs [a, b] true [0, 0]).ah 2000 w) ((bfs [a, b] true [0, 0]).L.map fun y => (y, hOf (bfs [a, b] true [0, 0]).hs y))) := by
          unfold answer
          rw [hw]
        rw [ea] at s
        exact q_ret s (ev_cb (by walk_at "args") (cb_isi (ty_ins T.ik_Poured isR_v) (.own _) T.is_Poured_Poured)) k
      · simp only [Bool.and_eq_false_iff, decide_eq_false_iff_not] at hb
        have hn : (bfs [a, b] true [0, 0]).L.find? (fun y => metG y m) = none := by
          rw [List.find?_eq_none]
          intro y hy c
          obtain ⟨q1, q2, q3⟩ := tw.mp ⟨y, hy, of_decide_eq_true c⟩
          have := Int.emod_eq_zero_of_dvd q3
          omega
        have ea : answer C m (bfs [a, b] true [0, 0]) = objS C.Barred (barF (bfs [a, b] true [0, 0]).L) := by
          unfold answer
          rw [hn]
        rw [ea] at s
        exact q_ret s (ev_cb (by walk_at "args") (cb_isi (ty_ins T.ik_Barred isR_v) (.own _) T.is_Barred_Barred)) k
    · refine q_setO s (eo_revL (ev_ow rfl) isR_b) fun σ F H s => ?_
      dsimp only [List.set, J.putS, List.nil_append, List.cons_append] at s
      exact q_thru (kk _ σ F H ⟨b, a, house2r hz, rfl⟩ s)
  · refine q_setO s (o := lstO ([1 + drw (cell ns 0) 3 6, 1 + drw (cell ns 0) 4 60].map iS)) (eo_lstN (ea_consV (ev_op ev_c (ev_call (ea_cons (ev_call (by walk_at "args") ⟨ns, 0, rfl, by omega, rfl⟩) (by walk_at "args")) ⟨_, 3, 6, rfl, by omega, rfl⟩) jv_add) (ea_consV (ev_op ev_c (ev_call (ea_cons (ev_call (by walk_at "args") ⟨ns, 0, rfl, by omega, rfl⟩) (by walk_at "args")) ⟨_, 4, 60, rfl, by omega, rfl⟩) jv_add) ea_nilV)) (Nat.le_of_ble_eq_true rfl)) fun σ F H s => ?_
    dsimp only [List.set, J.putS, List.nil_append, List.cons_append] at s
    exact q_thru (kk _ σ F H ⟨_, _, house2 (by omega) (by omega) (by omega), rfl⟩ s)
end
end Jug
namespace Jug
open PySem PySem.Spec L2 PyProof.Rows J
section
theorem all_mk {l : PySem.W.OpenLaw} {w : World} {K : PySem.W.Frag} {h : Heap} {mg : Str → Option Value} {fa : Addr} (X : K.In h) (G : h.Ns mainGlobals mg) (hfa : mg "law" = some (.ref fa))
    {c_Pour : Addr}
    {c_Fill : Addr}
    {c_Empty : Addr}
    {c_Goal : Addr}
    {c_Some : Addr}
    {c_Poured : Addr}
    {c_Barred : Addr}
    {c_House : Addr}
    {f0 : Addr} {od0 an0 : Option Addr} {sl0 : Array (Option Value)} {oc0 kV0 dc0 pm0 cd0 ct0 : Value}
    {f1 : Addr} {od1 an1 : Option Addr} {sl1 : Array (Option Value)} {oc1 kV1 dc1 pm1 cd1 ct1 : Value}
    {f2 : Addr} {od2 an2 : Option Addr} {sl2 : Array (Option Value)} {oc2 kV2 dc2 pm2 cd2 ct2 : Value}
    {f3 : Addr} {od3 an3 : Option Addr} {sl3 : Array (Option Value)} {oc3 kV3 dc3 pm3 cd3 ct3 : Value}
    {f4 : Addr} {od4 an4 : Option Addr} {sl4 : Array (Option Value)} {oc4 kV4 dc4 pm4 cd4 ct4 : Value}
    {f5 : Addr} {od5 an5 : Option Addr} {sl5 : Array (Option Value)} {oc5 kV5 dc5 pm5 cd5 ct5 : Value}
    {f6 : Addr} {od6 an6 : Option Addr} {sl6 : Array (Option Value)} {oc6 kV6 dc6 pm6 cd6 ct6 : Value}
    {f7 : Addr} {od7 an7 : Option Addr} {sl7 : Array (Option Value)} {oc7 kV7 dc7 pm7 cd7 ct7 : Value}
    {f8 : Addr} {od8 an8 : Option Addr} {sl8 : Array (Option Value)} {oc8 kV8 dc8 pm8 cd8 ct8 : Value}
    {f9 : Addr} {od9 an9 : Option Addr} {sl9 : Array (Option Value)} {oc9 kV9 dc9 pm9 cd9 ct9 : Value}
    {f10 : Addr} {od10 an10 : Option Addr} {sl10 : Array (Option Value)} {oc10 kV10 dc10 pm10 cd10 ct10 : Value}
    {f11 : Addr} {od11 an11 : Option Addr} {sl11 : Array (Option Value)} {oc11 kV11 dc11 pm11 cd11 ct11 : Value}
    {f12 : Addr} {od12 an12 : Option Addr} {sl12 : Array (Option Value)} {oc12 kV12 dc12 pm12 cd12 ct12 : Value}
    {f13 : Addr} {od13 an13 : Option Addr} {sl13 : Array (Option Value)} {oc13 kV13 dc13 pm13 cd13 ct13 : Value}
    {f14 : Addr} {od14 an14 : Option Addr} {sl14 : Array (Option Value)} {oc14 kV14 dc14 pm14 cd14 ct14 : Value}
    {f15 : Addr} {od15 an15 : Option Addr} {sl15 : Array (Option Value)} {oc15 kV15 dc15 pm15 cd15 ct15 : Value}
    {f16 : Addr} {od16 an16 : Option Addr} {sl16 : Array (Option Value)} {oc16 kV16 dc16 pm16 cd16 ct16 : Value}
    {c_BadHouse : Addr}
    {c_BadState : Addr}
    {c_BadMove : Addr}
    {c_BadGoal : Addr}
    {u_MOST_JUGS : Value}
    {u_MOST : Value}
    {u_GREATEST : Value}
    {u_MOST_STATES : Value}
    {f17 : Addr} {od17 an17 : Option Addr} {sl17 : Array (Option Value)} {oc17 kV17 dc17 pm17 cd17 ct17 : Value}
    {f18 : Addr} {od18 an18 : Option Addr} {sl18 : Array (Option Value)} {oc18 kV18 dc18 pm18 cd18 ct18 : Value}
    {f19 : Addr} {od19 an19 : Option Addr} {sl19 : Array (Option Value)} {oc19 kV19 dc19 pm19 cd19 ct19 : Value}
    {f20 : Addr} {od20 an20 : Option Addr} {sl20 : Array (Option Value)} {oc20 kV20 dc20 pm20 cd20 ct20 : Value}
    {f21 : Addr} {od21 an21 : Option Addr} {sl21 : Array (Option Value)} {oc21 kV21 dc21 pm21 cd21 ct21 : Value}
    {f22 : Addr} {od22 an22 : Option Addr} {sl22 : Array (Option Value)} {oc22 kV22 dc22 pm22 cd22 ct22 : Value}
    {f23 : Addr} {od23 an23 : Option Addr} {sl23 : Array (Option Value)} {oc23 kV23 dc23 pm23 cd23 ct23 : Value}
    {f24 : Addr} {od24 an24 : Option Addr} {sl24 : Array (Option Value)} {oc24 kV24 dc24 pm24 cd24 ct24 : Value}
    {f25 : Addr} {od25 an25 : Option Addr} {sl25 : Array (Option Value)} {oc25 kV25 dc25 pm25 cd25 ct25 : Value}
    {f26 : Addr} {od26 an26 : Option Addr} {sl26 : Array (Option Value)} {oc26 kV26 dc26 pm26 cd26 ct26 : Value}
    {f27 : Addr} {od27 an27 : Option Addr} {sl27 : Array (Option Value)} {oc27 kV27 dc27 pm27 cd27 ct27 : Value}
    {f28 : Addr} {od28 an28 : Option Addr} {sl28 : Array (Option Value)} {oc28 kV28 dc28 pm28 cd28 ct28 : Value}
    {f29 : Addr} {od29 an29 : Option Addr} {sl29 : Array (Option Value)} {oc29 kV29 dc29 pm29 cd29 ct29 : Value}
    (ac_Pour : PySem.W.nsIn K mainGlobals "Pour" = some (some (.ref c_Pour)))
    (ac_Fill : PySem.W.nsIn K mainGlobals "Fill" = some (some (.ref c_Fill)))
    (ac_Empty : PySem.W.nsIn K mainGlobals "Empty" = some (some (.ref c_Empty)))
    (ac_Goal : PySem.W.nsIn K mainGlobals "Goal" = some (some (.ref c_Goal)))
    (ac_Some : PySem.W.nsIn K mainGlobals "Some" = some (some (.ref c_Some)))
    (ac_Poured : PySem.W.nsIn K mainGlobals "Poured" = some (some (.ref c_Poured)))
    (ac_Barred : PySem.W.nsIn K mainGlobals "Barred" = some (some (.ref c_Barred)))
    (ac_House : PySem.W.nsIn K mainGlobals "House" = some (some (.ref c_House)))
    (pg_Pour : PySem.W.plainGet K c_Pour Str.empty = true)
    (hd_Pour : PySem.W.hasDictIn K c_Pour = true)
    (po_Pour : PySem.W.plainOver K c_Pour = true)
    (sa_Pour : PySem.W.findIn K (.ref c_Pour) "__setattr__" = some (some (.builtin "object.__setattr__")))
    (pg_Fill : PySem.W.plainGet K c_Fill Str.empty = true)
    (hd_Fill : PySem.W.hasDictIn K c_Fill = true)
    (po_Fill : PySem.W.plainOver K c_Fill = true)
    (sa_Fill : PySem.W.findIn K (.ref c_Fill) "__setattr__" = some (some (.builtin "object.__setattr__")))
    (pg_Empty : PySem.W.plainGet K c_Empty Str.empty = true)
    (hd_Empty : PySem.W.hasDictIn K c_Empty = true)
    (po_Empty : PySem.W.plainOver K c_Empty = true)
    (sa_Empty : PySem.W.findIn K (.ref c_Empty) "__setattr__" = some (some (.builtin "object.__setattr__")))
    (pg_Some : PySem.W.plainGet K c_Some Str.empty = true)
    (hd_Some : PySem.W.hasDictIn K c_Some = true)
    (po_Some : PySem.W.plainOver K c_Some = true)
    (sa_Some : PySem.W.findIn K (.ref c_Some) "__setattr__" = some (some (.builtin "object.__setattr__")))
    (pg_Poured : PySem.W.plainGet K c_Poured Str.empty = true)
    (hd_Poured : PySem.W.hasDictIn K c_Poured = true)
    (po_Poured : PySem.W.plainOver K c_Poured = true)
    (sa_Poured : PySem.W.findIn K (.ref c_Poured) "__setattr__" = some (some (.builtin "object.__setattr__")))
    (pg_Barred : PySem.W.plainGet K c_Barred Str.empty = true)
    (hd_Barred : PySem.W.hasDictIn K c_Barred = true)
    (po_Barred : PySem.W.plainOver K c_Barred = true)
    (sa_Barred : PySem.W.findIn K (.ref c_Barred) "__setattr__" = some (some (.builtin "object.__setattr__")))
    (pg_House : PySem.W.plainGet K c_House Str.empty = true)
    (hd_House : PySem.W.hasDictIn K c_House = true)
    (po_House : PySem.W.plainOver K c_House = true)
    (sa_House : PySem.W.findIn K (.ref c_House) "__setattr__" = some (some (.builtin "object.__setattr__")))
    (nf_Pour_one : PySem.W.findIn K (.ref c_Pour) "one" = some none)
    (nf_Pour_other : PySem.W.findIn K (.ref c_Pour) "other" = some none)
    (ai_Pour : PySem.W.findIn K (.ref c_Pour) "__init__" = some (some (.ref f0)))
    (l0 : K.lookup f0 = some ⟨oc0, od0, .func (PySem.W.fnOf "__init__" "Pour.__init__" (defArgs (inClass (top 17) 0)) (defBody (inClass (top 17) 0)) (defScope (inClass (top 17) 0)) .none kV0 dc0 pm0 an0 cd0 ct0), sl0⟩)
    (c0 : PySem.W.codeIn K cd0 "Pour.__init__" = true)
    (k0 : PySem.W.keepIn K (.ref f0) = true)
    (ji_Pour : PySem.W.isFn K (.ref f0) = true)
    (mk_Pour : PySem.W.makesIn K c_Pour = true)
    (kc_Pour : PySem.W.keepIn K (.ref c_Pour) = true)
    (am_Pour_behind : PySem.W.findIn K (.ref c_Pour) "behind" = some (some (.ref f1)))
    (l1 : K.lookup f1 = some ⟨oc1, od1, .func (PySem.W.fnOf "behind" "Pour.behind" (defArgs (inClass (top 17) 2)) (defBody (inClass (top 17) 2)) (defScope (inClass (top 17) 2)) .none kV1 dc1 pm1 an1 cd1 ct1), sl1⟩)
    (c1 : PySem.W.codeIn K cd1 "Pour.behind" = true)
    (k1 : PySem.W.keepIn K (.ref f1) = true)
    (jm_Pour_behind : PySem.W.isFn K (.ref f1) = true)
    (nf_Fill_jug : PySem.W.findIn K (.ref c_Fill) "jug" = some none)
    (ai_Fill : PySem.W.findIn K (.ref c_Fill) "__init__" = some (some (.ref f2)))
    (l2 : K.lookup f2 = some ⟨oc2, od2, .func (PySem.W.fnOf "__init__" "Fill.__init__" (defArgs (inClass (top 18) 0)) (defBody (inClass (top 18) 0)) (defScope (inClass (top 18) 0)) .none kV2 dc2 pm2 an2 cd2 ct2), sl2⟩)
    (c2 : PySem.W.codeIn K cd2 "Fill.__init__" = true)
    (k2 : PySem.W.keepIn K (.ref f2) = true)
    (ji_Fill : PySem.W.isFn K (.ref f2) = true)
    (mk_Fill : PySem.W.makesIn K c_Fill = true)
    (kc_Fill : PySem.W.keepIn K (.ref c_Fill) = true)
    (am_Fill_behind : PySem.W.findIn K (.ref c_Fill) "behind" = some (some (.ref f3)))
    (l3 : K.lookup f3 = some ⟨oc3, od3, .func (PySem.W.fnOf "behind" "Fill.behind" (defArgs (inClass (top 18) 2)) (defBody (inClass (top 18) 2)) (defScope (inClass (top 18) 2)) .none kV3 dc3 pm3 an3 cd3 ct3), sl3⟩)
    (c3 : PySem.W.codeIn K cd3 "Fill.behind" = true)
    (k3 : PySem.W.keepIn K (.ref f3) = true)
    (jm_Fill_behind : PySem.W.isFn K (.ref f3) = true)
    (nf_Empty_jug : PySem.W.findIn K (.ref c_Empty) "jug" = some none)
    (ai_Empty : PySem.W.findIn K (.ref c_Empty) "__init__" = some (some (.ref f4)))
    (l4 : K.lookup f4 = some ⟨oc4, od4, .func (PySem.W.fnOf "__init__" "Empty.__init__" (defArgs (inClass (top 19) 0)) (defBody (inClass (top 19) 0)) (defScope (inClass (top 19) 0)) .none kV4 dc4 pm4 an4 cd4 ct4), sl4⟩)
    (c4 : PySem.W.codeIn K cd4 "Empty.__init__" = true)
    (k4 : PySem.W.keepIn K (.ref f4) = true)
    (ji_Empty : PySem.W.isFn K (.ref f4) = true)
    (mk_Empty : PySem.W.makesIn K c_Empty = true)
    (kc_Empty : PySem.W.keepIn K (.ref c_Empty) = true)
    (am_Empty_behind : PySem.W.findIn K (.ref c_Empty) "behind" = some (some (.ref f5)))
    (l5 : K.lookup f5 = some ⟨oc5, od5, .func (PySem.W.fnOf "behind" "Empty.behind" (defArgs (inClass (top 19) 2)) (defBody (inClass (top 19) 2)) (defScope (inClass (top 19) 2)) .none kV5 dc5 pm5 an5 cd5 ct5), sl5⟩)
    (c5 : PySem.W.codeIn K cd5 "Empty.behind" = true)
    (k5 : PySem.W.keepIn K (.ref f5) = true)
    (jm_Empty_behind : PySem.W.isFn K (.ref f5) = true)
    (ha_Some : PySem.W.findIn K (.ref c_Some) "__class__" = some (some (.builtin "object.__class__")))
    (hm_Some : PySem.W.mroIn K c_Some (.type "object") = some true)
    (hn : PySem.W.specialIn K (.builtin "object.__class__") "__get__" = some (some (.builtin "getset_descriptor.__get__")))
    (tk : PySem.W.takesIn K (.builtin "object.__class__") = some true)
    (nf_Some_many : PySem.W.findIn K (.ref c_Some) "many" = some none)
    (ai_Some : PySem.W.findIn K (.ref c_Some) "__init__" = some (some (.ref f6)))
    (l6 : K.lookup f6 = some ⟨oc6, od6, .func (PySem.W.fnOf "__init__" "Some.__init__" (defArgs (inClass (top 24) 0)) (defBody (inClass (top 24) 0)) (defScope (inClass (top 24) 0)) .none kV6 dc6 pm6 an6 cd6 ct6), sl6⟩)
    (c6 : PySem.W.codeIn K cd6 "Some.__init__" = true)
    (k6 : PySem.W.keepIn K (.ref f6) = true)
    (ji_Some : PySem.W.isFn K (.ref f6) = true)
    (mk_Some : PySem.W.makesIn K c_Some = true)
    (kc_Some : PySem.W.keepIn K (.ref c_Some) = true)
    (am_Some_fits : PySem.W.findIn K (.ref c_Some) "fits" = some (some (.ref f7)))
    (l7 : K.lookup f7 = some ⟨oc7, od7, .func (PySem.W.fnOf "fits" "Some.fits" (defArgs (inClass (top 24) 1)) (defBody (inClass (top 24) 1)) (defScope (inClass (top 24) 1)) .none kV7 dc7 pm7 an7 cd7 ct7), sl7⟩)
    (c7 : PySem.W.codeIn K cd7 "Some.fits" = true)
    (k7 : PySem.W.keepIn K (.ref f7) = true)
    (jm_Some_fits : PySem.W.isFn K (.ref f7) = true)
    (am_Some_met : PySem.W.findIn K (.ref c_Some) "met" = some (some (.ref f8)))
    (l8 : K.lookup f8 = some ⟨oc8, od8, .func (PySem.W.fnOf "met" "Some.met" (defArgs (inClass (top 24) 2)) (defBody (inClass (top 24) 2)) (defScope (inClass (top 24) 2)) .none kV8 dc8 pm8 an8 cd8 ct8), sl8⟩)
    (c8 : PySem.W.codeIn K cd8 "Some.met" = true)
    (k8 : PySem.W.keepIn K (.ref f8) = true)
    (jm_Some_met : PySem.W.isFn K (.ref f8) = true)
    (am_Some_come : PySem.W.findIn K (.ref c_Some) "come" = some (some (.ref f9)))
    (l9 : K.lookup f9 = some ⟨oc9, od9, .func (PySem.W.fnOf "come" "Goal.come" (defArgs (inClass (top 23) 2)) (defBody (inClass (top 23) 2)) (defScope (inClass (top 23) 2)) .none kV9 dc9 pm9 an9 cd9 ct9), sl9⟩)
    (c9 : PySem.W.codeIn K cd9 "Goal.come" = true)
    (k9 : PySem.W.keepIn K (.ref f9) = true)
    (jm_Some_come : PySem.W.isFn K (.ref f9) = true)
    (is_Some_Goal : PySem.W.kitOne K (.ref c_Some) (.ref c_Goal) = some true)
    (ha_Poured : PySem.W.findIn K (.ref c_Poured) "__class__" = some (some (.builtin "object.__class__")))
    (hm_Poured : PySem.W.mroIn K c_Poured (.type "object") = some true)
    (nf_Poured_pours : PySem.W.findIn K (.ref c_Poured) "pours" = some none)
    (nf_Poured_heights : PySem.W.findIn K (.ref c_Poured) "heights" = some none)
    (ai_Poured : PySem.W.findIn K (.ref c_Poured) "__init__" = some (some (.ref f10)))
    (l10 : K.lookup f10 = some ⟨oc10, od10, .func (PySem.W.fnOf "__init__" "Poured.__init__" (defArgs (inClass (top 27) 0)) (defBody (inClass (top 27) 0)) (defScope (inClass (top 27) 0)) .none kV10 dc10 pm10 an10 cd10 ct10), sl10⟩)
    (c10 : PySem.W.codeIn K cd10 "Poured.__init__" = true)
    (k10 : PySem.W.keepIn K (.ref f10) = true)
    (ji_Poured : PySem.W.isFn K (.ref f10) = true)
    (mk_Poured : PySem.W.makesIn K c_Poured = true)
    (kc_Poured : PySem.W.keepIn K (.ref c_Poured) = true)
    (is_Poured_Poured : PySem.W.kitOne K (.ref c_Poured) (.ref c_Poured) = some true)
    (ha_Barred : PySem.W.findIn K (.ref c_Barred) "__class__" = some (some (.builtin "object.__class__")))
    (hm_Barred : PySem.W.mroIn K c_Barred (.type "object") = some true)
    (nf_Barred_among : PySem.W.findIn K (.ref c_Barred) "among" = some none)
    (ai_Barred : PySem.W.findIn K (.ref c_Barred) "__init__" = some (some (.ref f11)))
    (l11 : K.lookup f11 = some ⟨oc11, od11, .func (PySem.W.fnOf "__init__" "Barred.__init__" (defArgs (inClass (top 28) 0)) (defBody (inClass (top 28) 0)) (defScope (inClass (top 28) 0)) .none kV11 dc11 pm11 an11 cd11 ct11), sl11⟩)
    (c11 : PySem.W.codeIn K cd11 "Barred.__init__" = true)
    (k11 : PySem.W.keepIn K (.ref f11) = true)
    (ji_Barred : PySem.W.isFn K (.ref f11) = true)
    (mk_Barred : PySem.W.makesIn K c_Barred = true)
    (kc_Barred : PySem.W.keepIn K (.ref c_Barred) = true)
    (is_Barred_Barred : PySem.W.kitOne K (.ref c_Barred) (.ref c_Barred) = some true)
    (nf_House_told : PySem.W.findIn K (.ref c_House) "told" = some none)
    (nf_House_tap : PySem.W.findIn K (.ref c_House) "tap" = some none)
    (ai_House : PySem.W.findIn K (.ref c_House) "__init__" = some (some (.ref f12)))
    (l12 : K.lookup f12 = some ⟨oc12, od12, .func (PySem.W.fnOf "__init__" "House.__init__" (defArgs (inClass (top 34) 0)) (defBody (inClass (top 34) 0)) (defScope (inClass (top 34) 0)) .none kV12 dc12 pm12 an12 cd12 ct12), sl12⟩)
    (c12 : PySem.W.codeIn K cd12 "House.__init__" = true)
    (k12 : PySem.W.keepIn K (.ref f12) = true)
    (ji_House : PySem.W.isFn K (.ref f12) = true)
    (mk_House : PySem.W.makesIn K c_House = true)
    (kc_House : PySem.W.keepIn K (.ref c_House) = true)
    (am_House_sizes : PySem.W.findIn K (.ref c_House) "sizes" = some (some (.ref f13)))
    (l13 : K.lookup f13 = some ⟨oc13, od13, .func (PySem.W.fnOf "sizes" "House.sizes" (defArgs (inClass (top 34) 1)) (defBody (inClass (top 34) 1)) (defScope (inClass (top 34) 1)) .none kV13 dc13 pm13 an13 cd13 ct13), sl13⟩)
    (c13 : PySem.W.codeIn K cd13 "House.sizes" = true)
    (k13 : PySem.W.keepIn K (.ref f13) = true)
    (jm_House_sizes : PySem.W.isFn K (.ref f13) = true)
    (am_House_check : PySem.W.findIn K (.ref c_House) "check" = some (some (.ref f14)))
    (l14 : K.lookup f14 = some ⟨oc14, od14, .func (PySem.W.fnOf "check" "House.check" (defArgs (inClass (top 34) 2)) (defBody (inClass (top 34) 2)) (defScope (inClass (top 34) 2)) .none kV14 dc14 pm14 an14 cd14 ct14), sl14⟩)
    (c14 : PySem.W.codeIn K cd14 "House.check" = true)
    (k14 : PySem.W.keepIn K (.ref f14) = true)
    (jm_House_check : PySem.W.isFn K (.ref f14) = true)
    (am_House_moves : PySem.W.findIn K (.ref c_House) "moves" = some (some (.ref f15)))
    (l15 : K.lookup f15 = some ⟨oc15, od15, .func (PySem.W.fnOf "moves" "House.moves" (defArgs (inClass (top 34) 3)) (defBody (inClass (top 34) 3)) (defScope (inClass (top 34) 3)) .none kV15 dc15 pm15 an15 cd15 ct15), sl15⟩)
    (c15 : PySem.W.codeIn K cd15 "House.moves" = true)
    (k15 : PySem.W.keepIn K (.ref f15) = true)
    (jm_House_moves : PySem.W.isFn K (.ref f15) = true)
    (am_House_empty : PySem.W.findIn K (.ref c_House) "empty" = some (some (.ref f16)))
    (l16 : K.lookup f16 = some ⟨oc16, od16, .func (PySem.W.fnOf "empty" "House.empty" (defArgs (inClass (top 34) 5)) (defBody (inClass (top 34) 5)) (defScope (inClass (top 34) 5)) .none kV16 dc16 pm16 an16 cd16 ct16), sl16⟩)
    (c16 : PySem.W.codeIn K cd16 "House.empty" = true)
    (k16 : PySem.W.keepIn K (.ref f16) = true)
    (jm_House_empty : PySem.W.isFn K (.ref f16) = true)
    (ax_BadHouse : PySem.W.nsIn K mainGlobals "BadHouse" = some (some (.ref c_BadHouse)))
    (xi_BadHouse : PySem.W.excIn K c_BadHouse [.type "ValueError", .type "Exception", .type "BaseException", .type "object"] "ValueError.__new__" = true)
    (xk_BadHouse : PySem.W.keepIn K (.ref c_BadHouse) = true)
    (xb_BadHouse : PySem.W.subIn K (.ref c_BadHouse) (.type "BaseException") = some true)
    (xt_BadHouse : PySem.W.typeIn K (.ref c_BadHouse) = some (.type "type"))
    (ax_BadState : PySem.W.nsIn K mainGlobals "BadState" = some (some (.ref c_BadState)))
    (xi_BadState : PySem.W.excIn K c_BadState [.type "ValueError", .type "Exception", .type "BaseException", .type "object"] "ValueError.__new__" = true)
    (xk_BadState : PySem.W.keepIn K (.ref c_BadState) = true)
    (xb_BadState : PySem.W.subIn K (.ref c_BadState) (.type "BaseException") = some true)
    (xt_BadState : PySem.W.typeIn K (.ref c_BadState) = some (.type "type"))
    (ax_BadMove : PySem.W.nsIn K mainGlobals "BadMove" = some (some (.ref c_BadMove)))
    (xi_BadMove : PySem.W.excIn K c_BadMove [.type "ValueError", .type "Exception", .type "BaseException", .type "object"] "ValueError.__new__" = true)
    (xk_BadMove : PySem.W.keepIn K (.ref c_BadMove) = true)
    (xb_BadMove : PySem.W.subIn K (.ref c_BadMove) (.type "BaseException") = some true)
    (xt_BadMove : PySem.W.typeIn K (.ref c_BadMove) = some (.type "type"))
    (ax_BadGoal : PySem.W.nsIn K mainGlobals "BadGoal" = some (some (.ref c_BadGoal)))
    (xi_BadGoal : PySem.W.excIn K c_BadGoal [.type "ValueError", .type "Exception", .type "BaseException", .type "object"] "ValueError.__new__" = true)
    (xk_BadGoal : PySem.W.keepIn K (.ref c_BadGoal) = true)
    (xb_BadGoal : PySem.W.subIn K (.ref c_BadGoal) (.type "BaseException") = some true)
    (xt_BadGoal : PySem.W.typeIn K (.ref c_BadGoal) = some (.type "type"))
    (ag_MOST_JUGS : PySem.W.nsIn K mainGlobals "MOST_JUGS" = some (some u_MOST_JUGS))
    (rg_MOST_JUGS : RelV (.int 4) u_MOST_JUGS)
    (ag_MOST : PySem.W.nsIn K mainGlobals "MOST" = some (some u_MOST))
    (rg_MOST : RelV (.int 240) u_MOST)
    (ag_GREATEST : PySem.W.nsIn K mainGlobals "GREATEST" = some (some u_GREATEST))
    (rg_GREATEST : RelV (.int 60) u_GREATEST)
    (ag_MOST_STATES : PySem.W.nsIn K mainGlobals "MOST_STATES" = some (some u_MOST_STATES))
    (rg_MOST_STATES : RelV (.int 2000) u_MOST_STATES)
    (ad_spread : PySem.W.nsIn K mainGlobals "spread" = some (some (.ref f17)))
    (l17 : K.lookup f17 = some ⟨oc17, od17, .func (PySem.W.fnOf "spread" "spread" (defArgs (top 2)) (defBody (top 2)) (defScope (top 2)) .none kV17 dc17 pm17 an17 cd17 ct17), sl17⟩)
    (c17 : PySem.W.codeIn K cd17 "spread" = true)
    (k17 : PySem.W.keepIn K (.ref f17) = true)
    (ad_reached : PySem.W.nsIn K mainGlobals "reached" = some (some (.ref f18)))
    (l18 : K.lookup f18 = some ⟨oc18, od18, .func (PySem.W.fnOf "reached" "reached" (defArgs (top 3)) (defBody (top 3)) (defScope (top 3)) .none kV18 dc18 pm18 an18 cd18 ct18), sl18⟩)
    (c18 : PySem.W.codeIn K cd18 "reached" = true)
    (k18 : PySem.W.keepIn K (.ref f18) = true)
    (ad_measured : PySem.W.nsIn K mainGlobals "measured" = some (some (.ref f19)))
    (l19 : K.lookup f19 = some ⟨oc19, od19, .func (PySem.W.fnOf "measured" "measured" (defArgs (top 4)) (defBody (top 4)) (defScope (top 4)) .none kV19 dc19 pm19 an19 cd19 ct19), sl19⟩)
    (c19 : PySem.W.codeIn K cd19 "measured" = true)
    (k19 : PySem.W.keepIn K (.ref f19) = true)
    (ad_within : PySem.W.nsIn K mainGlobals "within" = some (some (.ref f20)))
    (l20 : K.lookup f20 = some ⟨oc20, od20, .func (PySem.W.fnOf "within" "within" (defArgs (top 13)) (defBody (top 13)) (defScope (top 13)) .none kV20 dc20 pm20 an20 cd20 ct20), sl20⟩)
    (c20 : PySem.W.codeIn K cd20 "within" = true)
    (k20 : PySem.W.keepIn K (.ref f20) = true)
    (ad_check_jug : PySem.W.nsIn K mainGlobals "check_jug" = some (some (.ref f21)))
    (l21 : K.lookup f21 = some ⟨oc21, od21, .func (PySem.W.fnOf "check_jug" "check_jug" (defArgs (top 14)) (defBody (top 14)) (defScope (top 14)) .none kV21 dc21 pm21 an21 cd21 ct21), sl21⟩)
    (c21 : PySem.W.codeIn K cd21 "check_jug" = true)
    (k21 : PySem.W.keepIn K (.ref f21) = true)
    (ad_with_amount : PySem.W.nsIn K mainGlobals "with_amount" = some (some (.ref f22)))
    (l22 : K.lookup f22 = some ⟨oc22, od22, .func (PySem.W.fnOf "with_amount" "with_amount" (defArgs (top 16)) (defBody (top 16)) (defScope (top 16)) .none kV22 dc22 pm22 an22 cd22 ct22), sl22⟩)
    (c22 : PySem.W.codeIn K cd22 "with_amount" = true)
    (k22 : PySem.W.keepIn K (.ref f22) = true)
    (ad_check_amount : PySem.W.nsIn K mainGlobals "check_amount" = some (some (.ref f23)))
    (l23 : K.lookup f23 = some ⟨oc23, od23, .func (PySem.W.fnOf "check_amount" "check_amount" (defArgs (top 22)) (defBody (top 22)) (defScope (top 22)) .none kV23 dc23 pm23 an23 cd23 ct23), sl23⟩)
    (c23 : PySem.W.codeIn K cd23 "check_amount" = true)
    (k23 : PySem.W.keepIn K (.ref f23) = true)
    (ad_way_to : PySem.W.nsIn K mainGlobals "way_to" = some (some (.ref f24)))
    (l24 : K.lookup f24 = some ⟨oc24, od24, .func (PySem.W.fnOf "way_to" "way_to" (defArgs (top 29)) (defBody (top 29)) (defScope (top 29)) .none kV24 dc24 pm24 an24 cd24 ct24), sl24⟩)
    (c24 : PySem.W.codeIn K cd24 "way_to" = true)
    (k24 : PySem.W.keepIn K (.ref f24) = true)
    (ad_fewest : PySem.W.nsIn K mainGlobals "fewest" = some (some (.ref f25)))
    (l25 : K.lookup f25 = some ⟨oc25, od25, .func (PySem.W.fnOf "fewest" "fewest" (defArgs (top 30)) (defBody (top 30)) (defScope (top 30)) .none kV25 dc25 pm25 an25 cd25 ct25), sl25⟩)
    (c25 : PySem.W.codeIn K cd25 "fewest" = true)
    (k25 : PySem.W.keepIn K (.ref f25) = true)
    (ad__law_cell_at : PySem.W.nsIn K mainGlobals "_law_cell_at" = some (some (.ref f26)))
    (l26 : K.lookup f26 = some ⟨oc26, od26, .func (PySem.W.fnOf "_law_cell_at" "_law_cell_at" (defArgs (top 36)) (defBody (top 36)) (defScope (top 36)) .none kV26 dc26 pm26 an26 cd26 ct26), sl26⟩)
    (c26 : PySem.W.codeIn K cd26 "_law_cell_at" = true)
    (k26 : PySem.W.keepIn K (.ref f26) = true)
    (ad__law_draw : PySem.W.nsIn K mainGlobals "_law_draw" = some (some (.ref f27)))
    (l27 : K.lookup f27 = some ⟨oc27, od27, .func (PySem.W.fnOf "_law_draw" "_law_draw" (defArgs (top 37)) (defBody (top 37)) (defScope (top 37)) .none kV27 dc27 pm27 an27 cd27 ct27), sl27⟩)
    (c27 : PySem.W.codeIn K cd27 "_law_draw" = true)
    (k27 : PySem.W.keepIn K (.ref f27) = true)
    (ad__law_common : PySem.W.nsIn K mainGlobals "_law_common" = some (some (.ref f28)))
    (l28 : K.lookup f28 = some ⟨oc28, od28, .func (PySem.W.fnOf "_law_common" "_law_common" (defArgs (top 38)) (defBody (top 38)) (defScope (top 38)) .none kV28 dc28 pm28 an28 cd28 ct28), sl28⟩)
    (c28 : PySem.W.codeIn K cd28 "_law_common" = true)
    (k28 : PySem.W.keepIn K (.ref f28) = true)
    (ad_law : PySem.W.nsIn K mainGlobals "law" = some (some (.ref f29)))
    (l29 : K.lookup f29 = some ⟨oc29, od29, .func (PySem.W.fnOf "law" "law" (defArgs (top 39)) (defBody (top 39)) (defScope (top 39)) .none kV29 dc29 pm29 an29 cd29 ct29), sl29⟩)
    (c29 : PySem.W.codeIn K cd29 "law" = true)
    (k29 : PySem.W.keepIn K (.ref f29) = true)
    (zn_bool : PySem.W.nsIn K mainGlobals "bool" = some none)
    (zn_int : PySem.W.nsIn K mainGlobals "int" = some none)
    (zn_isinstance : PySem.W.nsIn K mainGlobals "isinstance" = some none)
    (zn_len : PySem.W.nsIn K mainGlobals "len" = some none)
    (zn_list : PySem.W.nsIn K mainGlobals "list" = some none)
    (zn_max : PySem.W.nsIn K mainGlobals "max" = some none)
    (zn_min : PySem.W.nsIn K mainGlobals "min" = some none)
    (zn_range : PySem.W.nsIn K mainGlobals "range" = some none)
    (zn_sorted : PySem.W.nsIn K mainGlobals "sorted" = some none)
    (zn_tuple : PySem.W.nsIn K mainGlobals "tuple" = some none)
    : ∃ fd : FuncData, (∀ (s : Shared) (v : Value), BindsTo s fd ⟨[v], []⟩ [("_law_script", v)]) ∧ ∀ base : Heap, K.In base → base.Ns mainGlobals mg → FnOk l.prog w K mg base (L2.CX l.prog w) 9 fa fd ["_law_script"] (SpOf (R_law K)) := by
  cases hfa.symm.trans (PySem.W.mg_of X G ad_law)
  have F0 := fun_mk (st := inClass (top 17) 0) l0 c0 k0
  have b0 := F0.binds (ps := ["self", "one", "other"]) fun _ _ _ _ _ _ us hl => match us, hl with | [_, _, _], _ => rfl
  have F1 := fun_mk (st := inClass (top 17) 2) l1 c1 k1
  have b1 := F1.binds (ps := ["self", "sizes", "state"]) fun _ _ _ _ _ _ us hl => match us, hl with | [_, _, _], _ => rfl
  have F2 := fun_mk (st := inClass (top 18) 0) l2 c2 k2
  have b2 := F2.binds (ps := ["self", "jug"]) fun _ _ _ _ _ _ us hl => match us, hl with | [_, _], _ => rfl
  have F3 := fun_mk (st := inClass (top 18) 2) l3 c3 k3
  have b3 := F3.binds (ps := ["self", "sizes", "state"]) fun _ _ _ _ _ _ us hl => match us, hl with | [_, _, _], _ => rfl
  have F4 := fun_mk (st := inClass (top 19) 0) l4 c4 k4
  have b4 := F4.binds (ps := ["self", "jug"]) fun _ _ _ _ _ _ us hl => match us, hl with | [_, _], _ => rfl
  have F5 := fun_mk (st := inClass (top 19) 2) l5 c5 k5
  have b5 := F5.binds (ps := ["self", "sizes", "state"]) fun _ _ _ _ _ _ us hl => match us, hl with | [_, _, _], _ => rfl
  have F6 := fun_mk (st := inClass (top 24) 0) l6 c6 k6
  have b6 := F6.binds (ps := ["self", "many"]) fun _ _ _ _ _ _ us hl => match us, hl with | [_, _], _ => rfl
  have F7 := fun_mk (st := inClass (top 24) 1) l7 c7 k7
  have b7 := F7.binds (ps := ["self", "house"]) fun _ _ _ _ _ _ us hl => match us, hl with | [_, _], _ => rfl
  have F8 := fun_mk (st := inClass (top 24) 2) l8 c8 k8
  have b8 := F8.binds (ps := ["self", "state"]) fun _ _ _ _ _ _ us hl => match us, hl with | [_, _], _ => rfl
  have F9 := fun_mk (st := inClass (top 23) 2) l9 c9 k9
  have b9 := F9.binds (ps := ["self", "house", "state"]) fun _ _ _ _ _ _ us hl => match us, hl with | [_, _, _], _ => rfl
  have F10 := fun_mk (st := inClass (top 27) 0) l10 c10 k10
  have b10 := F10.binds (ps := ["self", "pours", "heights"]) fun _ _ _ _ _ _ us hl => match us, hl with | [_, _, _], _ => rfl
  have F11 := fun_mk (st := inClass (top 28) 0) l11 c11 k11
  have b11 := F11.binds (ps := ["self", "among"]) fun _ _ _ _ _ _ us hl => match us, hl with | [_, _], _ => rfl
  have F12 := fun_mk (st := inClass (top 34) 0) l12 c12 k12
  have b12 := F12.binds (ps := ["self", "sizes", "tap"]) fun _ _ _ _ _ _ us hl => match us, hl with | [_, _, _], _ => rfl
  have F13 := fun_mk (st := inClass (top 34) 1) l13 c13 k13
  have b13 := F13.binds (ps := ["self"]) fun _ _ _ _ _ _ us hl => match us, hl with | [_], _ => rfl
  have F14 := fun_mk (st := inClass (top 34) 2) l14 c14 k14
  have b14 := F14.binds (ps := ["self", "state"]) fun _ _ _ _ _ _ us hl => match us, hl with | [_, _], _ => rfl
  have F15 := fun_mk (st := inClass (top 34) 3) l15 c15 k15
  have b15 := F15.binds (ps := ["self"]) fun _ _ _ _ _ _ us hl => match us, hl with | [_], _ => rfl
  have F16 := fun_mk (st := inClass (top 34) 5) l16 c16 k16
  have b16 := F16.binds (ps := ["self"]) fun _ _ _ _ _ _ us hl => match us, hl with | [_], _ => rfl
  have F17 := fun_mk (st := top 2) l17 c17 k17
  have b17 := F17.binds (ps := ["house", "state"]) fun _ _ _ _ _ _ us hl => match us, hl with | [_, _], _ => rfl
  have F18 := fun_mk (st := top 3) l18 c18 k18
  have b18 := F18.binds (ps := ["house", "state"]) fun _ _ _ _ _ _ us hl => match us, hl with | [_, _], _ => rfl
  have F19 := fun_mk (st := top 4) l19 c19 k19
  have b19 := F19.binds (ps := ["house", "state"]) fun _ _ _ _ _ _ us hl => match us, hl with | [_, _], _ => rfl
  have F20 := fun_mk (st := top 13) l20 c20 k20
  have b20 := F20.binds (ps := ["number", "low", "high"]) fun _ _ _ _ _ _ us hl => match us, hl with | [_, _, _], _ => rfl
  have F21 := fun_mk (st := top 14) l21 c21 k21
  have b21 := F21.binds (ps := ["jug"]) fun _ _ _ _ _ _ us hl => match us, hl with | [_], _ => rfl
  have F22 := fun_mk (st := top 16) l22 c22 k22
  have b22 := F22.binds (ps := ["state", "jug", "many"]) fun _ _ _ _ _ _ us hl => match us, hl with | [_, _, _], _ => rfl
  have F23 := fun_mk (st := top 22) l23 c23 k23
  have b23 := F23.binds (ps := ["many"]) fun _ _ _ _ _ _ us hl => match us, hl with | [_], _ => rfl
  have F24 := fun_mk (st := top 29) l24 c24 k24
  have b24 := F24.binds (ps := ["ahead", "state"]) fun _ _ _ _ _ _ us hl => match us, hl with | [_, _], _ => rfl
  have F25 := fun_mk (st := top 30) l25 c25 k25
  have b25 := F25.binds (ps := ["house", "state", "goal"]) fun _ _ _ _ _ _ us hl => match us, hl with | [_, _, _], _ => rfl
  have F26 := fun_mk (st := top 36) l26 c26 k26
  have b26 := F26.binds (ps := ["_law_script", "_law_k"]) fun _ _ _ _ _ _ us hl => match us, hl with | [_, _], _ => rfl
  have F27 := fun_mk (st := top 37) l27 c27 k27
  have b27 := F27.binds (ps := ["_law_cell", "_law_k", "_law_many"]) fun _ _ _ _ _ _ us hl => match us, hl with | [_, _, _], _ => rfl
  have F28 := fun_mk (st := top 38) l28 c28 k28
  have b28 := F28.binds (ps := ["_law_one", "_law_other"]) fun _ _ _ _ _ _ us hl => match us, hl with | [_, _], _ => rfl
  have F29 := fun_mk (st := top 39) l29 c29 k29
  have b29 := F29.binds (ps := ["_law_script"]) fun _ _ _ _ _ _ us hl => match us, hl with | [_], _ => rfl
  have T : Top K mg ⟨0, c_Pour, c_Fill, c_Empty, c_Goal, c_Some, 0, c_Poured, c_Barred, c_House, 0, c_BadHouse, c_BadState, c_BadMove, c_BadGoal⟩ := {
    f_Pour_one := ⟨⟨pg_Pour, hd_Pour, po_Pour, sa_Pour⟩, nf_Pour_one⟩
    f_Pour_other := ⟨⟨pg_Pour, hd_Pour, po_Pour, sa_Pour⟩, nf_Pour_other⟩
    i_Pour := ⟨_, _, F0, ⟨mk_Pour, ai_Pour, ji_Pour, kc_Pour⟩, PySem.W.mg_of X G ac_Pour, b0⟩
    m_Pour_behind := ⟨_, _, F1, ⟨pg_Pour, hd_Pour, po_Pour, sa_Pour⟩, ⟨am_Pour_behind, jm_Pour_behind, k1⟩, b1⟩
    f_Fill_jug := ⟨⟨pg_Fill, hd_Fill, po_Fill, sa_Fill⟩, nf_Fill_jug⟩
    i_Fill := ⟨_, _, F2, ⟨mk_Fill, ai_Fill, ji_Fill, kc_Fill⟩, PySem.W.mg_of X G ac_Fill, b2⟩
    m_Fill_behind := ⟨_, _, F3, ⟨pg_Fill, hd_Fill, po_Fill, sa_Fill⟩, ⟨am_Fill_behind, jm_Fill_behind, k3⟩, b3⟩
    f_Empty_jug := ⟨⟨pg_Empty, hd_Empty, po_Empty, sa_Empty⟩, nf_Empty_jug⟩
    i_Empty := ⟨_, _, F4, ⟨mk_Empty, ai_Empty, ji_Empty, kc_Empty⟩, PySem.W.mg_of X G ac_Empty, b4⟩
    m_Empty_behind := ⟨_, _, F5, ⟨pg_Empty, hd_Empty, po_Empty, sa_Empty⟩, ⟨am_Empty_behind, jm_Empty_behind, k5⟩, b5⟩
    k_Goal := ⟨_, PySem.W.mg_of X G ac_Goal, rfl⟩
    ik_Some := ⟨⟨pg_Some, hd_Some, po_Some, sa_Some⟩, ha_Some, hn, tk, hm_Some⟩
    f_Some_many := ⟨⟨pg_Some, hd_Some, po_Some, sa_Some⟩, nf_Some_many⟩
    i_Some := ⟨_, _, F6, ⟨mk_Some, ai_Some, ji_Some, kc_Some⟩, PySem.W.mg_of X G ac_Some, b6⟩
    m_Some_fits := ⟨_, _, F7, ⟨pg_Some, hd_Some, po_Some, sa_Some⟩, ⟨am_Some_fits, jm_Some_fits, k7⟩, b7⟩
    m_Some_met := ⟨_, _, F8, ⟨pg_Some, hd_Some, po_Some, sa_Some⟩, ⟨am_Some_met, jm_Some_met, k8⟩, b8⟩
    m_Some_come := ⟨_, _, F9, ⟨pg_Some, hd_Some, po_Some, sa_Some⟩, ⟨am_Some_come, jm_Some_come, k9⟩, b9⟩
    is_Some_Goal := is_Some_Goal
    k_Poured := ⟨_, PySem.W.mg_of X G ac_Poured, rfl⟩
    ik_Poured := ⟨⟨pg_Poured, hd_Poured, po_Poured, sa_Poured⟩, ha_Poured, hn, tk, hm_Poured⟩
    f_Poured_pours := ⟨⟨pg_Poured, hd_Poured, po_Poured, sa_Poured⟩, nf_Poured_pours⟩
    f_Poured_heights := ⟨⟨pg_Poured, hd_Poured, po_Poured, sa_Poured⟩, nf_Poured_heights⟩
    i_Poured := ⟨_, _, F10, ⟨mk_Poured, ai_Poured, ji_Poured, kc_Poured⟩, PySem.W.mg_of X G ac_Poured, b10⟩
    is_Poured_Poured := is_Poured_Poured
    k_Barred := ⟨_, PySem.W.mg_of X G ac_Barred, rfl⟩
    ik_Barred := ⟨⟨pg_Barred, hd_Barred, po_Barred, sa_Barred⟩, ha_Barred, hn, tk, hm_Barred⟩
    f_Barred_among := ⟨⟨pg_Barred, hd_Barred, po_Barred, sa_Barred⟩, nf_Barred_among⟩
    i_Barred := ⟨_, _, F11, ⟨mk_Barred, ai_Barred, ji_Barred, kc_Barred⟩, PySem.W.mg_of X G ac_Barred, b11⟩
    is_Barred_Barred := is_Barred_Barred
    f_House_told := ⟨⟨pg_House, hd_House, po_House, sa_House⟩, nf_House_told⟩
    f_House_tap := ⟨⟨pg_House, hd_House, po_House, sa_House⟩, nf_House_tap⟩
    i_House := ⟨_, _, F12, ⟨mk_House, ai_House, ji_House, kc_House⟩, PySem.W.mg_of X G ac_House, b12⟩
    m_House_sizes := ⟨_, _, F13, ⟨pg_House, hd_House, po_House, sa_House⟩, ⟨am_House_sizes, jm_House_sizes, k13⟩, b13⟩
    m_House_check := ⟨_, _, F14, ⟨pg_House, hd_House, po_House, sa_House⟩, ⟨am_House_check, jm_House_check, k14⟩, b14⟩
    m_House_moves := ⟨_, _, F15, ⟨pg_House, hd_House, po_House, sa_House⟩, ⟨am_House_moves, jm_House_moves, k15⟩, b15⟩
    m_House_empty := ⟨_, _, F16, ⟨pg_House, hd_House, po_House, sa_House⟩, ⟨am_House_empty, jm_House_empty, k16⟩, b16⟩
    x_BadHouse := ⟨xi_BadHouse, PySem.W.mg_of X G ax_BadHouse, xk_BadHouse, xb_BadHouse, xt_BadHouse⟩
    x_BadState := ⟨xi_BadState, PySem.W.mg_of X G ax_BadState, xk_BadState, xb_BadState, xt_BadState⟩
    x_BadMove := ⟨xi_BadMove, PySem.W.mg_of X G ax_BadMove, xk_BadMove, xb_BadMove, xt_BadMove⟩
    x_BadGoal := ⟨xi_BadGoal, PySem.W.mg_of X G ax_BadGoal, xk_BadGoal, xb_BadGoal, xt_BadGoal⟩
    g_MOST_JUGS := ⟨_, PySem.W.mg_of X G ag_MOST_JUGS, rg_MOST_JUGS⟩
    g_MOST := ⟨_, PySem.W.mg_of X G ag_MOST, rg_MOST⟩
    g_GREATEST := ⟨_, PySem.W.mg_of X G ag_GREATEST, rg_GREATEST⟩
    g_MOST_STATES := ⟨_, PySem.W.mg_of X G ag_MOST_STATES, rg_MOST_STATES⟩
    d_spread := ⟨_, _, F17, PySem.W.mg_of X G ad_spread, b17⟩
    d_reached := ⟨_, _, F18, PySem.W.mg_of X G ad_reached, b18⟩
    d_measured := ⟨_, _, F19, PySem.W.mg_of X G ad_measured, b19⟩
    d_within := ⟨_, _, F20, PySem.W.mg_of X G ad_within, b20⟩
    d_check_jug := ⟨_, _, F21, PySem.W.mg_of X G ad_check_jug, b21⟩
    d_with_amount := ⟨_, _, F22, PySem.W.mg_of X G ad_with_amount, b22⟩
    d_check_amount := ⟨_, _, F23, PySem.W.mg_of X G ad_check_amount, b23⟩
    d_way_to := ⟨_, _, F24, PySem.W.mg_of X G ad_way_to, b24⟩
    d_fewest := ⟨_, _, F25, PySem.W.mg_of X G ad_fewest, b25⟩
    d__law_cell_at := ⟨_, _, F26, PySem.W.mg_of X G ad__law_cell_at, b26⟩
    d__law_draw := ⟨_, _, F27, PySem.W.mg_of X G ad__law_draw, b27⟩
    d__law_common := ⟨_, _, F28, PySem.W.mg_of X G ad__law_common, b28⟩
    d_law := ⟨_, _, F29, PySem.W.mg_of X G ad_law, b29⟩
    n_bool := PySem.W.mg_none_of X G zn_bool
    n_int := PySem.W.mg_none_of X G zn_int
    n_isinstance := PySem.W.mg_none_of X G zn_isinstance
    n_len := PySem.W.mg_none_of X G zn_len
    n_list := PySem.W.mg_none_of X G zn_list
    n_max := PySem.W.mg_none_of X G zn_max
    n_min := PySem.W.mg_none_of X G zn_min
    n_range := PySem.W.mg_none_of X G zn_range
    n_sorted := PySem.W.mg_none_of X G zn_sorted
    n_tuple := PySem.W.mg_none_of X G zn_tuple
  }
  exact ⟨_, fun s v => .of_eq rfl, fun base _ _ => ok_law_at T F29⟩
theorem walk {l : PySem.W.OpenLaw} {q : Program} {loose : List Str} {XP : (Str → Option Value) → Heap → Prop} {YP : World → Heap → Prop} {d : DefRec} {K : Params → PySem.W.Frag} (hn : l.most = some 63) (hdf : d.params.defaults = [])
    (hY : ∀ (w : World) (h : Heap), YP w h → (K w.params).In h)
    (F : ∀ (w : World) (mg : Str → Option Value) (fa : Addr) (h : Heap), (K w.params).In h → h.Ns mainGlobals mg → mg d.name = some (.ref fa) →
      ∃ fd : FuncData, (∀ (s : Shared) (u : Value), BindsTo s fd ⟨[u], []⟩ [("_law_script", u)]) ∧ ∀ base : Heap, (K w.params).In base → base.Ns mainGlobals mg → FnOk l.prog w (K w.params) mg base (L2.CX l.prog w) 9 fa fd ["_law_script"] (SpOf (R_law (K w.params)))) :
    PySem.W.WalkO q loose XP YP l.row.toRowW d [] (fun f vs => PySem.call f vs) :=
  L2.walk_of (n := 63) (k := 9) (x := "_law_script") (CX := fun w => L2.CX l.prog w) (sp := fun w => SpOf (R_law (K w.params))) hn (by decide) hdf ⟨rfl, by decide, by decide⟩ hY F (fun w H a ns hl _ hS => ⟨H, [.v (scrS (K w.params) ns)], .v (bS true), Same.refl H, fun _ _ h => h, .cons ⟨a, rfl, hS⟩ .nil, ⟨ns, rfl, rfl⟩, fun v F' H' g hv => hv⟩) fun _ _ _ _ _ ⟨_, _, _, _, _, _, _, _, _, _, _, _, z⟩ => z
end
end Jug

open PySem PySem.W PyProof.Rows in
set_option maxRecDepth 100000 in
set_option maxHeartbeats 0 in
theorem PySem.Challenge.cw_jughouse_k06_whole_two_jugs_holds : PySem.Challenge.rw_jughouse_k06_whole_two_jugs.Holds := by
  w_on; o_law; k_head; (case hw => w_witness2)
  k_fill
  refine Jug.walk (l := PySem.Challenge.rw_jughouse_k06_whole_two_jugs) rfl rfl (fun w h Y => PySem.W.kIn_of Y) ?F
  case F =>
    intro w mg fa h KX G hmg
    refine' Jug.all_mk KX G hmg ?ac_Pour ?ac_Fill ?ac_Empty ?ac_Goal ?ac_Some ?ac_Poured ?ac_Barred ?ac_House ?pg_Pour ?hd_Pour ?po_Pour ?sa_Pour ?pg_Fill ?hd_Fill ?po_Fill ?sa_Fill ?pg_Empty ?hd_Empty ?po_Empty ?sa_Empty ?pg_Some ?hd_Some ?po_Some ?sa_Some ?pg_Poured ?hd_Poured ?po_Poured ?sa_Poured ?pg_Barred ?hd_Barred ?po_Barred ?sa_Barred ?pg_House ?hd_House ?po_House ?sa_House ?nf_Pour_one ?nf_Pour_other ?ai_Pour ?l0 ?c0 ?k0 ?ji_Pour ?mk_Pour ?kc_Pour ?am_Pour_behind ?l1 ?c1 ?k1 ?jm_Pour_behind ?nf_Fill_jug ?ai_Fill ?l2 ?c2 ?k2 ?ji_Fill ?mk_Fill ?kc_Fill ?am_Fill_behind ?l3 ?c3 ?k3 ?jm_Fill_behind ?nf_Empty_jug ?ai_Empty ?l4 ?c4 ?k4 ?ji_Empty ?mk_Empty ?kc_Empty ?am_Empty_behind ?l5 ?c5 ?k5 ?jm_Empty_behind ?ha_Some ?hm_Some ?hn ?tk ?nf_Some_many ?ai_Some ?l6 ?c6 ?k6 ?ji_Some ?mk_Some ?kc_Some ?am_Some_fits ?l7 ?c7 ?k7 ?jm_Some_fits ?am_Some_met ?l8 ?c8 ?k8 ?jm_Some_met ?am_Some_come ?l9 ?c9 ?k9 ?jm_Some_come ?is_Some_Goal ?ha_Poured ?hm_Poured ?nf_Poured_pours ?nf_Poured_heights ?ai_Poured ?l10 ?c10 ?k10 ?ji_Poured ?mk_Poured ?kc_Poured ?is_Poured_Poured ?ha_Barred ?hm_Barred ?nf_Barred_among ?ai_Barred ?l11 ?c11 ?k11 ?ji_Barred ?mk_Barred ?kc_Barred ?is_Barred_Barred ?nf_House_told ?nf_House_tap ?ai_House ?l12 ?c12 ?k12 ?ji_House ?mk_House ?kc_House ?am_House_sizes ?l13 ?c13 ?k13 ?jm_House_sizes ?am_House_check ?l14 ?c14 ?k14 ?jm_House_check ?am_House_moves ?l15 ?c15 ?k15 ?jm_House_moves ?am_House_empty ?l16 ?c16 ?k16 ?jm_House_empty ?ax_BadHouse ?xi_BadHouse ?xk_BadHouse ?xb_BadHouse ?xt_BadHouse ?ax_BadState ?xi_BadState ?xk_BadState ?xb_BadState ?xt_BadState ?ax_BadMove ?xi_BadMove ?xk_BadMove ?xb_BadMove ?xt_BadMove ?ax_BadGoal ?xi_BadGoal ?xk_BadGoal ?xb_BadGoal ?xt_BadGoal ?ag_MOST_JUGS ?rg_MOST_JUGS ?ag_MOST ?rg_MOST ?ag_GREATEST ?rg_GREATEST ?ag_MOST_STATES ?rg_MOST_STATES ?ad_spread ?l17 ?c17 ?k17 ?ad_reached ?l18 ?c18 ?k18 ?ad_measured ?l19 ?c19 ?k19 ?ad_within ?l20 ?c20 ?k20 ?ad_check_jug ?l21 ?c21 ?k21 ?ad_with_amount ?l22 ?c22 ?k22 ?ad_check_amount ?l23 ?c23 ?k23 ?ad_way_to ?l24 ?c24 ?k24 ?ad_fewest ?l25 ?c25 ?k25 ?ad__law_cell_at ?l26 ?c26 ?k26 ?ad__law_draw ?l27 ?c27 ?k27 ?ad__law_common ?l28 ?c28 ?k28 ?ad_law ?l29 ?c29 ?k29 ?zn_bool ?zn_int ?zn_isinstance ?zn_len ?zn_list ?zn_max ?zn_min ?zn_range ?zn_sorted ?zn_tuple
    (case ac_Pour => k_is)
    (case ac_Fill => k_is)
    (case ac_Empty => k_is)
    (case ac_Goal => k_is)
    (case ac_Some => k_is)
    (case ac_Poured => k_is)
    (case ac_Barred => k_is)
    (case ac_House => k_is)
    (case pg_Pour => k_is)
    (case hd_Pour => k_is)
    (case po_Pour => k_is)
    (case sa_Pour => k_is)
    (case pg_Fill => k_is)
    (case hd_Fill => k_is)
    (case po_Fill => k_is)
    (case sa_Fill => k_is)
    (case pg_Empty => k_is)
    (case hd_Empty => k_is)
    (case po_Empty => k_is)
    (case sa_Empty => k_is)
    (case pg_Some => k_is)
    (case hd_Some => k_is)
    (case po_Some => k_is)
    (case sa_Some => k_is)
    (case pg_Poured => k_is)
    (case hd_Poured => k_is)
    (case po_Poured => k_is)
    (case sa_Poured => k_is)
    (case pg_Barred => k_is)
    (case hd_Barred => k_is)
    (case po_Barred => k_is)
    (case sa_Barred => k_is)
    (case pg_House => k_is)
    (case hd_House => k_is)
    (case po_House => k_is)
    (case sa_House => k_is)
    (case nf_Pour_one => k_is)
    (case nf_Pour_other => k_is)
    (case ai_Pour => k_is)
    (case l0 => k_is)
    (case c0 => k_is)
    (case k0 => k_is)
    (case ji_Pour => k_is)
    (case mk_Pour => k_is)
    (case kc_Pour => k_is)
    (case am_Pour_behind => k_is)
    (case l1 => k_is)
    (case c1 => k_is)
    (case k1 => k_is)
    (case jm_Pour_behind => k_is)
    (case nf_Fill_jug => k_is)
    (case ai_Fill => k_is)
    (case l2 => k_is)
    (case c2 => k_is)
    (case k2 => k_is)
    (case ji_Fill => k_is)
    (case mk_Fill => k_is)
    (case kc_Fill => k_is)
    (case am_Fill_behind => k_is)
    (case l3 => k_is)
    (case c3 => k_is)
    (case k3 => k_is)
    (case jm_Fill_behind => k_is)
    (case nf_Empty_jug => k_is)
    (case ai_Empty => k_is)
    (case l4 => k_is)
    (case c4 => k_is)
    (case k4 => k_is)
    (case ji_Empty => k_is)
    (case mk_Empty => k_is)
    (case kc_Empty => k_is)
    (case am_Empty_behind => k_is)
    (case l5 => k_is)
    (case c5 => k_is)
    (case k5 => k_is)
    (case jm_Empty_behind => k_is)
    (case ha_Some => k_is)
    (case hm_Some => k_is)
    (case hn => k_is)
    (case tk => k_is)
    (case nf_Some_many => k_is)
    (case ai_Some => k_is)
    (case l6 => k_is)
    (case c6 => k_is)
    (case k6 => k_is)
    (case ji_Some => k_is)
    (case mk_Some => k_is)
    (case kc_Some => k_is)
    (case am_Some_fits => k_is)
    (case l7 => k_is)
    (case c7 => k_is)
    (case k7 => k_is)
    (case jm_Some_fits => k_is)
    (case am_Some_met => k_is)
    (case l8 => k_is)
    (case c8 => k_is)
    (case k8 => k_is)
    (case jm_Some_met => k_is)
    (case am_Some_come => k_is)
    (case l9 => k_is)
    (case c9 => k_is)
    (case k9 => k_is)
    (case jm_Some_come => k_is)
    (case is_Some_Goal => kit_is)
    (case ha_Poured => k_is)
    (case hm_Poured => k_is)
    (case nf_Poured_pours => k_is)
    (case nf_Poured_heights => k_is)
    (case ai_Poured => k_is)
    (case l10 => k_is)
    (case c10 => k_is)
    (case k10 => k_is)
    (case ji_Poured => k_is)
    (case mk_Poured => k_is)
    (case kc_Poured => k_is)
    (case is_Poured_Poured => kit_is)
    (case ha_Barred => k_is)
    (case hm_Barred => k_is)
    (case nf_Barred_among => k_is)
    (case ai_Barred => k_is)
    (case l11 => k_is)
    (case c11 => k_is)
    (case k11 => k_is)
    (case ji_Barred => k_is)
    (case mk_Barred => k_is)
    (case kc_Barred => k_is)
    (case is_Barred_Barred => kit_is)
    (case nf_House_told => k_is)
    (case nf_House_tap => k_is)
    (case ai_House => k_is)
    (case l12 => k_is)
    (case c12 => k_is)
    (case k12 => k_is)
    (case ji_House => k_is)
    (case mk_House => k_is)
    (case kc_House => k_is)
    (case am_House_sizes => k_is)
    (case l13 => k_is)
    (case c13 => k_is)
    (case k13 => k_is)
    (case jm_House_sizes => k_is)
    (case am_House_check => k_is)
    (case l14 => k_is)
    (case c14 => k_is)
    (case k14 => k_is)
    (case jm_House_check => k_is)
    (case am_House_moves => k_is)
    (case l15 => k_is)
    (case c15 => k_is)
    (case k15 => k_is)
    (case jm_House_moves => k_is)
    (case am_House_empty => k_is)
    (case l16 => k_is)
    (case c16 => k_is)
    (case k16 => k_is)
    (case jm_House_empty => k_is)
    (case ax_BadHouse => k_is)
    (case xi_BadHouse => k_exc)
    (case xk_BadHouse => k_is)
    (case xb_BadHouse => k_is)
    (case xt_BadHouse => k_is)
    (case ax_BadState => k_is)
    (case xi_BadState => k_exc)
    (case xk_BadState => k_is)
    (case xb_BadState => k_is)
    (case xt_BadState => k_is)
    (case ax_BadMove => k_is)
    (case xi_BadMove => k_exc)
    (case xk_BadMove => k_is)
    (case xb_BadMove => k_is)
    (case xt_BadMove => k_is)
    (case ax_BadGoal => k_is)
    (case xi_BadGoal => k_exc)
    (case xk_BadGoal => k_is)
    (case xb_BadGoal => k_is)
    (case xt_BadGoal => k_is)
    (case ag_MOST_JUGS => k_is)
    (case rg_MOST_JUGS => exact ⟨_, rfl⟩)
    (case ag_MOST => k_is)
    (case rg_MOST => exact ⟨_, rfl⟩)
    (case ag_GREATEST => k_is)
    (case rg_GREATEST => exact ⟨_, rfl⟩)
    (case ag_MOST_STATES => k_is)
    (case rg_MOST_STATES => exact ⟨_, rfl⟩)
    (case ad_spread => k_is)
    (case l17 => k_is)
    (case c17 => k_is)
    (case k17 => k_is)
    (case ad_reached => k_is)
    (case l18 => k_is)
    (case c18 => k_is)
    (case k18 => k_is)
    (case ad_measured => k_is)
    (case l19 => k_is)
    (case c19 => k_is)
    (case k19 => k_is)
    (case ad_within => k_is)
    (case l20 => k_is)
    (case c20 => k_is)
    (case k20 => k_is)
    (case ad_check_jug => k_is)
    (case l21 => k_is)
    (case c21 => k_is)
    (case k21 => k_is)
    (case ad_with_amount => k_is)
    (case l22 => k_is)
    (case c22 => k_is)
    (case k22 => k_is)
    (case ad_check_amount => k_is)
    (case l23 => k_is)
    (case c23 => k_is)
    (case k23 => k_is)
    (case ad_way_to => k_is)
    (case l24 => k_is)
    (case c24 => k_is)
    (case k24 => k_is)
    (case ad_fewest => k_is)
    (case l25 => k_is)
    (case c25 => k_is)
    (case k25 => k_is)
    (case ad__law_cell_at => k_is)
    (case l26 => k_is)
    (case c26 => k_is)
    (case k26 => k_is)
    (case ad__law_draw => k_is)
    (case l27 => k_is)
    (case c27 => k_is)
    (case k27 => k_is)
    (case ad__law_common => k_is)
    (case l28 => k_is)
    (case c28 => k_is)
    (case k28 => k_is)
    (case ad_law => k_is)
    (case l29 => k_is)
    (case c29 => k_is)
    (case k29 => k_is)
    (case zn_bool => k_is)
    (case zn_int => k_is)
    (case zn_isinstance => k_is)
    (case zn_len => k_is)
    (case zn_list => k_is)
    (case zn_max => k_is)
    (case zn_min => k_is)
    (case zn_range => k_is)
    (case zn_sorted => k_is)
    (case zn_tuple => k_is)


