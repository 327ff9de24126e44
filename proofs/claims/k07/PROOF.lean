import PyProof.Rows.All
import Wide.All
import OpenK.AllK
import Wide.FinOn
import HandS.ForMost
import HandS.Exc
import HandS.ExcOwn
import HandS.TryOnly
import HandS.WordsExc
import HandS.IsInst
import HandS.TupAny
import HandS.Deep
import HandS.Wide
import HandS.Conv
import HandS.Codes
import HandS.ExcCtx
import HandS.SuiteRaise
import HandS.HotCalls
import HandS.CallLocal
import HandS.ExcIs
import HandS.DeepEq
import HandS.Style
import HandS.TupSets
import HandS.SortRule
import KE.KDictSum
import KE.SortData
import HandS.Rev
import HandS.StrMore
import KE.KxIndex
import PySem.Challenge.RW_jughouse_k07_written
set_option Elab.async false
set_option linter.all false
set_option maxRecDepth 100000
set_option maxHeartbeats 4000000
/-! J: an abstract store of pure data with ownership, over the hand layer. -/
namespace J
open PySem PySem.Spec L2

/-- what a call lets out: exceptions whose context is None -/
abbrev CXJ := L2N.CX
/-- every tuple of H stands in F -/
def TupIn (F H : Hp) : Prop := ∀ a vs, H a = some (.tup vs) → F a = some (.tup vs)
/-! ### heaps: F is the part of H that never changes any more -/
structure Grow (F H F' H' : Hp) : Prop where
  ff : Same F F'
  hh : Same H H'
  fh : Same F' H'
  nw : ∀ a, H a ≠ none → F a = none → F' a = none
  tt : TupIn F H → TupIn F' H'
theorem Grow.refl {F H : Hp} (fh : Same F H) : Grow F H F H := ⟨Same.refl F, Same.refl H, fh, fun _ _ h => h, fun t => t⟩
theorem Grow.trans {F H F1 H1 F2 H2 : Hp} (a : Grow F H F1 H1) (b : Grow F1 H1 F2 H2) : Grow F H F2 H2 :=
  ⟨a.ff.trans b.ff, a.hh.trans b.hh, b.fh, fun x h n => b.nw x (fun e => h (a.hh.free e)) (a.nw x h n), fun t => b.tt (a.tt t)⟩
theorem same_upd {H : Hp} {p : Addr} {o : HO} (h : H p = none) : Same H (upd H p o) := fun b u e => by
  rw [upd_ne (ne_of_none e h)]
  exact e
theorem same_updR {F H : Hp} {p : Addr} {o : HO} (s : Same F H) (h : F p = none) : Same F (upd H p o) := fun b u e => by
  rw [upd_ne (ne_of_none e h)]
  exact s b u e
/-- a new object, not yet in F -/
theorem tt_upd {F H : Hp} {p : Addr} {o : HO} (t : TupIn F H) (hn : ∀ vs, o ≠ .tup vs) : TupIn F (upd H p o) := fun a vs e => by
  by_cases ha : a = p
  · subst ha
    rw [upd_same] at e
    exact absurd (Option.some.inj e) (hn vs)
  · rw [upd_ne ha] at e
    exact t a vs e
theorem Grow.newH {F H : Hp} {p : Addr} {o : HO} (fh : Same F H) (h : H p = none) (hn : ∀ vs, o ≠ .tup vs := by intro _ h; cases h) : Grow F H F (upd H p o) :=
  ⟨Same.refl F, same_upd h, same_updR fh (fh.free h), fun _ _ n => n, fun t => tt_upd t hn⟩
/-- a new object, in F at once -/
theorem Grow.newF {F H : Hp} {p : Addr} {o : HO} (fh : Same F H) (h : H p = none) : Grow F H (upd F p o) (upd H p o) := by
  refine ⟨same_upd (fh.free h), same_upd h, fun b u e => ?_, fun a ha n => ?_, fun t a vs e => ?_⟩
  · by_cases hb : b = p
    · subst hb
      rw [upd_same] at e ⊢
      exact e
    · rw [upd_ne hb] at e ⊢
      exact fh b u e
  · have hne : a ≠ p := fun e => ha (by rw [e]; exact h)
    rw [upd_ne hne]
    exact n
  · by_cases ha : a = p
    · subst ha
      rw [upd_same] at e ⊢
      exact e
    · rw [upd_ne ha] at e ⊢
      exact t a vs e
/-- freezing what is new since (F, H) -/
theorem Grow.freeze {F H F' H' : Hp} {p : Addr} {o : HO} (g : Grow F H F' H') (h : H p = none) (hf : F' p = none) (hp : H' p = some o) : Grow F H (upd F' p o) H' := by
  refine ⟨g.ff.trans (same_upd hf), g.hh, fun b u e => ?_, fun a ha n => ?_, fun t a vs e => same_upd hf _ _ (g.tt t a vs e)⟩
  · by_cases hb : b = p
    · subst hb
      rw [upd_same] at e
      rw [← e]
      exact hp
    · rw [upd_ne hb] at e
      exact g.fh b u e
  · have hne : a ≠ p := fun e => ha (by rw [e]; exact h)
    rw [upd_ne hne]
    exact g.nw a ha n

/-! ### what a value is, what an object is -/
structure Slot where
  P : Hp → V → Prop
  mono : ∀ {H H' : Hp} {v : V}, Same H H' → P H v → P H' v
structure Own where
  P : Hp → Addr → HO → Prop
  mono : ∀ {H H' : Hp} {a : Addr} {o : HO}, Same H H' → P H a o → P H' a o
/-- a constant -/
def kS (x : V) : Slot := ⟨fun _ v => v = x, fun _ h => h⟩
abbrev iS (i : Int) : Slot := kS (.int i)
abbrev bS (b : Bool) : Slot := kS (.bl b)
abbrev sS (s : Str) : Slot := kS (.str s)
abbrev nS : Slot := kS .non
/-- what stands for ever at an address -/
def refS (o : Own) : Slot := ⟨fun F v => ∃ a ho, v = .ref a ∧ F a = some ho ∧ o.P F a ho, fun {H H' v} s ⟨a, ho, e, h, p⟩ => ⟨a, ho, e, s a _ h, o.mono s p⟩⟩
abbrev PairS (F : Hp) : List V → List Slot → Prop := Paired fun v S => S.P F v
theorem PairS.mono {F F' : Hp} {vs : List V} {ss : List Slot} (s : Same F F') (h : PairS F vs ss) : PairS F' vs ss := Paired.mapP h fun _ S p => S.mono s p
def lstO (ss : List Slot) : Own := ⟨fun F _ ho => ∃ vs, ho = .lst vs ∧ PairS F vs ss, fun s ⟨vs, e, p⟩ => ⟨vs, e, PairS.mono s p⟩⟩
def tupO (ss : List Slot) : Own := ⟨fun F _ ho => ∃ vs, ho = .tup vs ∧ PairS F vs ss, fun s ⟨vs, e, p⟩ => ⟨vs, e, PairS.mono s p⟩⟩
abbrev PairF (F : Hp) : List (Str × V) → List (Str × Slot) → Prop := Paired fun p q => p.1 = q.1 ∧ q.2.P F p.2
def insO (C : Addr) (fs : List (Str × Slot)) : Own :=
  ⟨fun F _ ho => ∃ dx fv, ho = .ins C dx fv ∧ PairF F fv fs, fun s ⟨dx, fv, e, p⟩ => ⟨dx, fv, e, Paired.mapP p fun _ q z => ⟨z.1, q.2.mono s z.2⟩⟩⟩
/-- a dict with tuple keys (the empty one is both), with keys that are ints or texts -/
def dicO (kvs : List (List Key × Slot)) : Own :=
  ⟨fun F _ ho => ∃ kv, ho = .dT kv ∧ Paired (fun (p : List Key × V) (q : List Key × Slot) => p.1 = q.1 ∧ q.2.P F p.2) kv kvs, fun s ⟨kv, e, p⟩ => ⟨kv, e, Paired.mapP p fun _ q z => ⟨z.1, q.2.mono s z.2⟩⟩⟩
def dikO (kvs : List (Key × Slot)) : Own :=
  ⟨fun F _ ho => ∃ kv, ho = .dK kv ∧ Paired (fun (p : Key × V) (q : Key × Slot) => p.1 = q.1 ∧ q.2.P F p.2) kv kvs, fun s ⟨kv, e, p⟩ => ⟨kv, e, Paired.mapP p fun _ q z => ⟨z.1, q.2.mono s z.2⟩⟩⟩
abbrev lstS (ss : List Slot) : Slot := refS (lstO ss)
abbrev tupS (ss : List Slot) : Slot := refS (tupO ss)
abbrev objS (C : Addr) (fs : List (Str × Slot)) : Slot := refS (insO C fs)

/-! ### the abstract store -/
inductive Ent where
  | un
  | v (S : Slot)
  /-- one's own: may be changed -/
  | ow (o : Own)
  /-- lent: stands as it is while the call runs -/
  | bo (o : Own)
  /-- a new instance whose fields are own objects -/
  | ni (C : Addr) (fs : List (Str × Own))
def ArgOk (F H : Hp) (v : V) : Ent → Prop
  | .v S => S.P F v
  | .bo o => ∃ p ho, v = .ref p ∧ H p = some ho ∧ o.P F p ho
  | _ => False
theorem ArgOk.grow {F H F' H' : Hp} {v : V} {e : Ent} (g : Grow F H F' H') (h : ArgOk F H v e) : ArgOk F' H' v e := by
  cases e with
  | un => exact h
  | v S => exact S.mono g.ff h
  | ow o => exact h
  | ni C fs => exact h
  | bo o =>
    obtain ⟨p, ho, e, hp, q⟩ := h
    exact ⟨p, ho, e, g.hh p _ hp, o.mono g.ff q⟩
def NiF (H0 F H : Hp) (fv : List (Str × V)) (fs : List (Str × Own)) : Prop := Paired (fun a b => a.1 = b.1 ∧ ∃ q ho, a.2 = V.ref q ∧ H0 q = none ∧ F q = none ∧ H q = some ho ∧ b.2.P F q ho) fv fs
/-- a is one of the own objects of the instance in slot i -/
def NiA (F : Hp) (σ : L2.St) (i : Nat) (a : Addr) : Prop := ∃ p C dx fv, σ[i]? = some (some (.ref p)) ∧ F p = some (.ins C dx fv) ∧ V.ref a ∈ fv.map (·.2)
theorem NiA.unset {F : Hp} {σ : L2.St} {i j : Nat} {a : Addr} {x : Option V} (h : NiA F (σ.set j x) i a) (ne : j ≠ i) : NiA F σ i a := by
  obtain ⟨p, C, dx, fv, e, q⟩ := h
  rw [List.getElem?_set_ne ne] at e
  exact ⟨p, C, dx, fv, e, q⟩
structure St (F0 H0 F H : Hp) (σ : L2.St) (δ : List Ent) : Prop where
  g : Grow F0 H0 F H
  len : σ.length = δ.length
  at_ : ∀ (i : Nat) (S : Slot), δ[i]? = some (.v S) → ∃ v, σ[i]? = some (some v) ∧ S.P F v
  ow : ∀ (i : Nat) (o : Own), δ[i]? = some (.ow o) → ∃ p ho, σ[i]? = some (some (.ref p)) ∧ H0 p = none ∧ F p = none ∧ H p = some ho ∧ o.P F p ho
  bo : ∀ (i : Nat) (o : Own), δ[i]? = some (.bo o) → ∃ p ho, σ[i]? = some (some (.ref p)) ∧ H0 p = some ho ∧ o.P F p ho
  sep : ∀ (i j : Nat) (o o' : Own) (p : Addr), i ≠ j → δ[i]? = some (.ow o) → δ[j]? = some (.ow o') → σ[i]? = some (some (.ref p)) → σ[j]? = some (some (.ref p)) → False
  tt : TupIn F H
  ni : ∀ (i : Nat) (C : Addr) (fs : List (Str × Own)), δ[i]? = some (.ni C fs) → ∃ p dx fv, σ[i]? = some (some (.ref p)) ∧ F p = some (.ins C dx fv) ∧ (fv.map (·.2)).Nodup ∧ NiF H0 F H fv fs
  sepn : ∀ (i j : Nat) (o : Own) (a : Addr) (C : Addr) (fs : List (Str × Own)), δ[i]? = some (.ni C fs) → δ[j]? = some (.ow o) → NiA F σ i a → σ[j]? = some (some (.ref a)) → False
section
variable {F0 H0 F H F' H' : Hp} {σ : L2.St} {δ : List Ent}
theorem St.fh (s : St F0 H0 F H σ δ) : Same F H := s.g.fh
theorem NiF.grow (g : Grow F H F' H') {fv : List (Str × V)} {fs : List (Str × Own)} (h : NiF H0 F H fv fs) : NiF H0 F' H' fv fs :=
  Paired.mapP h fun _ b ⟨e, q, ho, e1, h0, hf, hp, z⟩ => ⟨e, q, ho, e1, h0, g.nw q (by rw [hp]; exact fun z => nomatch z) hf, g.hh q _ hp, b.2.mono g.ff z⟩
/-- the own objects of an instance are new and no part of F -/
theorem NiF.mem {fv : List (Str × V)} {fs : List (Str × Own)} (h : NiF H0 F H fv fs) {a : Addr} (ha : V.ref a ∈ fv.map (·.2)) : H0 a = none ∧ F a = none ∧ ∃ ho, H a = some ho := by
  induction h with
  | nil => cases ha
  | @cons x y _ _ p _ ih =>
    obtain ⟨_, q, ho, e1, h0, hf, hp, _⟩ := p
    rcases List.mem_cons.mp ha with e | ha
    · have e : V.ref a = x.2 := e
      rw [e1] at e
      cases e
      exact ⟨h0, hf, ho, hp⟩
    · exact ih ha
theorem NiF.frameH {p : Addr} {u : HO} {fv : List (Str × V)} {fs : List (Str × Own)} (h : NiF H0 F H fv fs) (far : ∀ {a : Addr}, V.ref a ∈ fv.map (·.2) → a ≠ p) : NiF H0 F (upd H p u) fv fs := by
  induction h with
  | nil => exact .nil
  | @cons x y _ _ pp _ ih =>
    obtain ⟨e0, q, ho2, e1, z0, zf, zp, zz⟩ := pp
    refine .cons ⟨e0, q, ho2, e1, z0, zf, ?_, zz⟩ (ih fun ha => far (List.mem_cons_of_mem _ ha))
    rw [upd_ne (far (by rw [← e1]; exact List.mem_cons_self))]
    exact zp
theorem NiF.frameF {p : Addr} {u : HO} (sm : Same F (upd F p u)) {fv : List (Str × V)} {fs : List (Str × Own)} (h : NiF H0 F H fv fs) (far : ∀ {a : Addr}, V.ref a ∈ fv.map (·.2) → a ≠ p) : NiF H0 (upd F p u) H fv fs := by
  induction h with
  | nil => exact .nil
  | @cons x y _ _ pp _ ih =>
    obtain ⟨e0, q2, ho2, e1, z0, zf, zp, zz⟩ := pp
    refine .cons ⟨e0, q2, ho2, e1, z0, ?_, zp, y.2.mono sm zz⟩ (ih fun ha => far (List.mem_cons_of_mem _ ha))
    rw [upd_ne (far (by rw [← e1]; exact List.mem_cons_self))]
    exact zf
theorem St.niA (s : St F0 H0 F H σ δ) {i : Nat} {C : Addr} {fs : List (Str × Own)} (h : δ[i]? = some (.ni C fs)) {a : Addr} (ha : NiA F σ i a) : H0 a = none ∧ F a = none ∧ ∃ ho, H a = some ho := by
  obtain ⟨p, dx, fv, e, hp, _, z⟩ := s.ni i C fs h
  obtain ⟨p', C', dx', fv', e', hp', hm⟩ := ha
  rw [e] at e'
  cases e'
  rw [hp] at hp'
  cases hp'
  exact z.mem hm
theorem NiA.back {F F' : Hp} {σ : L2.St} {i : Nat} {a : Addr} (sm : Same F F') {p C dx : Addr} {fv : List (Str × V)} (e : σ[i]? = some (some (.ref p))) (hp : F p = some (.ins C dx fv)) (h : NiA F' σ i a) : NiA F σ i a := by
  obtain ⟨p', C', dx', fv', e', hp', hm⟩ := h
  rw [e] at e'
  cases e'
  rw [sm _ _ hp] at hp'
  cases hp'
  exact ⟨p, C, dx, fv, e, hp, hm⟩
theorem St.grow (s : St F0 H0 F H σ δ) (g : Grow F H F' H') : St F0 H0 F' H' σ δ where
  g := s.g.trans g
  len := s.len
  at_ := fun i S h => let ⟨v, e, p⟩ := s.at_ i S h; ⟨v, e, S.mono g.ff p⟩
  ow := fun i o h => let ⟨p, ho, e, h0, hf, hp, q⟩ := s.ow i o h; ⟨p, ho, e, h0, g.nw p (by rw [hp]; exact fun z => nomatch z) hf, g.hh p _ hp, o.mono g.ff q⟩
  bo := fun i o h => let ⟨p, ho, e, hp, q⟩ := s.bo i o h; ⟨p, ho, e, hp, o.mono g.ff q⟩
  sep := s.sep
  tt := g.tt s.tt
  ni := fun i C fs h => let ⟨p, dx, fv, e, hp, nd, z⟩ := s.ni i C fs h; ⟨p, dx, fv, e, g.ff p _ hp, nd, z.grow g⟩
  sepn := fun i j o a C fs h1 h2 h3 h4 => let ⟨p, dx, fv, e, hp, nd, z⟩ := s.ni i C fs h1; s.sepn i j o a C fs h1 h2 (h3.back g.ff e hp) h4
/-- F0 taken anew -/
def Base (F0 H0 F1 : Hp) : Prop := ∀ {F' H' : Hp}, Grow F1 H0 F' H' → Grow F0 H0 F' H'
theorem St.base (s : St F0 H0 F H σ δ) : Base F0 H0 F := fun g => ⟨s.g.ff.trans g.ff, g.hh, g.fh, fun a h n => g.nw a h (s.g.nw a h n), fun t => g.tt fun a vs e => s.g.ff a _ (t a vs e)⟩
theorem St.rebase (s : St F0 H0 F H σ δ) : St F H0 F H σ δ := ⟨⟨Same.refl F, s.g.hh, s.g.fh, fun _ _ n => n, fun _ => s.tt⟩, s.len, s.at_, s.ow, s.bo, s.sep, s.tt, s.ni, s.sepn⟩
theorem St.unbase {F1 : Hp} (b : Base F0 H0 F1) (s : St F1 H0 F H σ δ) : St F0 H0 F H σ δ := ⟨b s.g, s.len, s.at_, s.ow, s.bo, s.sep, s.tt, s.ni, s.sepn⟩
theorem get_set {α : Type} {l : List α} {i j : Nat} {x y : α} (h : (l.set i x)[j]? = some y) : (j = i ∧ y = x ∧ i < l.length) ∨ (j ≠ i ∧ l[j]? = some y) := by
  by_cases e : j = i
  · subst e
    have hl : j < l.length := by
      have := (List.getElem?_eq_some_iff.mp h).1
      rwa [List.length_set] at this
    rw [List.getElem?_set_self hl] at h
    exact .inl ⟨rfl, (Option.some.inj h).symm, hl⟩
  · rw [List.getElem?_set_ne (fun z => e z.symm)] at h
    exact .inr ⟨e, h⟩
theorem St.set_v (s : St F0 H0 F H σ δ) {i : Nat} {v : V} {S : Slot} (p : S.P F v) : St F0 H0 F H (σ.set i (some v)) (δ.set i (.v S)) where
  g := s.g
  tt := s.tt
  ni := fun k C fs h => by
    rcases get_set h with ⟨rfl, e, hl⟩ | ⟨ne, h⟩
    · cases e
    · obtain ⟨p, dx, fv, e, q⟩ := s.ni k C fs h
      exact ⟨p, dx, fv, by rw [List.getElem?_set_ne (fun z => ne z.symm)]; exact e, q⟩
  sepn := fun k j o a C fs h1 h2 h3 h4 => by
    rcases get_set h1 with ⟨rfl, e, hl⟩ | ⟨ne1, h1⟩
    · cases e
    · rcases get_set h2 with ⟨rfl, e, hl⟩ | ⟨ne2, h2⟩
      · cases e
      · rw [List.getElem?_set_ne (fun z => ne2 z.symm)] at h4
        exact s.sepn k j o a C fs h1 h2 (h3.unset fun z => ne1 z.symm) h4
  len := by rw [List.length_set, List.length_set]; exact s.len
  at_ := fun j S' h => by
    rcases get_set h with ⟨rfl, e, hl⟩ | ⟨ne, h⟩
    · cases e
      exact ⟨v, List.getElem?_set_self (by rw [s.len]; exact hl), p⟩
    · obtain ⟨w, e, q⟩ := s.at_ j S' h
      exact ⟨w, by rw [List.getElem?_set_ne (fun z => ne z.symm)]; exact e, q⟩
  ow := fun j o h => by
    rcases get_set h with ⟨rfl, e, hl⟩ | ⟨ne, h⟩
    · cases e
    · obtain ⟨w, ho, e, q⟩ := s.ow j o h
      exact ⟨w, ho, by rw [List.getElem?_set_ne (fun z => ne z.symm)]; exact e, q⟩
  bo := fun j o h => by
    rcases get_set h with ⟨rfl, e, hl⟩ | ⟨ne, h⟩
    · cases e
    · obtain ⟨w, ho, e, q⟩ := s.bo j o h
      exact ⟨w, ho, by rw [List.getElem?_set_ne (fun z => ne z.symm)]; exact e, q⟩
  sep := fun j k o o' a ne h1 h2 h3 h4 => by
    rcases get_set h1 with ⟨rfl, e, hl⟩ | ⟨ne1, h1⟩
    · cases e
    · rcases get_set h2 with ⟨rfl, e, hl⟩ | ⟨ne2, h2⟩
      · cases e
      · rw [List.getElem?_set_ne (fun z => ne1 z.symm)] at h3
        rw [List.getElem?_set_ne (fun z => ne2 z.symm)] at h4
        exact s.sep j k o o' a ne h1 h2 h3 h4
/-- a slot forgotten -/
theorem St.set_un (s : St F0 H0 F H σ δ) {i : Nat} (x : Option V) : St F0 H0 F H (σ.set i x) (δ.set i .un) where
  g := s.g
  tt := s.tt
  ni := fun k C fs h => by
    rcases get_set h with ⟨rfl, e, hl⟩ | ⟨ne, h⟩
    · cases e
    · obtain ⟨p, dx, fv, e, q⟩ := s.ni k C fs h
      exact ⟨p, dx, fv, by rw [List.getElem?_set_ne (fun z => ne z.symm)]; exact e, q⟩
  sepn := fun k j o a C fs h1 h2 h3 h4 => by
    rcases get_set h1 with ⟨rfl, e, hl⟩ | ⟨ne1, h1⟩
    · cases e
    · rcases get_set h2 with ⟨rfl, e, hl⟩ | ⟨ne2, h2⟩
      · cases e
      · rw [List.getElem?_set_ne (fun z => ne2 z.symm)] at h4
        exact s.sepn k j o a C fs h1 h2 (h3.unset fun z => ne1 z.symm) h4
  len := by rw [List.length_set, List.length_set]; exact s.len
  at_ := fun j S' h => by
    rcases get_set h with ⟨rfl, e, hl⟩ | ⟨ne, h⟩
    · cases e
    · obtain ⟨w, e, q⟩ := s.at_ j S' h
      exact ⟨w, by rw [List.getElem?_set_ne (fun z => ne z.symm)]; exact e, q⟩
  ow := fun j o h => by
    rcases get_set h with ⟨rfl, e, hl⟩ | ⟨ne, h⟩
    · cases e
    · obtain ⟨w, ho, e, q⟩ := s.ow j o h
      exact ⟨w, ho, by rw [List.getElem?_set_ne (fun z => ne z.symm)]; exact e, q⟩
  bo := fun j o h => by
    rcases get_set h with ⟨rfl, e, hl⟩ | ⟨ne, h⟩
    · cases e
    · obtain ⟨w, ho, e, q⟩ := s.bo j o h
      exact ⟨w, ho, by rw [List.getElem?_set_ne (fun z => ne z.symm)]; exact e, q⟩
  sep := fun j k o o' a ne h1 h2 h3 h4 => by
    rcases get_set h1 with ⟨rfl, e, hl⟩ | ⟨ne1, h1⟩
    · cases e
    · rcases get_set h2 with ⟨rfl, e, hl⟩ | ⟨ne2, h2⟩
      · cases e
      · rw [List.getElem?_set_ne (fun z => ne1 z.symm)] at h3
        rw [List.getElem?_set_ne (fun z => ne2 z.symm)] at h4
        exact s.sep j k o o' a ne h1 h2 h3 h4
/-- a new object given to a slot -/
theorem St.set_ow (s : St F0 H0 F H σ δ) {i : Nat} {p : Addr} {ho : HO} {o : Own} (g : Grow F H F' H') (hn : H p = none) (hf : F' p = none) (hp : H' p = some ho) (q : o.P F' p ho) :
    St F0 H0 F' H' (σ.set i (some (.ref p))) (δ.set i (.ow o)) where
  g := s.g.trans g
  tt := g.tt s.tt
  ni := fun k C fs h => by
    rcases get_set h with ⟨rfl, e, hl⟩ | ⟨ne, h⟩
    · cases e
    · obtain ⟨p, dx, fv, e, q⟩ := (s.grow g).ni k C fs h
      exact ⟨p, dx, fv, by rw [List.getElem?_set_ne (fun z => ne z.symm)]; exact e, q⟩
  sepn := fun k j o2 a C fs h1 h2 h3 h4 => by
    rcases get_set h1 with ⟨_, e, _⟩ | ⟨ne1, g1⟩
    · cases e
    · have g3 := h3.unset fun z => ne1 z.symm
      rcases get_set h2 with ⟨z2, e, hl⟩ | ⟨ne2, g2⟩
      · rw [z2, List.getElem?_set_self (by rw [s.len]; exact hl)] at h4
        have ea : p = a := by cases h4; rfl
        rw [← ea] at g3
        obtain ⟨p', dx, fv, e', hp', nd, z⟩ := s.ni k C fs g1
        obtain ⟨_, _, ho, hh⟩ := s.niA g1 (g3.back g.ff e' hp')
        rw [hn] at hh
        cases hh
      · rw [List.getElem?_set_ne (fun z => ne2 z.symm)] at h4
        exact (s.grow g).sepn k j o2 a C fs g1 g2 g3 h4
  len := by rw [List.length_set, List.length_set]; exact s.len
  at_ := fun j S' h => by
    rcases get_set h with ⟨rfl, e, hl⟩ | ⟨ne, h⟩
    · cases e
    · obtain ⟨w, e, q⟩ := (s.grow g).at_ j S' h
      exact ⟨w, by rw [List.getElem?_set_ne (fun z => ne z.symm)]; exact e, q⟩
  ow := fun j o' h => by
    rcases get_set h with ⟨rfl, e, hl⟩ | ⟨ne, h⟩
    · cases e
      exact ⟨p, ho, List.getElem?_set_self (by rw [s.len]; exact hl), s.g.hh.free hn, hf, hp, q⟩
    · obtain ⟨w, ho, e, q⟩ := (s.grow g).ow j o' h
      exact ⟨w, ho, by rw [List.getElem?_set_ne (fun z => ne z.symm)]; exact e, q⟩
  bo := fun j o h => by
    rcases get_set h with ⟨rfl, e, hl⟩ | ⟨ne, h⟩
    · cases e
    · obtain ⟨w, ho, e, q⟩ := (s.grow g).bo j o h
      exact ⟨w, ho, by rw [List.getElem?_set_ne (fun z => ne z.symm)]; exact e, q⟩
  sep := fun j k o1 o2 a ne h1 h2 h3 h4 => by
    have away : ∀ {m : Nat} {o3 : Own}, δ[m]? = some (.ow o3) → σ[m]? = some (some (V.ref p)) → False := fun {m o3} hm hs => by
      obtain ⟨w, hw, e, _, _, hh, _⟩ := s.ow m o3 hm
      rw [hs] at e
      cases e
      rw [hn] at hh
      cases hh
    rcases get_set h1 with ⟨z1, e, hl⟩ | ⟨ne1, g1⟩
    · rcases get_set h2 with ⟨z2, e', hl'⟩ | ⟨ne2, g2⟩
      · exact ne (z1.trans z2.symm)
      · rw [z1, List.getElem?_set_self (by rw [s.len]; exact hl)] at h3
        rw [List.getElem?_set_ne (fun z => ne2 z.symm)] at h4
        cases h3
        exact away g2 h4
    · rw [List.getElem?_set_ne (fun z => ne1 z.symm)] at h3
      rcases get_set h2 with ⟨z2, e', hl'⟩ | ⟨ne2, g2⟩
      · rw [z2, List.getElem?_set_self (by rw [s.len]; exact hl')] at h4
        cases h4
        exact away g1 h3
      · rw [List.getElem?_set_ne (fun z => ne2 z.symm)] at h4
        exact s.sep j k o1 o2 a ne g1 g2 h3 h4
/-- an own object changed -/
theorem St.mut (s : St F0 H0 F H σ δ) {i : Nat} {p : Addr} {ho : HO} {o o' : Own} (hi : δ[i]? = some (.ow o)) (hs : σ[i]? = some (some (.ref p))) (q : o'.P F p ho) (hn : ∀ vs, ho ≠ .tup vs := by intro _ h; cases h) :
    St F0 H0 F (upd H p ho) σ (δ.set i (.ow o')) := by
  obtain ⟨p', ho', e, h0, hf, hp, _⟩ := s.ow i o hi
  rw [hs] at e
  cases e
  have hl : i < δ.length := (List.getElem?_eq_some_iff.mp hi).1
  refine ⟨⟨s.g.ff, same_updR s.g.hh h0, same_updR s.g.fh hf, s.g.nw, fun _ => tt_upd s.tt hn⟩, by rw [List.length_set]; exact s.len, fun j S' h => ?_, fun j o2 h => ?_, fun j o2 h => ?_, fun j k o1 o2 a ne h1 h2 h3 h4 => ?_, tt_upd s.tt hn, fun k C fs h => ?_, fun k j o2 a C fs h1 h2 h3 h4 => ?_⟩
  · rcases get_set h with ⟨rfl, e, _⟩ | ⟨ne, h⟩
    · cases e
    · exact s.at_ j S' h
  · rcases get_set h with ⟨rfl, e, _⟩ | ⟨ne, h⟩
    · cases e
      exact ⟨p, ho, hs, h0, hf, upd_same, q⟩
    · obtain ⟨w, ho2, e, z0, zf, zp, zq⟩ := s.ow j o2 h
      have hne : w ≠ p := fun z => by
        subst z
        exact s.sep j i o2 o w ne h hi e hs
      exact ⟨w, ho2, e, z0, zf, by rw [upd_ne hne]; exact zp, zq⟩
  · rcases get_set h with ⟨rfl, e, _⟩ | ⟨ne, h⟩
    · cases e
    · exact s.bo j o2 h
  · have h1' : ∃ o3, δ[j]? = some (.ow o3) := by
      rcases get_set h1 with ⟨rfl, e, _⟩ | ⟨_, h⟩
      · exact ⟨o, hi⟩
      · exact ⟨o1, h⟩
    have h2' : ∃ o3, δ[k]? = some (.ow o3) := by
      rcases get_set h2 with ⟨rfl, e, _⟩ | ⟨_, h⟩
      · exact ⟨o, hi⟩
      · exact ⟨o2, h⟩
    obtain ⟨o3, h1'⟩ := h1'
    obtain ⟨o4, h2'⟩ := h2'
    exact s.sep j k o3 o4 a ne h1' h2' h3 h4
  · rcases get_set h with ⟨rfl, e, _⟩ | ⟨ne, h⟩
    · cases e
    · obtain ⟨p2, dx, fv, e2, hp2, nd, z⟩ := s.ni k C fs h
      refine ⟨p2, dx, fv, e2, hp2, nd, ?_⟩
      have far : ∀ {a : Addr}, V.ref a ∈ fv.map (·.2) → a ≠ p := fun {a} ha z => by
        subst z
        exact s.sepn k i o a C fs h hi ⟨p2, C, dx, fv, e2, hp2, ha⟩ hs
      exact z.frameH far
  · rcases get_set h1 with ⟨_, e, _⟩ | ⟨ne1, g1⟩
    · cases e
    · rcases get_set h2 with ⟨z2, e, _⟩ | ⟨ne2, g2⟩
      · exact s.sepn k i o a C fs g1 hi h3 (z2 ▸ h4)
      · exact s.sepn k j o2 a C fs g1 g2 h3 h4
/-- an own object never changed any more -/
theorem St.freeze (s : St F0 H0 F H σ δ) {i : Nat} {o : Own} (hi : δ[i]? = some (.ow o)) : ∃ F', St F0 H0 F' H σ (δ.set i (.v (refS o))) := by
  obtain ⟨p, ho, hs, h0, hf, hp, q⟩ := s.ow i o hi
  have hl : i < δ.length := (List.getElem?_eq_some_iff.mp hi).1
  have sm : Same F (upd F p ho) := same_upd hf
  refine ⟨upd F p ho, s.g.freeze h0 hf hp, by rw [List.length_set]; exact s.len, fun j S' h => ?_, fun j o2 h => ?_, fun j o2 h => ?_, fun j k o1 o2 a ne h1 h2 h3 h4 => ?_, fun a vs e => sm _ _ (s.tt a vs e), fun k C fs h => ?_, fun k j o2 a C fs h1 h2 h3 h4 => ?_⟩
  · rcases get_set h with ⟨rfl, e, _⟩ | ⟨ne, h⟩
    · cases e
      exact ⟨.ref p, hs, p, ho, rfl, upd_same, o.mono sm q⟩
    · obtain ⟨w, e, q⟩ := s.at_ j S' h
      exact ⟨w, e, S'.mono sm q⟩
  · rcases get_set h with ⟨rfl, e, _⟩ | ⟨ne, h⟩
    · cases e
    · obtain ⟨w, ho2, e, z0, zf, zp, zq⟩ := s.ow j o2 h
      have hne : w ≠ p := fun z => by
        subst z
        exact s.sep j i o2 o w ne h hi e hs
      exact ⟨w, ho2, e, z0, by rw [upd_ne hne]; exact zf, zp, o2.mono sm zq⟩
  · rcases get_set h with ⟨rfl, e, _⟩ | ⟨ne, h⟩
    · cases e
    · obtain ⟨w, ho2, e, z0, zq⟩ := s.bo j o2 h
      exact ⟨w, ho2, e, z0, o2.mono sm zq⟩
  · rcases get_set h1 with ⟨rfl, e, _⟩ | ⟨_, h1⟩
    · cases e
    · rcases get_set h2 with ⟨rfl, e, _⟩ | ⟨_, h2⟩
      · cases e
      · exact s.sep j k o1 o2 a ne h1 h2 h3 h4
  · rcases get_set h with ⟨rfl, e, _⟩ | ⟨ne, h⟩
    · cases e
    · obtain ⟨p2, dx, fv, e2, hp2, nd, z⟩ := s.ni k C fs h
      refine ⟨p2, dx, fv, e2, sm _ _ hp2, nd, ?_⟩
      have far : ∀ {a : Addr}, V.ref a ∈ fv.map (·.2) → a ≠ p := fun {a} ha z => by
        subst z
        exact s.sepn k i o a C fs h hi ⟨p2, C, dx, fv, e2, hp2, ha⟩ hs
      exact z.frameF sm far
  · rcases get_set h1 with ⟨_, e, _⟩ | ⟨ne1, g1⟩
    · cases e
    · rcases get_set h2 with ⟨_, e, _⟩ | ⟨ne2, g2⟩
      · cases e
      · obtain ⟨p2, dx, fv, e2, hp2, nd, z⟩ := s.ni k C fs g1
        exact s.sepn k j o2 a C fs g1 g2 (h3.back sm e2 hp2) h4
end
end J

namespace J
open PySem PySem.Spec L2

/-! ### judgements -/
/-- an expression gives what e says -/
def EvE (te : TE) (δ : List Ent) (e : Ent) : Prop := ∀ (F0 H0 F H : Hp) (σ : L2.St), St F0 H0 F H σ δ → ∀ Q : VK, (∀ v F' H', Grow F H F' H' → ArgOk F' H' v e → Q v H') → te σ H Q
/-- .. a new object -/
def EvO (te : TE) (δ : List Ent) (o : Own) : Prop := ∀ (F0 H0 F H : Hp) (σ : L2.St), St F0 H0 F H σ δ → ∀ Q : VK, (∀ p ho F' H', Grow F H F' H' → H p = none → F' p = none → H' p = some ho → o.P F' p ho → Q (.ref p) H') → te σ H Q
def EvT (tt : TT) (δ : List Ent) (b : Bool) : Prop := ∀ (F0 H0 F H : Hp) (σ : L2.St), St F0 H0 F H σ δ → ∀ Q : Bool → Hp → Prop, (∀ F' H', Grow F H F' H' → Q b H') → tt σ H Q
def EvAs (ta : TA) (δ : List Ent) (es : List Ent) : Prop := ∀ (F0 H0 F H : Hp) (σ : L2.St), St F0 H0 F H σ δ → ∀ Q : List V → Hp → Prop, (∀ vs F' H', Grow F H F' H' → Paired (ArgOk F' H') vs es → Q vs H') → ta σ H Q
/-- .. raises: E is the wish -/
def EvX (te : TE) (δ : List Ent) (E : XK) (c : Addr) : Prop := ∀ (F0 H0 F H : Hp) (σ : L2.St), St F0 H0 F H σ δ → (∀ F' H', Grow F H F' H' → E (.ref c) none H') → ∀ Q : VK, te σ H Q
section
variable {te ta tb : TE} {tt tu : TT} {δ : List Ent} {e e1 e2 e3 : Ent} {o : Own} {S : Slot}
theorem EvO.v (h : EvO te δ o) : EvE te δ (.v (refS o)) := fun F0 H0 F H σ s Q q => h F0 H0 F H σ s Q fun p ho F' H' g hn hf hp ho' =>
  q _ (upd F' p ho) H' (g.freeze hn hf hp) ⟨p, ho, rfl, upd_same, o.mono (same_upd hf) ho'⟩
theorem EvO.b (h : EvO te δ o) : EvE te δ (.bo o) := fun F0 H0 F H σ s Q q => h F0 H0 F H σ s Q fun p ho F' H' g hn hf hp ho' => q _ F' H' g ⟨p, ho, rfl, hp, ho'⟩
theorem EvE.b (h : EvE te δ (.v (refS o))) : EvE te δ (.bo o) := fun F0 H0 F H σ s Q q => h F0 H0 F H σ s Q fun v F' H' g ⟨p, ho, e, hp, z⟩ => q v F' H' g ⟨p, ho, e, g.fh p _ hp, z⟩
theorem EvE.to (h : EvE te δ e) (k : e = e1) : EvE te δ e1 := k ▸ h
theorem EvO.to {o' : Own} (h : EvO te δ o) (k : o = o') : EvO te δ o' := k ▸ h
theorem EvT.to {a b : Bool} (h : EvT tt δ a) (k : a = b) : EvT tt δ b := k ▸ h
/-- names -/
theorem ev_v {i : Nat} (h : δ[i]? = some (.v S)) : EvE (tVar i) δ (.v S) := fun F0 H0 F H σ s Q q => let ⟨v, e, p⟩ := s.at_ i S h; ⟨v, e, q v F H (Grow.refl s.fh) p⟩
theorem ev_ow {i : Nat} (h : δ[i]? = some (.ow o)) : EvE (tVar i) δ (.bo o) := fun F0 H0 F H σ s Q q => let ⟨p, ho, e, _, _, hp, z⟩ := s.ow i o h; ⟨.ref p, e, q _ F H (Grow.refl s.fh) ⟨p, ho, rfl, hp, z⟩⟩
theorem ev_bo {i : Nat} (h : δ[i]? = some (.bo o)) : EvE (tVar i) δ (.bo o) := fun F0 H0 F H σ s Q q =>
  let ⟨p, ho, e, hp, z⟩ := s.bo i o h
  ⟨.ref p, e, q _ F H (Grow.refl s.fh) ⟨p, ho, rfl, s.g.hh p _ hp, z⟩⟩
theorem ev_c {v : V} : EvE (tC v) δ (.v (kS v)) := fun F0 H0 F H σ s Q q => q v F H (Grow.refl s.fh) rfl

/-! ### operators on values -/
def OpE (r : R2) (e1 e2 e3 : Ent) : Prop := ∀ (F H : Hp) (x y : V), Same F H → ArgOk F H x e1 → ArgOk F H y e2 → ∀ Q : VK, (∀ v F' H', Grow F H F' H' → ArgOk F' H' v e3 → Q v H') → r x y H Q
def OpO (r : R2) (e1 e2 : Ent) (o : Own) : Prop := ∀ (F H : Hp) (x y : V), Same F H → ArgOk F H x e1 → ArgOk F H y e2 → ∀ Q : VK, (∀ p ho F' H', Grow F H F' H' → H p = none → F' p = none → H' p = some ho → o.P F' p ho → Q (.ref p) H') → r x y H Q
theorem ev_op {r : R2} (ha : EvE ta δ e1) (hb : EvE tb δ e2) (hr : OpE r e1 e2 e3) : EvE (tOp r ta tb) δ e3 := fun F0 H0 F H σ s Q q =>
  ha F0 H0 F H σ s _ fun x F1 H1 g1 a1 => hb F0 H0 F1 H1 σ (s.grow g1) _ fun y F2 H2 g2 a2 => hr F2 H2 x y g2.fh (a1.grow g2) a2 Q fun v F3 H3 g3 a3 => q v F3 H3 ((g1.trans g2).trans g3) a3
theorem eo_op {r : R2} (ha : EvE ta δ e1) (hb : EvE tb δ e2) (hr : OpO r e1 e2 o) : EvO (tOp r ta tb) δ o := fun F0 H0 F H σ s Q q =>
  ha F0 H0 F H σ s _ fun x F1 H1 g1 a1 => hb F0 H0 F1 H1 σ (s.grow g1) _ fun y F2 H2 g2 a2 => hr F2 H2 x y g2.fh (a1.grow g2) a2 Q fun p ho F3 H3 g3 hn hf hp z =>
    q p ho F3 H3 ((g1.trans g2).trans g3) ((g1.hh.trans g2.hh).free hn) hf hp z
def UnE (r : V → Hp → VK → Prop) (e1 e2 : Ent) : Prop := ∀ (F H : Hp) (x : V), Same F H → ArgOk F H x e1 → ∀ Q : VK, (∀ v F' H', Grow F H F' H' → ArgOk F' H' v e2 → Q v H') → r x H Q
theorem ev_un {r : V → Hp → VK → Prop} (ha : EvE ta δ e1) (hr : UnE r e1 e2) : EvE (tUn r ta) δ e2 := fun F0 H0 F H σ s Q q =>
  ha F0 H0 F H σ s _ fun x F1 H1 g1 a1 => hr F1 H1 x g1.fh a1 Q fun v F3 H3 g3 a3 => q v F3 H3 (g1.trans g3) a3
theorem OpE.inl {r r' : R2} (h : OpE r e1 e2 e3) : OpE (fun x y H Q => r x y H Q ∨ r' x y H Q) e1 e2 e3 := fun F H x y s a b Q q => .inl (h F H x y s a b Q q)
theorem OpE.inr {r r' : R2} (h : OpE r' e1 e2 e3) : OpE (fun x y H Q => r x y H Q ∨ r' x y H Q) e1 e2 e3 := fun F H x y s a b Q q => .inr (h F H x y s a b Q q)
theorem OpO.inl {r r' : R2} (h : OpO r e1 e2 o) : OpO (fun x y H Q => r x y H Q ∨ r' x y H Q) e1 e2 o := fun F H x y s a b Q q => .inl (h F H x y s a b Q q)
theorem OpO.inr {r r' : R2} (h : OpO r' e1 e2 o) : OpO (fun x y H Q => r x y H Q ∨ r' x y H Q) e1 e2 o := fun F H x y s a b Q q => .inr (h F H x y s a b Q q)
theorem op_k {r : R2} {x y z : V} (h : ∀ (H : Hp) (Q : VK), Q z H → r x y H Q) : OpE r (.v (kS x)) (.v (kS y)) (.v (kS z)) := fun F H a b s ha hb Q q => by
  cases ha
  cases hb
  exact h H Q (q _ F H (Grow.refl s) rfl)
theorem op_I0 {g : Int → Int → V} {i j : Int} : OpE (rI0 g) (.v (iS i)) (.v (iS j)) (.v (kS (g i j))) := op_k fun _ _ q => ⟨i, j, rfl, rfl, q⟩
theorem op_I {C : Int → Int → Prop} {g : Int → Int → V} {i j : Int} (h : C i j) : OpE (rI C g) (.v (iS i)) (.v (iS j)) (.v (kS (g i j))) := op_k fun _ _ q => ⟨i, j, rfl, rfl, h, q⟩
theorem op_Eq {x y : V} (h : scal x y = true) : OpE rEq (.v (kS x)) (.v (kS y)) (.v (bS (decide (x = y)))) := op_k fun _ _ q => ⟨h, q⟩
theorem op_Ne {x y : V} (h : scal x y = true) : OpE rNe (.v (kS x)) (.v (kS y)) (.v (bS (!decide (x = y)))) := op_k fun _ _ q => ⟨h, q⟩
theorem un_I {g : Int → V} {i : Int} : UnE (rU g) (.v (iS i)) (.v (kS (g i))) := fun F H x s ha Q q => by
  cases ha
  exact ⟨i, rfl, q _ F H (Grow.refl s) rfl⟩

/-! ### what is read: given, or lent -/
def IsR (e : Ent) (o : Own) : Prop := e = .bo o ∨ e = .v (refS o)
theorem IsR.get {F H : Hp} {x : V} (h : IsR e o) (a : ArgOk F H x e) (s : Same F H) : ∃ p ho, x = .ref p ∧ H p = some ho ∧ o.P F p ho := by
  rcases h with rfl | rfl
  · exact a
  · obtain ⟨p, ho, e, hp, z⟩ := a
    exact ⟨p, ho, e, s p _ hp, z⟩
theorem isR_b : IsR (.bo o) o := .inl rfl
theorem isR_v : IsR (.v (refS o)) o := .inr rfl
theorem PairS.get {F : Hp} : ∀ {vs : List V} {ss : List Slot} {i : Nat} {S : Slot}, PairS F vs ss → ss[i]? = some S → ∃ v, vs[i]? = some v ∧ S.P F v
  | _, _, _, _, .nil, h => by simp at h
  | _, _, 0, _, .cons p _, h => by cases h; exact ⟨_, rfl, p⟩
  | _, _, i + 1, _, .cons _ t, h => by
    obtain ⟨v, e, p⟩ := PairS.get (i := i) t (by simpa using h)
    exact ⟨v, by simpa using e, p⟩
theorem PairS.kmap {F : Hp} {α : Type} {f : α → V} : ∀ {vs : List V} {xs : List α}, PairS F vs (xs.map fun x => kS (f x)) → vs = xs.map f
  | [], [], _ => rfl
  | _, x :: xs, .cons p t => by
    cases p
    rw [PairS.kmap t]
    rfl
theorem PairS.ofk {F : Hp} {α : Type} (f : α → V) : ∀ xs : List α, PairS F (xs.map f) (xs.map fun x => kS (f x))
  | [] => .nil
  | x :: xs => .cons rfl (PairS.ofk f xs)
theorem PairS.app {F : Hp} : ∀ {vs ws : List V} {ss ts : List Slot}, PairS F vs ss → PairS F ws ts → PairS F (vs ++ ws) (ss ++ ts)
  | _, _, _, _, .nil, h => h
  | _, _, _, _, .cons p t, h => .cons p (PairS.app t h)
theorem PairS.take {F : Hp} : ∀ {vs : List V} {ss : List Slot} (n : Nat), PairS F vs ss → PairS F (vs.take n) (ss.take n)
  | _, _, 0, _ => .nil
  | _, _, _ + 1, .nil => .nil
  | _, _, n + 1, .cons p t => .cons p (PairS.take n t)
theorem PairS.drop {F : Hp} : ∀ {vs : List V} {ss : List Slot} (n : Nat), PairS F vs ss → PairS F (vs.drop n) (ss.drop n)
  | _, _, 0, h => h
  | _, _, _ + 1, .nil => .nil
  | _, _, n + 1, .cons p t => PairS.drop n t

/-! ### tests -/
theorem et_B {b : Bool} (h : EvE te δ (.v (bS b))) : EvT (tB te) δ b := fun F0 H0 F H σ s Q q => h F0 H0 F H σ s _ fun v F' H' g a => ⟨b, a, q F' H' g⟩
theorem et_Test {b : Bool} (h : EvE te δ (.v (bS b))) : EvT (tTest te) δ b := fun F0 H0 F H σ s Q q => h F0 H0 F H σ s _ fun v F' H' g a => ⟨b, a, q F' H' g⟩
theorem et_and {a b : Bool} (h1 : EvT tt δ a) (h2 : a = true → EvT tu δ b) : EvT (tAnd tt tu) δ (a && b) := fun F0 H0 F H σ s Q q => h1 F0 H0 F H σ s _ fun F1 H1 g1 => by
  cases a with
  | true =>
    show tu σ H1 Q
    exact h2 rfl F0 H0 F1 H1 σ (s.grow g1) Q fun F2 H2 g2 => q F2 H2 (g1.trans g2)
  | false =>
    show Q false H1
    exact q F1 H1 g1
theorem et_or {a b : Bool} (h1 : EvT tt δ a) (h2 : a = false → EvT tu δ b) : EvT (tOr tt tu) δ (a || b) := fun F0 H0 F H σ s Q q => h1 F0 H0 F H σ s _ fun F1 H1 g1 => by
  cases a with
  | true =>
    show Q true H1
    exact q F1 H1 g1
  | false =>
    show tu σ H1 Q
    exact h2 rfl F0 H0 F1 H1 σ (s.grow g1) Q fun F2 H2 g2 => q F2 H2 (g1.trans g2)
theorem et_not {a : Bool} (h1 : EvT tt δ a) : EvT (tNot tt) δ (!a) := fun F0 H0 F H σ s Q q => h1 F0 H0 F H σ s _ fun F1 H1 g1 => q F1 H1 g1
theorem et_yes : EvT tYes δ true := fun F0 H0 F H σ s Q q => q F H (Grow.refl s.fh)
theorem ev_and {a b : Bool} (h1 : EvE ta δ (.v (bS a))) (h2 : a = true → EvE tb δ (.v (bS b))) : EvE (tAndV ta tb) δ (.v (bS (a && b))) := fun F0 H0 F H σ s Q q => h1 F0 H0 F H σ s _ fun v F1 H1 g1 hv => ⟨a, hv, by
  cases a with
  | true =>
    show tb σ H1 Q
    exact h2 rfl F0 H0 F1 H1 σ (s.grow g1) Q fun v F2 H2 g2 hv => q v F2 H2 (g1.trans g2) hv
  | false =>
    show Q (.bl false) H1
    exact q _ F1 H1 g1 rfl⟩
theorem ev_or {a b : Bool} (h1 : EvE ta δ (.v (bS a))) (h2 : a = false → EvE tb δ (.v (bS b))) : EvE (tOrV ta tb) δ (.v (bS (a || b))) := fun F0 H0 F H σ s Q q => h1 F0 H0 F H σ s _ fun v F1 H1 g1 hv => ⟨a, hv, by
  cases a with
  | true =>
    show Q (.bl true) H1
    exact q _ F1 H1 g1 rfl
  | false =>
    show tb σ H1 Q
    exact h2 rfl F0 H0 F1 H1 σ (s.grow g1) Q fun v F2 H2 g2 hv => q v F2 H2 (g1.trans g2) hv⟩
theorem ev_not {a : Bool} (h1 : EvE ta δ (.v (bS a))) : EvE (tNotV ta) δ (.v (bS (!a))) := fun F0 H0 F H σ s Q q => h1 F0 H0 F H σ s _ fun v F1 H1 g1 hv => ⟨a, hv, q _ F1 H1 g1 rfl⟩
theorem ev_if {b : Bool} (h : EvT tt δ b) (h1 : b = true → EvE ta δ e) (h2 : b = false → EvE tb δ e) : EvE (tIf tt ta tb) δ e := fun F0 H0 F H σ s Q q => h F0 H0 F H σ s _ fun F1 H1 g1 => by
  cases b with
  | true =>
    show ta σ H1 Q
    exact h1 rfl F0 H0 F1 H1 σ (s.grow g1) Q fun v F2 H2 g2 hv => q v F2 H2 (g1.trans g2) hv
  | false =>
    show tb σ H1 Q
    exact h2 rfl F0 H0 F1 H1 σ (s.grow g1) Q fun v F2 H2 g2 hv => q v F2 H2 (g1.trans g2) hv
theorem ev_ifTF {b : Bool} {a1 a2 : V} (h : EvT tt δ b) (h1 : b = true → EvE ta δ (.v (kS a1))) (h2 : b = false → EvE tb δ (.v (kS a2))) : EvE (tIf tt ta tb) δ (.v (kS (if b = true then a1 else a2))) := by
  refine ev_if h (fun e => ?_) (fun e => ?_)
  · rw [if_pos e]
    exact h1 e
  · rw [e, if_neg Bool.false_ne_true]
    exact h2 e
theorem ev_chain {r r' : R2} {tc : TE} {a b : Bool} (h1 : EvE ta δ e1) (h2 : EvE tb δ e2) (h3 : a = true → EvE tc δ e3) (o1 : OpE r e1 e2 (.v (bS a))) (o2 : a = true → OpE r' e2 e3 (.v (bS b))) :
    EvE (tChain r r' ta tb tc) δ (.v (bS (a && b))) := fun F0 H0 F H σ s Q q =>
  h1 F0 H0 F H σ s _ fun x F1 H1 g1 a1 => h2 F0 H0 F1 H1 σ (s.grow g1) _ fun y F2 H2 g2 a2 => o1 F2 H2 x y g2.fh (a1.grow g2) a2 _ fun v F3 H3 g3 a3 => ⟨a, a3, by
    have g := (g1.trans g2).trans g3
    cases a with
    | true =>
      show tc σ H3 _
      exact h3 rfl F0 H0 F3 H3 σ (s.grow g) _ fun z F4 H4 g4 a4 => o2 rfl F4 H4 y z g4.fh ((a2.grow g3).grow g4) a4 Q fun v F5 H5 g5 a5 => q v F5 H5 ((g.trans g4).trans g5) a5
    | false =>
      show Q (.bl false) H3
      exact q _ F3 H3 g rfl⟩

/-! ### arguments, displays -/
variable {tr : TA} {es : List Ent}
theorem ea_nil : EvAs tNil δ [] := fun F0 H0 F H σ s Q q => q [] F H (Grow.refl s.fh) .nil
theorem ea_cons (h : EvE te δ e) (hr : EvAs tr δ es) : EvAs (tCons te tr) δ (e :: es) := fun F0 H0 F H σ s Q q =>
  h F0 H0 F H σ s _ fun x F1 H1 g1 a1 => hr F0 H0 F1 H1 σ (s.grow g1) _ fun vs F2 H2 g2 a2 => q _ F2 H2 (g1.trans g2) (.cons (a1.grow g2) a2)
theorem args_v {F H : Hp} : ∀ {vs : List V} {ss : List Slot}, Paired (ArgOk F H) vs (ss.map .v) → PairS F vs ss
  | _, [], .nil => .nil
  | _, _ :: _, .cons p t => .cons p (args_v t)
theorem eo_lst {ta : TA} {ss : List Slot} (h : EvAs ta δ (ss.map .v)) (hl : ss.length ≤ 100000) : EvO (tLst ta) δ (lstO ss) := fun F0 H0 F H σ s Q q =>
  h F0 H0 F H σ s _ fun vs F1 H1 g1 a1 => ⟨by rw [(args_v a1).length]; exact Nat.le_trans hl (by decide), fun p hp =>
    q p _ F1 _ (g1.trans (Grow.newH g1.fh hp)) (g1.hh.free hp) (g1.fh.free hp) upd_same ⟨vs, rfl, args_v a1⟩⟩
theorem ev_tup {ta : TA} {ss : List Slot} (h : EvAs ta δ (ss.map .v)) (hl : ss.length ≤ 100000) : EvE (tTup ta) δ (.v (tupS ss)) := fun F0 H0 F H σ s Q q =>
  h F0 H0 F H σ s _ fun vs F1 H1 g1 a1 => ⟨by rw [(args_v a1).length]; exact Nat.le_trans hl (by decide), fun p hp => by
    have g2 := Grow.newF (o := .tup vs) g1.fh hp
    exact q _ _ _ (g1.trans g2) ⟨p, _, rfl, upd_same, vs, rfl, PairS.mono g2.ff (args_v a1)⟩⟩
theorem size_ok {n : Nat} (h : n ≤ 100000) : n ≤ sizeLine := Nat.le_trans h (by decide)
end

/-! ### calls: what a def promises -/
inductive Res where
  | v (S : Slot)
  | o (o : Own)
  | x (c : Addr)
  /-- a tuple of two own objects -/
  | p (o1 o2 : Own)
  /-- a new instance whose fields are own objects -/
  | n (C : Addr) (fs : List (Str × Own))
  /-- what else is told of a value and of the heaps ahead and behind -/
  | g (P : Hp → Hp → Hp → Hp → V → Prop)
def Res.post (r : Res) (F H : Hp) (Q : VK) (E : XK) : Prop := match r with
  | .v S => ∀ v F' H', Grow F H F' H' → S.P F' v → Q v H'
  | .o w => ∀ p ho F' H', Grow F H F' H' → H p = none → F' p = none → H' p = some ho → w.P F' p ho → Q (.ref p) H'
  | .x c => ∀ F' H', Grow F H F' H' → E (.ref c) none H'
  | .p o1 o2 => ∀ t p1 p2 h1 h2 F' H', Grow F H F' H' → F' t = some (.tup [.ref p1, .ref p2]) → (H p1 = none ∧ H p2 = none) → (F' p1 = none ∧ F' p2 = none) → (H' p1 = some h1 ∧ H' p2 = some h2) → p1 ≠ p2 → (o1.P F' p1 h1 ∧ o2.P F' p2 h2) → Q (.ref t) H'
  | .n C fs => ∀ p dx fv F' H', Grow F H F' H' → F' p = some (.ins C dx fv) → (fv.map (·.2)).Nodup → NiF H F' H' fv fs → Q (.ref p) H'
  | .g P => ∀ v F' H', Grow F H F' H' → P F H F' H' v → Q v H'
theorem post_v {S : Slot} {F H : Hp} {Q : VK} {E : XK} (h : ∀ v F' H', Grow F H F' H' → S.P F' v → Q v H') : (Res.v S).post F H Q E := h
theorem post_o {o : Own} {F H : Hp} {Q : VK} {E : XK} (h : ∀ p ho F' H', Grow F H F' H' → H p = none → F' p = none → H' p = some ho → o.P F' p ho → Q (.ref p) H') : (Res.o o).post F H Q E := h
theorem post_x {c : Addr} {F H : Hp} {Q : VK} {E : XK} (h : ∀ F' H', Grow F H F' H' → E (.ref c) none H') : (Res.x c).post F H Q E := h
theorem arg_v {S : Slot} {F H : Hp} {v : V} (h : S.P F v) : ArgOk F H v (.v S) := h
abbrev Rel := List Ent → Res → Prop
def SpOf (R : Rel) : Sp := fun vs H Q E => ∃ (F : Hp) (es : List Ent) (r : Res), Same F H ∧ TupIn F H ∧ Paired (ArgOk F H) vs es ∧ R es r ∧ r.post F H Q E
section
variable {te : TE} {ta : TA} {δ es : List Ent} {R : Rel} {S : Slot} {o : Own} {E : XK} {C c : Addr} {m : Str} {fs : List (Str × Slot)}
theorem pair_app {α β : Type} {G : α → β → Prop} : ∀ {a : List α} {b : List β}, Paired G a b → Paired G (a ++ []) b := fun h => by rw [List.append_nil]; exact h
theorem ev_call (h : EvAs ta δ es) (hR : R es (.v S)) : EvE (tCall (SpOf R) [] E ta) δ (.v S) := fun F0 H0 F H σ s Q q =>
  h F0 H0 F H σ s _ fun vs F1 H1 g1 a1 => ⟨F1, es, .v S, g1.fh, (s.grow g1).tt, pair_app a1, hR, post_v fun v F' H' g hv => q v F' H' (g1.trans g) hv⟩
theorem eo_call (h : EvAs ta δ es) (hR : R es (.o o)) : EvO (tCall (SpOf R) [] E ta) δ o := fun F0 H0 F H σ s Q q =>
  h F0 H0 F H σ s _ fun vs F1 H1 g1 a1 => ⟨F1, es, .o o, g1.fh, (s.grow g1).tt, pair_app a1, hR, post_o fun p ho F' H' g hn hf hp z => q p ho F' H' (g1.trans g) (g1.hh.free hn) hf hp z⟩
theorem ex_call (h : EvAs ta δ es) (hR : R es (.x c)) : EvX (tCall (SpOf R) [] E ta) δ E c := fun F0 H0 F H σ s q Q =>
  h F0 H0 F H σ s _ fun vs F1 H1 g1 a1 => ⟨F1, es, .x c, g1.fh, (s.grow g1).tt, pair_app a1, hR, post_x fun F' H' g => q F' H' (g1.trans g)⟩
theorem PairF.lookup {F : Hp} {f : Str} : ∀ {fv : List (Str × V)} {fs : List (Str × Slot)}, PairF F fv fs → match fs.lookup f with
    | some S => ∃ v, fv.lookup f = some v ∧ S.P F v
    | none => fv.lookup f = none
  | _, _, .nil => rfl
  | (g, v) :: fv, (g', S) :: fs, .cons ⟨p1, p2⟩ t => by
    have ih := PairF.lookup (f := f) t
    have e : g = g' := p1
    subst e
    rw [List.lookup_cons, List.lookup_cons]
    cases hb : f == g with
    | true => exact ⟨v, rfl, p2⟩
    | false => exact ih
theorem PairF.some {F : Hp} {f : Str} {fv : List (Str × V)} {fs : List (Str × Slot)} (h : PairF F fv fs) (hl : fs.lookup f = some S) : ∃ v, fv.lookup f = some v ∧ S.P F v := by
  have z := PairF.lookup (f := f) h
  rw [hl] at z
  exact z
theorem PairF.none {F : Hp} {f : Str} {fv : List (Str × V)} {fs : List (Str × Slot)} (h : PairF F fv fs) (hl : fs.lookup f = none) : fv.lookup f = none := by
  have z := PairF.lookup (f := f) h
  rw [hl] at z
  exact z
/-- a field: the class, no such class attribute -/
structure FldOk (K : PySem.W.Frag) (C : Addr) (f : Str) : Prop where
  c : Cls K C
  n : NoAttr K C f
theorem ev_fld {K : PySem.W.Frag} {e : Ent} {f : Str} (h : EvE te δ e) (hr : IsR e (insO C fs)) (k : FldOk K C f) (hl : fs.lookup f = some S) : EvE (tFld K te f) δ (.v S) := fun F0 H0 F H σ s Q q =>
  h F0 H0 F H σ s _ fun v F' H' g a => by
    obtain ⟨p, ho, rfl, hp, dx, fv, rfl, pf⟩ := hr.get a g.fh
    obtain ⟨w, e1, e2⟩ := PairF.some pf hl
    exact ⟨p, C, dx, fv, w, rfl, hp, k.c, k.n, e1, q w F' H' g e2⟩
/-- a method of the object's class -/
theorem ev_meth (h : EvE te δ (.v (objS C fs))) (hm : fs.lookup m = none) (ha : EvAs ta δ es) (hR : R (.v (objS C fs) :: es) (.v S)) : EvE (tMeth C m (SpOf R) [] E te ta) δ (.v S) := fun F0 H0 F H σ s Q q =>
  h F0 H0 F H σ s _ fun v F1 H1 g1 a1 => by
    obtain ⟨p, ho, rfl, hp, dx, fv, rfl, pf⟩ := id a1
    refine ⟨p, dx, fv, rfl, g1.fh p _ hp, PairF.none pf hm, ha F0 H0 F1 H1 σ (s.grow g1) _ fun vs F2 H2 g2 a2 => ?_⟩
    exact ⟨F2, _, .v S, g2.fh, ((s.grow g1).grow g2).tt, .cons (arg_v ((objS C fs).mono g2.ff a1)) (pair_app a2), hR, post_v fun v F' H' g hv => q v F' H' ((g1.trans g2).trans g) hv⟩
theorem eo_meth (h : EvE te δ (.v (objS C fs))) (hm : fs.lookup m = none) (ha : EvAs ta δ es) (hR : R (.v (objS C fs) :: es) (.o o)) : EvO (tMeth C m (SpOf R) [] E te ta) δ o := fun F0 H0 F H σ s Q q =>
  h F0 H0 F H σ s _ fun v F1 H1 g1 a1 => by
    obtain ⟨p, ho, rfl, hp, dx, fv, rfl, pf⟩ := id a1
    refine ⟨p, dx, fv, rfl, g1.fh p _ hp, PairF.none pf hm, ha F0 H0 F1 H1 σ (s.grow g1) _ fun vs F2 H2 g2 a2 => ?_⟩
    exact ⟨F2, _, .o o, g2.fh, ((s.grow g1).grow g2).tt, .cons (arg_v ((objS C fs).mono g2.ff a1)) (pair_app a2), hR, post_o fun p ho F' H' g hn hf hp z => q p ho F' H' ((g1.trans g2).trans g) ((g1.trans g2).hh.free hn) hf hp z⟩
theorem ex_meth (h : EvE te δ (.v (objS C fs))) (hm : fs.lookup m = none) (ha : EvAs ta δ es) (hR : R (.v (objS C fs) :: es) (.x c)) : EvX (tMeth C m (SpOf R) [] E te ta) δ E c := fun F0 H0 F H σ s q Q =>
  h F0 H0 F H σ s _ fun v F1 H1 g1 a1 => by
    obtain ⟨p, ho, rfl, hp, dx, fv, rfl, pf⟩ := id a1
    refine ⟨p, dx, fv, rfl, g1.fh p _ hp, PairF.none pf hm, ha F0 H0 F1 H1 σ (s.grow g1) _ fun vs F2 H2 g2 a2 => ?_⟩
    exact ⟨F2, _, .x c, g2.fh, ((s.grow g1).grow g2).tt, .cons (arg_v ((objS C fs).mono g2.ff a1)) (pair_app a2), hR, post_x fun F' H' g => q F' H' ((g1.trans g2).trans g)⟩

/-! ### a new instance: __init__ -/
/-- what __init__ makes of its arguments: the fields, or a raise -/
abbrev RelI := List Ent → Except Addr (List (Str × Slot)) → Prop
/-- the heap without p -/
def era (H : Hp) (p : Addr) : Hp := fun b => if b = p then none else H b
def SpInit (C : Addr) (R : RelI) : Sp := fun vs H Q E => ∃ (p dx : Addr) (ws : List V) (F : Hp) (es : List Ent) (r : Except Addr (List (Str × Slot))), vs = .ref p :: ws ∧ H p = some (.ins C dx []) ∧ Same F (era H p) ∧ TupIn F (era H p) ∧
  Paired (ArgOk F (era H p)) ws es ∧ R es r ∧ match r with
    | .ok fs => ∀ F' H' dx' fv, Grow F (era H p) F' (era H' p) → H' p = some (.ins C dx' fv) → F' p = none → PairF F' fv fs → Q .non H'
    | .error c => ∀ F' H', Grow F (era H p) F' H' → E (.ref c) none H'
theorem era_same {H : Hp} {p : Addr} : era H p p = none := by unfold era; rw [if_pos rfl]
theorem era_ne {H : Hp} {p b : Addr} (h : b ≠ p) : era H p b = H b := by unfold era; rw [if_neg h]
theorem era_sub {H : Hp} {p : Addr} : Same (era H p) H := fun b o e => by
  by_cases h : b = p
  · rw [h, era_same] at e; cases e
  · rw [era_ne h] at e; exact e
theorem made_grow {F H : Hp} {x dx : Addr} (fh : Same F H) (hx : H x = none) (hd : H dx = none) (ne : dx ≠ x) {u : HO} : Grow F H F (era (upd (upd H dx (.own x)) x u) x) := by
  refine ⟨Same.refl F, fun b o e => ?_, fun b o e => ?_, fun _ _ n => n, fun t a vs e => ?_⟩
  · rw [era_ne (ne_of_none e hx), upd_ne (ne_of_none e hx), upd_ne (ne_of_none e hd)]
    exact e
  · have e' := fh b o e
    rw [era_ne (ne_of_none e' hx), upd_ne (ne_of_none e' hx), upd_ne (ne_of_none e' hd)]
    exact e'
  · have hax : a ≠ x := fun z => by rw [z, era_same] at e; cases e
    rw [era_ne hax, upd_ne hax] at e
    by_cases had : a = dx
    · rw [had, upd_same] at e
      cases e
    · rw [upd_ne had] at e
      exact t a vs e
theorem same_era {H : Hp} {x : Addr} (h : H x = none) {H' : Hp} (s : Same H (era H' x)) : Same H H' := fun b o e => era_sub b o (s b o e)
theorem ev_make {RI : RelI} (h : EvAs ta δ es) (hR : RI es (.ok fs)) : EvE (tMake C (SpInit C RI) [] E ta) δ (.v (objS C fs)) := fun F0 H0 F H σ s Q q =>
  h F0 H0 F H σ s _ fun vs F1 H1 g1 a1 => fun x dx hx hd ne => by
    have g2 := made_grow g1.fh hx hd ne (u := .ins C dx [])
    refine ⟨x, dx, vs ++ [], F1, es, .ok fs, rfl, upd_same, g2.fh, g2.tt (s.grow g1).tt, ?_, hR, ?_⟩
    · exact pair_app (Paired.mapP a1 fun _ _ z => z.grow g2)
    · intro F' H' dx' fv g hp hf pf
      refine ⟨rfl, ?_⟩
      have g3 := g2.trans g
      have sm : Same F' (upd F' x (.ins C dx' fv)) := same_upd hf
      have gg : Grow F1 H1 (upd F' x (.ins C dx' fv)) H' := by
        refine ⟨g3.ff.trans sm, fun b o e => era_sub b o (g3.hh b o e), fun b o e => ?_, fun a ha n => ?_, fun t a vs e => ?_⟩
        · by_cases hb : b = x
          · subst hb
            rw [upd_same] at e
            rw [← e]
            exact hp
          · rw [upd_ne hb] at e
            exact era_sub b o (g3.fh b o e)
        · have hne : a ≠ x := fun e => ha (by rw [e]; exact hx)
          rw [upd_ne hne]
          exact g3.nw a ha n
        · have hax : a ≠ x := fun z => by rw [z, hp] at e; cases e
          have e2 : era H' x a = some (.tup vs) := by rw [era_ne hax]; exact e
          exact sm _ _ (g3.tt t a vs e2)
      exact q _ _ H' (g1.trans gg) ⟨x, _, rfl, upd_same, dx', fv, rfl, Paired.mapP pf fun _ q z => ⟨z.1, q.2.mono sm z.2⟩⟩
theorem eo_make {RI : RelI} (h : EvAs ta δ es) (hR : RI es (.ok fs)) : EvO (tMake C (SpInit C RI) [] E ta) δ (insO C fs) := fun F0 H0 F H σ s Q q =>
  h F0 H0 F H σ s _ fun vs F1 H1 g1 a1 => fun x dx hx hd ne => by
    have g2 := made_grow g1.fh hx hd ne (u := .ins C dx [])
    refine ⟨x, dx, vs ++ [], F1, es, .ok fs, rfl, upd_same, g2.fh, g2.tt (s.grow g1).tt, ?_, hR, ?_⟩
    · exact pair_app (Paired.mapP a1 fun _ _ z => z.grow g2)
    · intro F' H' dx' fv g hp hf pf
      have g3 := g2.trans g
      exact ⟨rfl, q x _ F' H' (g1.trans ⟨g3.ff, same_era hx g3.hh, fun b o e => era_sub b o (g3.fh b o e), g3.nw, fun t a vs e => g3.tt t a vs (by rw [era_ne (fun z => by rw [z, hp] at e; cases e)]; exact e)⟩) (g1.hh.free hx) hf hp ⟨dx', fv, rfl, pf⟩⟩
theorem ex_make {RI : RelI} (h : EvAs ta δ es) (hR : RI es (.error c)) : EvX (tMake C (SpInit C RI) [] E ta) δ E c := fun F0 H0 F H σ s q Q =>
  h F0 H0 F H σ s _ fun vs F1 H1 g1 a1 => fun x dx hx hd ne => by
    have g2 := made_grow g1.fh hx hd ne (u := .ins C dx [])
    refine ⟨x, dx, vs ++ [], F1, es, .error c, rfl, upd_same, g2.fh, g2.tt (s.grow g1).tt, ?_, hR, ?_⟩
    · exact pair_app (Paired.mapP a1 fun _ _ z => z.grow g2)
    · intro F' H' g
      exact q F' H' (g1.trans (g2.trans g))
end
end J

namespace J
open PySem PySem.Spec L2

/-! ### statements: s the store ahead; k what follows -/
section
variable {F0 H0 F H : Hp} {σ : L2.St} {δ es : List Ent} {te ta tb : TE} {tt : TT} {tu tw tz : TS} {D : Ends} {S : Slot} {e : Ent} {o : Own} {E : XK} {c : Addr} {i j : Nat} {K : PySem.W.Frag}
theorem q_set (s : St F0 H0 F H σ δ) (h : EvE te δ (.v S)) (k : ∀ σ' F' H', St F0 H0 F' H' σ' (δ.set i (.v S)) → tz D σ' H') : tSeq (tAsg te (gName i)) tz D σ H :=
  h F0 H0 F H σ s _ fun v F' H' g a => k _ F' H' ((s.grow g).set_v a)
theorem q_setO (s : St F0 H0 F H σ δ) (h : EvO te δ o) (k : ∀ σ' F' H', St F0 H0 F' H' σ' (δ.set i (.ow o)) → tz D σ' H') : tSeq (tAsg te (gName i)) tz D σ H :=
  h F0 H0 F H σ s _ fun p ho F' H' g hn hf hp z => k _ F' H' (s.set_ow g hn hf hp z)
theorem q_drop (s : St F0 H0 F H σ δ) (h : EvE te δ e) (k : ∀ σ' F' H', St F0 H0 F' H' σ' δ → tz D σ' H') : tSeq (tDrop te) tz D σ H :=
  h F0 H0 F H σ s _ fun v F' H' g a => k _ F' H' (s.grow g)
theorem q_ret (s : St F0 H0 F H σ δ) (h : EvE te δ (.v S)) (k : ∀ v F' H', Grow F0 H0 F' H' → S.P F' v → D.rt v H') : tSeq (tRet te) tz D σ H :=
  h F0 H0 F H σ s _ fun v F' H' g a => k v F' H' (s.g.trans g) a
theorem q_retO (s : St F0 H0 F H σ δ) (h : EvO te δ o) (k : ∀ p ho F' H', Grow F0 H0 F' H' → H0 p = none → F' p = none → H' p = some ho → o.P F' p ho → D.rt (.ref p) H') : tSeq (tRet te) tz D σ H :=
  h F0 H0 F H σ s _ fun p ho F' H' g hn hf hp z => k p ho F' H' (s.g.trans g) (s.g.hh.free hn) hf hp z
theorem q_retOw (s : St F0 H0 F H σ δ) (hi : δ[i]? = some (.ow o)) (k : ∀ p ho F' H', Grow F0 H0 F' H' → H0 p = none → F' p = none → H' p = some ho → o.P F' p ho → D.rt (.ref p) H') : tSeq (tRet (tVar i)) tz D σ H := by
  obtain ⟨p, ho, e, h0, hf, hp, z⟩ := s.ow i o hi
  exact ⟨.ref p, e, k p ho F H s.g h0 hf hp z⟩
theorem q_freeze (s : St F0 H0 F H σ δ) (i : Nat) (hi : δ[i]? = some (.ow o)) {P : Prop} (k : ∀ F', St F0 H0 F' H σ (δ.set i (.v (refS o))) → P) : P := let ⟨F', z⟩ := s.freeze hi; k F' z
theorem q_if {b : Bool} (s : St F0 H0 F H σ δ) (h : EvT tt δ b) (h1 : b = true → ∀ σ' F' H', St F0 H0 F' H' σ' δ → tu { D with nx := tz D } σ' H') (h2 : b = false → ∀ σ' F' H', St F0 H0 F' H' σ' δ → tw { D with nx := tz D } σ' H') :
    tSeq (tIfS tt tu tw) tz D σ H := h F0 H0 F H σ s _ fun F' H' g => by
  cases b with
  | true =>
    show tu { D with nx := tz D } σ H'
    exact h1 rfl σ F' H' (s.grow g)
  | false =>
    show tw { D with nx := tz D } σ H'
    exact h2 rfl σ F' H' (s.grow g)
theorem q_ifT {b : Bool} (s : St F0 H0 F H σ δ) (h : EvT tt δ b) (hb : b = true) (h1 : ∀ σ' F' H', St F0 H0 F' H' σ' δ → tu { D with nx := tz D } σ' H') : tSeq (tIfS tt tu tw) tz D σ H := q_if s h (fun _ => h1) fun z => by rw [hb] at z; cases z
theorem q_ifF {b : Bool} (s : St F0 H0 F H σ δ) (h : EvT tt δ b) (hb : b = false) (h2 : ∀ σ' F' H', St F0 H0 F' H' σ' δ → tw { D with nx := tz D } σ' H') : tSeq (tIfS tt tu tw) tz D σ H := q_if s h (fun z => by rw [hb] at z; cases z) fun _ => h2
/-- without an else -/
theorem q_when {b : Bool} (s : St F0 H0 F H σ δ) (h : EvT tt δ b) (h1 : b = true → ∀ σ' F' H', St F0 H0 F' H' σ' δ → tu { D with nx := tz D } σ' H') (h2 : b = false → ∀ σ' F' H', St F0 H0 F' H' σ' δ → tz D σ' H') : tSeq (tIfS tt tu tNext) tz D σ H := q_if s h h1 h2
theorem q_whenF {b : Bool} (s : St F0 H0 F H σ δ) (h : EvT tt δ b) (hb : b = false) (h2 : ∀ σ' F' H', St F0 H0 F' H' σ' δ → tz D σ' H') : tSeq (tIfS tt tu tNext) tz D σ H := q_ifF s h hb h2
theorem q_thru {nx bk ct : L2.St → Hp → Prop} {rt : VK} (h : nx σ H) : tNext ⟨nx, rt, bk, ct⟩ σ H := h
/-- raise of an own class -/
def tRaise (E : XK) (c : Addr) : TS := fun _ _ H => E (.ref c) none H
theorem q_raise (s : St F0 H0 F H σ δ) (k : ∀ F' H', Grow F0 H0 F' H' → E (.ref c) none H') : tSeq (tRaise E c) tz D σ H := k F H s.g
theorem q_dropX (s : St F0 H0 F H σ δ) (h : EvX te δ E c) (k : ∀ F' H', Grow F0 H0 F' H' → E (.ref c) none H') : tSeq (tDrop te) tz D σ H := h F0 H0 F H σ s (fun F' H' g => k F' H' (s.g.trans g)) _
theorem q_setX {g : TG} (s : St F0 H0 F H σ δ) (h : EvX te δ E c) (k : ∀ F' H', Grow F0 H0 F' H' → E (.ref c) none H') : tSeq (tAsg te g) tz D σ H := h F0 H0 F H σ s (fun F' H' g => k F' H' (s.g.trans g)) _
theorem q_retX (s : St F0 H0 F H σ δ) (h : EvX te δ E c) (k : ∀ F' H', Grow F0 H0 F' H' → E (.ref c) none H') : tSeq (tRet te) tz D σ H := h F0 H0 F H σ s (fun F' H' g => k F' H' (s.g.trans g)) _

/-! ### lists of one's own -/
theorem St.loc (s : St F0 H0 F H σ δ) (hi : δ[i]? = some (.ow o)) : ∃ p ho, σ[i]? = some (some (.ref p)) ∧ H p = some ho ∧ o.P F p ho := let ⟨p, ho, e, _, _, hp, z⟩ := s.ow i o hi; ⟨p, ho, e, hp, z⟩
theorem PairS.snoc {vs : List V} {v : V} {ss : List Slot} (h : PairS F vs ss) (p : S.P F v) : PairS F (vs ++ [v]) (ss ++ [S]) := PairS.app h (.cons p .nil)
theorem sizeLt {n : Nat} (h : n < 100000) : n < sizeLine := Nat.lt_of_lt_of_le h (by decide)
theorem q_app {ss : List Slot} (s : St F0 H0 F H σ δ) (hi : δ[i]? = some (.ow (lstO ss))) (h : EvE te δ (.v S)) (hz : ss.length < 100000) (k : ∀ σ' F' H', St F0 H0 F' H' σ' (δ.set i (.ow (lstO (ss ++ [S])))) → tz D σ' H') :
    tSeq (tDrop (tBM K "list" rAppend (tVar i) (tCons te tNil))) tz D σ H := by
  obtain ⟨p, ho, e, hp, vs, rfl, pv⟩ := s.loc hi
  refine ⟨.ref p, e, .inl ⟨rfl, vs, SqL.of hp⟩, h F0 H0 F H σ s _ fun v F' H' g a => ?_⟩
  have s' := s.grow g
  refine ⟨p, vs, v, rfl, rfl, g.hh p _ hp, by rw [pv.length]; exact sizeLt hz, ?_⟩
  exact k _ F' _ (s'.mut hi e ⟨_, rfl, PairS.snoc (PairS.mono g.ff pv) a⟩)
theorem q_ext {ss ts : List Slot} {e1 : Ent} (s : St F0 H0 F H σ δ) (hi : δ[i]? = some (.ow (lstO ss))) (h : EvE te δ e1) (hr : IsR e1 (lstO ts)) (hz : ss.length + ts.length ≤ 100000) (k : ∀ σ' F' H', St F0 H0 F' H' σ' (δ.set i (.ow (lstO (ss ++ ts)))) → tz D σ' H') :
    tSeq (tDrop (tBM K "list" rExtend (tVar i) (tCons te tNil))) tz D σ H := by
  obtain ⟨p, ho, e, hp, vs, rfl, pv⟩ := s.loc hi
  refine ⟨.ref p, e, .inl ⟨rfl, vs, SqL.of hp⟩, h F0 H0 F H σ s _ fun v F' H' g a => ?_⟩
  have s' := s.grow g
  obtain ⟨q, ho, rfl, hq, ws, rfl, pw⟩ := hr.get a g.fh
  refine ⟨p, q, vs, ws, rfl, rfl, g.hh p _ hp, hq, by rw [pv.length, pw.length]; exact size_ok hz, ?_⟩
  exact k _ F' _ (s'.mut hi e ⟨_, rfl, PairS.app (PairS.mono g.ff pv) pw⟩)
theorem q_clear {ss : List Slot} (s : St F0 H0 F H σ δ) (hi : δ[i]? = some (.ow (lstO ss))) (k : ∀ σ' F' H', St F0 H0 F' H' σ' (δ.set i (.ow (lstO []))) → tz D σ' H') :
    tSeq (tDrop (tBM0 K "list" rClear (tVar i))) tz D σ H := by
  obtain ⟨p, ho, e, hp, vs, rfl, pv⟩ := s.loc hi
  exact ⟨.ref p, e, .inl ⟨rfl, vs, SqL.of hp⟩, p, vs, rfl, rfl, hp, k _ F _ (s.mut hi e ⟨[], rfl, .nil⟩)⟩
theorem PairS.set {F : Hp} {v : V} : ∀ {vs : List V} {ss : List Slot} {n : Nat}, PairS F vs ss → S.P F v → PairS F (vs.set n v) (ss.set n S)
  | _, _, _, .nil, _ => .nil
  | _, _, 0, .cons _ t, h => .cons h t
  | _, _, n + 1, .cons p t, h => .cons p (PairS.set t h)
theorem ixN_nat {n j : Nat} (hj : j < n) : ixN n (j : Int) = some j := by
  unfold ixN
  rw [if_pos (by omega), if_pos (by omega)]
  simp
/-- l[n] = e -/
theorem q_setIx {ss : List Slot} {n : Nat} (s : St F0 H0 F H σ δ) (hi : δ[i]? = some (.ow (lstO ss))) (h : EvE te δ (.v S)) (hb : EvE tb δ (.v (iS n))) (hn : n < ss.length) (k : ∀ σ' F' H', St F0 H0 F' H' σ' (δ.set i (.ow (lstO (ss.set n S)))) → tz D σ' H') :
    tSeq (tAsg te (gSub (tVar i) tb rSetL)) tz D σ H := by
  refine h F0 H0 F H σ s _ fun v F1 H1 g1 a1 => ?_
  have s1 := s.grow g1
  obtain ⟨p, ho, e, hp, vs, rfl, pv⟩ := s1.loc hi
  refine ⟨.ref p, e, hb F0 H0 F1 H1 σ s1 _ fun w F2 H2 g2 a2 => ?_⟩
  cases a2
  have s2 := s1.grow g2
  refine ⟨p, vs, (n : Int), n, rfl, rfl, g2.hh p _ hp, ixN_nat (by rw [pv.length]; exact hn), ?_⟩
  exact k _ F2 _ (s2.mut hi e ⟨_, rfl, PairS.set (PairS.mono g2.ff pv) (S.mono g2.ff a1)⟩)

/-! ### fields of self, in __init__ -/
def putS (f : Str) (S : Slot) (fs : List (Str × Slot)) : List (Str × Slot) := fs ++ [(f, S)]
theorem PairF.put {f : Str} {v : V} : ∀ {fv : List (Str × V)} {fs : List (Str × Slot)}, PairF F fv fs → S.P F v → fs.lookup f = Option.none → PairF F (putF f v fv) (putS f S fs)
  | _, _, .nil, p, _ => .cons ⟨rfl, p⟩ .nil
  | (g, x) :: fv, (g', T) :: fs, .cons ⟨p1, p2⟩ t, p, h => by
    have e : g = g' := p1
    subst e
    rw [List.lookup_cons] at h
    have hne : ¬ g = f := fun z => by
      rw [z, beq_self_eq_true] at h
      cases h
    have hb : (f == g) = false := beq_false_of_ne fun z => hne z.symm
    rw [hb] at h
    unfold putF
    rw [if_neg hne]
    exact .cons ⟨rfl, p2⟩ (PairF.put t p h)
theorem q_fld {fs : List (Str × Slot)} {f : Str} {C : Addr} (s : St F0 H0 F H σ δ) (hi : δ[i]? = some (.ow (insO C fs))) (h : EvE te δ (.v S)) (kf : FldOk K C f) (hn : fs.lookup f = Option.none) (hz : fs.length < 900)
    (k : ∀ σ' F' H', St F0 H0 F' H' σ' (δ.set i (.ow (insO C (putS f S fs)))) → tz D σ' H') : tSeq (sFld K (tVar i) te f) tz D σ H := by
  refine h F0 H0 F H σ s _ fun v F1 H1 g1 a1 => ?_
  have s1 := s.grow g1
  obtain ⟨p, ho, e, hp, dx, fv, rfl, pf⟩ := s1.loc hi
  refine ⟨.ref p, e, p, C, dx, fv, rfl, hp, kf.c, kf.n, by rw [pf.length]; omega, ?_⟩
  exact k _ F1 _ (s1.mut hi e ⟨dx, _, rfl, PairF.put pf a1 hn⟩)

/-! ### x += e -/
theorem q_aug {f : Int → Int → Int} {a b : Int} (s : St F0 H0 F H σ δ) (hi : δ[i]? = some (.v (iS a))) (h : EvE te δ (.v (iS b))) (k : ∀ σ' F' H', St F0 H0 F' H' σ' (δ.set i (.v (iS (f a b)))) → tz D σ' H') : tSeq (tAug i te (ipI f)) tz D σ H := by
  obtain ⟨v, e, z⟩ := s.at_ i _ hi
  cases z
  refine ⟨.int a, e, h F0 H0 F H σ s _ fun w F1 H1 g1 a1 => ?_⟩
  cases a1
  exact ⟨a, b, rfl, rfl, k _ F1 H1 ((s.grow g1).set_v (S := iS (f a b)) rfl)⟩

/-! ### targets that are tuples -/
theorem q_tup2 {S1 S2 : Slot} {i1 i2 : Nat} (s : St F0 H0 F H σ δ) (h : EvE te δ (.v (tupS [S1, S2]))) (k : ∀ σ' F' H', St F0 H0 F' H' σ' ((δ.set i1 (.v S1)).set i2 (.v S2)) → tz D σ' H') :
    tSeq (tAsg te (gTup K 2 (gCons (gName i1) (gCons (gName i2) gNil)))) tz D σ H := by
  refine h F0 H0 F H σ s _ fun v F1 H1 g1 a1 => ?_
  obtain ⟨p, ho, rfl, hp, vs, rfl, pv⟩ := a1
  cases pv with
  | cons p1 t => cases t with
    | cons p2 t => cases t with
      | nil => exact ⟨p, _, rfl, SqT.of (g1.fh p _ hp), rfl, _, _, rfl, _, _, rfl, rfl, k _ F1 H1 (((s.grow g1).set_v p1).set_v p2)⟩
theorem q_tup3 {S1 S2 S3 : Slot} {i1 i2 i3 : Nat} (s : St F0 H0 F H σ δ) (h : EvE te δ (.v (tupS [S1, S2, S3]))) (k : ∀ σ' F' H', St F0 H0 F' H' σ' (((δ.set i1 (.v S1)).set i2 (.v S2)).set i3 (.v S3)) → tz D σ' H') :
    tSeq (tAsg te (gTup K 3 (gCons (gName i1) (gCons (gName i2) (gCons (gName i3) gNil))))) tz D σ H := by
  refine h F0 H0 F H σ s _ fun v F1 H1 g1 a1 => ?_
  obtain ⟨p, ho, rfl, hp, vs, rfl, pv⟩ := a1
  cases pv with
  | cons p1 t => cases t with
    | cons p2 t => cases t with
      | cons p3 t => cases t with
        | nil => exact ⟨p, _, rfl, SqT.of (g1.fh p _ hp), rfl, _, _, rfl, _, _, rfl, _, _, rfl, rfl, k _ F1 H1 ((((s.grow g1).set_v p1).set_v p2).set_v p3)⟩
theorem q_par {S1 S2 : Slot} {i1 i2 : Nat} {ta : TA} (s : St F0 H0 F H σ δ) (h : EvAs ta δ [.v S1, .v S2]) (k : ∀ σ' F' H', St F0 H0 F' H' σ' ((δ.set i1 (.v S1)).set i2 (.v S2)) → tz D σ' H') : tSeq (tPar i1 i2 ta) tz D σ H := by
  refine h F0 H0 F H σ s _ fun vs F1 H1 g1 a1 => ?_
  cases a1 with
  | cons p1 t => cases t with
    | cons p2 t => cases t with
      | nil => exact ⟨_, _, rfl, k _ F1 H1 (((s.grow g1).set_v p1).set_v p2)⟩

/-! ### loops -/
def NX (F0 H0 : Hp) (I : List Ent → Prop) : L2.St → Hp → Prop := fun σ H => ∃ F δ, St F0 H0 F H σ δ ∧ I δ
theorem q_nx {I : List Ent → Prop} {rt : VK} {bk ct : L2.St → Hp → Prop} (s : St F0 H0 F H σ δ) (h : I δ) : tNext ⟨NX F0 H0 I, rt, bk, ct⟩ σ H := ⟨F, δ, s, h⟩
/-- what a for walks: a list, a tuple, a dict's keys -/
def iAny (K : PySem.W.Frag) (tl : TE) : TI := fun σ H R => iList K tl σ H R ∨ iTup K tl σ H R ∨ iKeys tl σ H R
/-- over a list that stands still -/
theorem q_forL {ss : List Slot} (s : St F0 H0 F H σ δ) (h : EvE ta δ (.v (lstS ss))) (I : Nat → List Ent → Prop) (h0 : I 0 δ)
    (hs : ∀ F1, Base F0 H0 F1 → ∀ n T δ' σ' F' H', ss[n]? = some T → I n δ' → St F1 H0 F' H' σ' (δ'.set j (.v T)) → tu ⟨NX F1 H0 (I (n + 1)), D.rt, tz D, NX F1 H0 (I (n + 1))⟩ σ' H')
    (hd : ∀ δ' σ' F' H', I ss.length δ' → St F0 H0 F' H' σ' δ' → tz D σ' H') : tSeq (tFor (iAny K ta) (gName j) tu) tz D σ H := by
  refine .inl (h F0 H0 F H σ s _ fun v F1 H1 g1 a1 => ?_)
  obtain ⟨p, ho, rfl, hp, vs, rfl, pv⟩ := a1
  have s1 := s.grow g1
  refine ⟨p, rfl, ⟨vs, SqL.of (g1.fh p _ hp)⟩, for_list (D := { D with nx := tz D }) (xs := vs) (fun n => NX F1 H0 (I n)) ⟨F1, δ, s1.rebase, h0⟩ ?_ ?_ ?_⟩
  · rintro n σ' H' _ ⟨F', δ', s', _⟩
    exact SqL.of (s'.fh p _ (s'.g.ff p _ hp))
  · rintro n x σ' H' hx ⟨F', δ', s', hI⟩
    obtain ⟨T, hT, px⟩ : ∃ T, ss[n]? = some T ∧ T.P F' x := by
      have hn : n < vs.length := (List.getElem?_eq_some_iff.mp hx).1
      rw [pv.length] at hn
      obtain ⟨w, hw, q⟩ := PairS.get (PairS.mono s'.g.ff pv) (List.getElem?_eq_getElem hn)
      rw [hx] at hw
      cases hw
      exact ⟨_, List.getElem?_eq_getElem hn, q⟩
    exact hs F1 s1.base n T δ' _ F' H' hT hI (s'.set_v px)
  · rintro σ' H' ⟨F', δ', s', hI⟩
    rw [pv.length] at hI
    exact hd δ' σ' F' H' hI (s'.unbase s1.base)
/-- over a tuple -/
theorem q_forT {ss : List Slot} (s : St F0 H0 F H σ δ) (h : EvE ta δ (.v (tupS ss))) (I : Nat → List Ent → Prop) (h0 : I 0 δ)
    (hs : ∀ F1, Base F0 H0 F1 → ∀ n T δ' σ' F' H', ss[n]? = some T → I n δ' → St F1 H0 F' H' σ' (δ'.set j (.v T)) → tu ⟨NX F1 H0 (I (n + 1)), D.rt, tz D, NX F1 H0 (I (n + 1))⟩ σ' H')
    (hd : ∀ δ' σ' F' H', I ss.length δ' → St F0 H0 F' H' σ' δ' → tz D σ' H') : tSeq (tFor (iAny K ta) (gName j) tu) tz D σ H := by
  refine .inr (.inl (h F0 H0 F H σ s _ fun v F1 H1 g1 a1 => ?_))
  obtain ⟨p, ho, rfl, hp, vs, rfl, pv⟩ := a1
  have s1 := s.grow g1
  refine ⟨p, rfl, ⟨vs, SqT.of (g1.fh p _ hp)⟩, for_tup (D := { D with nx := tz D }) (xs := vs) (fun n => NX F1 H0 (I n)) ⟨F1, δ, s1.rebase, h0⟩ ?_ ?_ ?_⟩
  · rintro n σ' H' _ ⟨F', δ', s', _⟩
    exact SqT.of (s'.fh p _ (s'.g.ff p _ hp))
  · rintro n x σ' H' hx ⟨F', δ', s', hI⟩
    obtain ⟨T, hT, px⟩ : ∃ T, ss[n]? = some T ∧ T.P F' x := by
      have hn : n < vs.length := (List.getElem?_eq_some_iff.mp hx).1
      rw [pv.length] at hn
      obtain ⟨w, hw, q⟩ := PairS.get (PairS.mono s'.g.ff pv) (List.getElem?_eq_getElem hn)
      rw [hx] at hw
      cases hw
      exact ⟨_, List.getElem?_eq_getElem hn, q⟩
    exact hs F1 s1.base n T δ' _ F' H' hT hI (s'.set_v px)
  · rintro σ' H' ⟨F', δ', s', hI⟩
    rw [pv.length] at hI
    exact hd δ' σ' F' H' hI (s'.unbase s1.base)
/-- over a lent list -/
theorem q_forB {ss : List Slot} {i : Nat} (s : St F0 H0 F H σ δ) (h : δ[i]? = some (.bo (lstO ss))) (I : Nat → List Ent → Prop) (h0 : I 0 δ)
    (hs : ∀ F1, Base F0 H0 F1 → ∀ n T δ' σ' F' H', ss[n]? = some T → I n δ' → St F1 H0 F' H' σ' (δ'.set j (.v T)) → tu ⟨NX F1 H0 (I (n + 1)), D.rt, tz D, NX F1 H0 (I (n + 1))⟩ σ' H')
    (hd : ∀ δ' σ' F' H', I ss.length δ' → St F0 H0 F' H' σ' δ' → tz D σ' H') : tSeq (tFor (iAny K (tVar i)) (gName j) tu) tz D σ H := by
  obtain ⟨p, ho, e, hp, vs, rfl, pv⟩ := s.bo i _ h
  refine .inl ⟨.ref p, e, p, rfl, ⟨vs, SqL.of (s.g.hh p _ hp)⟩, for_list (D := { D with nx := tz D }) (xs := vs) (fun n => NX F H0 (I n)) ⟨F, δ, s.rebase, h0⟩ ?_ ?_ ?_⟩
  · rintro n σ' H' _ ⟨F', δ', s', _⟩
    exact SqL.of (s'.g.hh p _ hp)
  · rintro n x σ' H' hx ⟨F', δ', s', hI⟩
    obtain ⟨T, hT, px⟩ : ∃ T, ss[n]? = some T ∧ T.P F' x := by
      have hn : n < vs.length := (List.getElem?_eq_some_iff.mp hx).1
      rw [pv.length] at hn
      obtain ⟨w, hw, q⟩ := PairS.get (PairS.mono s'.g.ff pv) (List.getElem?_eq_getElem hn)
      rw [hx] at hw
      cases hw
      exact ⟨_, List.getElem?_eq_getElem hn, q⟩
    exact hs F s.base n T δ' _ F' H' hT hI (s'.set_v px)
  · rintro σ' H' ⟨F', δ', s', hI⟩
    rw [pv.length] at hI
    exact hd δ' σ' F' H' hI (s'.unbase s.base)
/-- for j in range(n) -/
theorem q_forR {n : Nat} {z : Int} {tl : TA} (s : St F0 H0 F H σ δ) (h : EvAs tl δ [.v (iS z)]) (hz : z.toNat = n) (hn : z ≤ 100000 ∧ -100000 ≤ z) (I : Nat → List Ent → Prop) (h0 : I 0 δ)
    (hs : ∀ m δ' σ' F' H', m < n → I m δ' → St F0 H0 F' H' σ' (δ'.set j (.v (iS (m : Int)))) → tu ⟨NX F0 H0 (I (m + 1)), D.rt, tz D, NX F0 H0 (I (m + 1))⟩ σ' H')
    (hd : ∀ δ' σ' F' H', I n δ' → St F0 H0 F' H' σ' δ' → tz D σ' H') : tSeq (tFor (iRng1 tl) (gName j) tu) tz D σ H := by
  refine h F0 H0 F H σ s _ fun vs F1 H1 g1 a1 => ?_
  cases a1 with
  | cons p1 t => cases t with
    | nil =>
      cases p1
      refine ⟨z, rfl, by omega, by omega, for_range (lo := 0) (n := z.toNat) (D := { D with nx := tz D }) (fun m => NX F0 H0 (I m)) ⟨F1, δ, s.grow g1, h0⟩ ?_ ?_⟩
      · rintro m σ' H' hm ⟨F', δ', s', hI⟩
        have e0 : (0 : Int) + (m : Int) = (m : Int) := Int.zero_add _
        show tu ⟨NX F0 H0 (I (m + 1)), D.rt, tz D, NX F0 H0 (I (m + 1))⟩ (σ'.set j (some (.int ((0 : Int) + (m : Int))))) H'
        rw [e0]
        exact hs m δ' _ F' H' (hz ▸ hm) hI (s'.set_v (S := iS (m : Int)) rfl)
      · rintro σ' H' ⟨F', δ', s', hI⟩
        rw [hz] at hI
        exact hd δ' σ' F' H' hI s'
/-- for j in range(lo, hi) -/
theorem q_forR2 {n : Nat} {lo hi : Int} {tl : TA} (s : St F0 H0 F H σ δ) (h : EvAs tl δ [.v (iS lo), .v (iS hi)]) (hz : (hi - lo).toNat = n) (hn : (hi ≤ 100000 ∧ -100000 ≤ hi) ∧ (lo ≤ 100000 ∧ -100000 ≤ lo)) (I : Nat → List Ent → Prop) (h0 : I 0 δ)
    (hs : ∀ m δ' σ' F' H', m < n → I m δ' → St F0 H0 F' H' σ' (δ'.set j (.v (iS (lo + (m : Int))))) → tu ⟨NX F0 H0 (I (m + 1)), D.rt, tz D, NX F0 H0 (I (m + 1))⟩ σ' H')
    (hd : ∀ δ' σ' F' H', I n δ' → St F0 H0 F' H' σ' δ' → tz D σ' H') : tSeq (tFor (iRng2 tl) (gName j) tu) tz D σ H := by
  refine h F0 H0 F H σ s _ fun vs F1 H1 g1 a1 => ?_
  cases a1 with
  | cons p1 t => cases t with
    | cons p2 t => cases t with
      | nil =>
        cases p1
        cases p2
        refine ⟨lo, hi, rfl, ⟨by omega, by omega, by omega, by omega⟩, for_range (lo := lo) (n := (hi - lo).toNat) (D := { D with nx := tz D }) (fun m => NX F0 H0 (I m)) ⟨F1, δ, s.grow g1, h0⟩ ?_ ?_⟩
        · rintro m σ' H' hm ⟨F', δ', s', hI⟩
          exact hs m δ' _ F' H' (hz ▸ hm) hI (s'.set_v (S := iS (lo + (m : Int))) rfl)
        · rintro σ' H' ⟨F', δ', s', hI⟩
          rw [hz] at hI
          exact hd δ' σ' F' H' hI s'
/-- while: I by what falls -/
theorem q_while (s : St F0 H0 F H σ δ) (I : Nat → List Ent → Prop) (m0 : Nat) (h0 : I m0 δ)
    (hs : ∀ m δ' σ' F' H', I m δ' → St F0 H0 F' H' σ' δ' → ∃ b, EvT tt δ' b ∧ (b = true → ∀ σ' F' H', St F0 H0 F' H' σ' δ' → tu ⟨NX F0 H0 (fun d => ∃ m', m' < m ∧ I m' d), D.rt, tz D, NX F0 H0 (fun d => ∃ m', m' < m ∧ I m' d)⟩ σ' H') ∧
      (b = false → ∀ σ' F' H', St F0 H0 F' H' σ' δ' → tz D σ' H')) : tSeq (tWhile tt tu) tz D σ H := by
  refine ⟨fun m => NX F0 H0 (I m), ⟨m0, F, δ, s, h0⟩, ?_⟩
  rintro m σ' H' ⟨F', δ', s', hI⟩
  obtain ⟨b, hb, h1, h2⟩ := hs m δ' σ' F' H' hI s'
  refine hb F0 H0 F' H' σ' s' _ fun F2 H2 g => ?_
  cases b with
  | true =>
    refine ⟨NX F0 H0 (fun d => ∃ m', m' < m ∧ I m' d), ?_, h1 rfl σ' F2 H2 (s'.grow g)⟩
    rintro σ3 H3 ⟨F3, δ3, s3, m', hm, hI'⟩
    exact ⟨m', hm, F3, δ3, s3, hI'⟩
  | false => exact h2 rfl σ' F2 H2 (s'.grow g)

/-! ### comprehensions -/
theorem wipe1 {j : Nat} {x : V} : wipe ((wipe σ [j]).set j (some x)) [j] = wipe σ [j] := by
  show ((σ.set j none).set j (some x)).set j none = σ.set j none
  rw [List.set_set, List.set_set]
theorem St.wipe (s : St F0 H0 F H σ δ) (j : Nat) : St F0 H0 F H (L2.wipe σ [j]) (δ.set j .un) := s.set_un none
theorem set_set_e {α : Type} {l : List α} {j : Nat} {x y : α} : (l.set j x).set j y = l.set j y := List.set_set ..
/-- the list that grows -/
def LcI (F1 H1 : Hp) (Dl : Addr) (ss : List Slot) (H' : Hp) : Prop := ∃ F' acc, Grow F1 H1 F' H' ∧ F' Dl = none ∧ H' Dl = some (.lst acc) ∧ PairS F' acc ss
theorem LcI.start (fh : Same F H) {Dl : Addr} (h : H Dl = none) : LcI F H Dl [] (upd H Dl (.lst [])) := ⟨F, [], Grow.newH fh h, fh.free h, upd_same, .nil⟩
theorem lc_turn {Dl : Addr} {ss : List Slot} {b : Bool} {T S : Slot} {x : V} {H' : Hp} {Nx : Hp → Prop} (s : St F0 H0 F H σ δ) (hD : H Dl = none) (hl : ss.length < 50000) (px : ∀ F', Grow F H F' H' → T.P F' x) (p : LcI F H Dl ss H')
    (ht : EvT tt (δ.set j (.v T)) b) (he : b = true → EvE te (δ.set j (.v T)) (.v S)) (hn : ∀ H', LcI F H Dl (if b = true then ss ++ [S] else ss) H' → Nx H') :
    tt ((L2.wipe σ [j]).set j (some x)) H' fun b H3 => if b = true then te ((L2.wipe σ [j]).set j (some x)) H3 fun y H4 => ∃ acc, H4 Dl = some (.lst acc) ∧ acc.length < sizeLine ∧ Nx (upd H4 Dl (.lst (acc ++ [y]))) else Nx H3 := by
  obtain ⟨F', acc, g, hf, hp, pa⟩ := p
  have s' : St F0 H0 F' H' ((L2.wipe σ [j]).set j (some x)) (δ.set j (.v T)) := by
    have z := ((s.wipe j).grow g).set_v (i := j) (px F' g)
    rw [set_set_e] at z
    exact z
  refine ht F0 H0 F' H' _ s' _ fun F3 H3 g3 => ?_
  have nf : F3 Dl = none := g3.nw Dl (by rw [hp]; exact fun z => nomatch z) hf
  cases hb : b with
  | false =>
    rw [hb, if_neg Bool.false_ne_true] at hn
    exact hn H3 ⟨F3, acc, g.trans g3, nf, g3.hh Dl _ hp, PairS.mono g3.ff pa⟩
  | true =>
    rw [hb, if_pos rfl] at hn
    show te _ H3 _
    refine he hb F0 H0 F3 H3 _ (s'.grow g3) _ fun y F4 H4 g4 a4 => ⟨acc, g4.hh Dl _ (g3.hh Dl _ hp), by rw [pa.length]; exact sizeLt (by omega), hn _ ?_⟩
    have n4 : F4 Dl = none := g4.nw Dl (by rw [g3.hh Dl _ hp]; exact fun z => nomatch z) nf
    have gg := (g.trans g3).trans g4
    exact ⟨F4, acc ++ [y], ⟨gg.ff, same_updR gg.hh hD, same_updR gg.fh n4, gg.nw, fun t => tt_upd (gg.tt t) (by intro _ h; cases h)⟩, n4, upd_same, PairS.snoc (PairS.mono (g3.trans g4).ff pa) a4⟩
/-- what is kept of the first i items -/
def kept {α : Type} (p : α → Bool) (f : α → Slot) (xs : List α) (i : Nat) : List Slot := ((xs.take i).filter p).map f
theorem kept_succ {α : Type} {p : α → Bool} {f : α → Slot} {xs : List α} {i : Nat} {x : α} (h : xs[i]? = some x) : kept p f xs (i + 1) = if p x = true then kept p f xs i ++ [f x] else kept p f xs i := by
  unfold kept
  rw [List.take_add_one, h, List.filter_append, List.map_append]
  show _ ++ List.map f (List.filter p [x]) = _
  rw [List.filter_cons]
  split <;> simp
theorem kept_all {α : Type} {p : α → Bool} {f : α → Slot} {xs : List α} : kept p f xs xs.length = (xs.filter p).map f := by
  unfold kept
  rw [List.take_length]
theorem kept_le {α : Type} {p : α → Bool} {f : α → Slot} {xs : List α} {i : Nat} : (kept p f xs i).length ≤ i := by
  unfold kept
  rw [List.length_map]
  have h1 := List.length_filter_le p (xs.take i)
  have h2 := List.length_take_le i xs
  omega
/-- [te for j in ta if tt], ta a list -/
theorem eo_lcL {α : Type} (ex : α → Slot) (xs : List α) (p : α → Bool) (f : α → Slot) {e1 : Ent} (h : EvE ta δ e1) (hr : IsR e1 (lstO (xs.map ex))) (hz : xs.length ≤ 40000)
    (ht : ∀ x ∈ xs, EvT tt (δ.set j (.v (ex x))) (p x)) (he : ∀ x ∈ xs, p x = true → EvE te (δ.set j (.v (ex x))) (.v (f x))) :
    EvO (tLc (iAny K ta) (gName j) tt te [j]) δ (lstO ((xs.filter p).map f)) := fun F0 H0 F H σ s Q q => by
  refine .inl (h F0 H0 F H σ s _ fun v F1 H1 g1 a1 => ?_)
  obtain ⟨a, ho, rfl, hp, vs, rfl, pv⟩ := hr.get a1 g1.fh
  have s1 := s.grow g1
  have hlen : vs.length = xs.length := by rw [pv.length, List.length_map]
  refine ⟨a, rfl, ⟨vs, SqL.of hp⟩, fun Dl hD => lc_list (xs := vs) (fun i H' => LcI F1 H1 Dl (kept p f xs i) H') (LcI.start g1.fh hD) ?_ ?_ ?_⟩
  · rintro i H' _ ⟨F', acc, g, _⟩
    exact SqL.of (g.hh a _ hp)
  · rintro i x H' hx hI
    have hi : i < xs.length := by
      rw [← hlen]
      exact (List.getElem?_eq_some_iff.mp hx).1
    have hxi : xs[i]? = some xs[i] := List.getElem?_eq_getElem hi
    have px : (ex xs[i]).P F1 x := by
      obtain ⟨w, hw, z⟩ := PairS.get (i := i) (S := ex xs[i]) pv (by rw [List.getElem?_map, hxi]; rfl)
      rw [hx] at hw
      cases hw
      exact z
    have hm : xs[i] ∈ xs := List.getElem_mem hi
    have hk := kept_le (p := p) (f := f) (xs := xs) (i := i)
    refine ⟨wipe1, lc_turn (b := p xs[i]) (T := ex xs[i]) (S := f xs[i]) (ss := kept p f xs i) s1 hD (by omega) (fun F' g => (ex xs[i]).mono g.ff px) hI (ht _ hm) (he _ hm) fun H' z => ?_⟩
    rw [kept_succ hxi]
    exact z
  · rintro H' ⟨F', acc, g, hf, hp', pa⟩
    rw [hlen, kept_all] at pa
    exact q Dl _ F' H' (g1.trans g) (g1.hh.free hD) hf hp' ⟨acc, rfl, pa⟩
/-- .. ta a range -/
theorem eo_lcR {n : Nat} {z : Int} {tl : TA} (p : Nat → Bool) (f : Nat → Slot) (h : EvAs tl δ [.v (iS z)]) (hz : z.toNat = n) (hn : z ≤ 40000 ∧ -100000 ≤ z)
    (ht : ∀ m, m < n → EvT tt (δ.set j (.v (iS (m : Int)))) (p m)) (he : ∀ m, m < n → p m = true → EvE te (δ.set j (.v (iS (m : Int)))) (.v (f m))) :
    EvO (tLc (iRng1 tl) (gName j) tt te [j]) δ (lstO (((List.range n).filter p).map f)) := fun F0 H0 F H σ s Q q => by
  refine h F0 H0 F H σ s _ fun vs F1 H1 g1 a1 => ?_
  cases a1 with
  | cons p1 t => cases t with
    | nil =>
      cases p1
      have s1 := s.grow g1
      refine ⟨z, rfl, by omega, by omega, fun Dl hD => lc_range (lo := 0) (n := z.toNat) (fun i H' => LcI F1 H1 Dl (kept p f (List.range n) i) H') (LcI.start g1.fh hD) ?_ ?_⟩
      · rintro m H' hm hI
        have e0 : (0 : Int) + (m : Int) = (m : Int) := Int.zero_add _
        rw [e0]
        have hk := kept_le (p := p) (f := f) (xs := List.range n) (i := m)
        refine ⟨wipe1, lc_turn (b := p m) (T := iS (m : Int)) (S := f m) (ss := kept p f (List.range n) m) s1 hD (by omega) (fun F' sm => rfl) hI (ht _ (hz ▸ hm)) (he _ (hz ▸ hm)) fun H' z => ?_⟩
        have hx : (List.range n)[m]? = some m := List.getElem?_range (hz ▸ hm)
        rw [kept_succ hx]
        exact z
      · rintro H' ⟨F', acc, g, hf, hp', pa⟩
        have e : z.toNat = (List.range n).length := by rw [List.length_range, hz]
        rw [e, kept_all] at pa
        exact q Dl _ F' H' (g1.trans g) (g1.hh.free hD) hf hp' ⟨acc, rfl, pa⟩
end
end J

namespace J
open PySem PySem.Spec L2 PyProof.Rows

/-! ### defs, methods, classes as they stand -/
structure CalX (P : Program) (w : World) (K : PySem.W.Frag) (mg : Str → Option Value) (base : Heap) (k : Nat) (x : Str) (sp : Sp) : Prop where
  ex : ∃ (f : Addr) (fd : FuncData) (ps : List Str), FnOk P w K mg base (CXJ P w) k f fd ps sp ∧ mg x = some (.ref f) ∧ PySem.W.keepIn K (.ref f) = true ∧ Binds K fd ps []
structure MetX (P : Program) (w : World) (K : PySem.W.Frag) (mg : Str → Option Value) (base : Heap) (k : Nat) (C : Addr) (m : Str) (sp : Sp) : Prop where
  ex : ∃ (f : Addr) (fd : FuncData) (ps : List Str), Cls K C ∧ Meth K C m f ∧ FnOk P w K mg base (CXJ P w) k f fd ps sp ∧ Binds K fd ps []
structure MakX (P : Program) (w : World) (K : PySem.W.Frag) (mg : Str → Option Value) (base : Heap) (k : Nat) (x : Str) (C : Addr) (sp : Sp) : Prop where
  ex : ∃ (f : Addr) (fd : FuncData) (ps : List Str), Mk K C f ∧ FnOk P w K mg base (CXJ P w) k f fd ps sp ∧ mg x = some (.ref C) ∧ Binds K fd ps []
section
variable {X : Cx} {k j : Nat} {C : Addr} {x m : Str} {sp : Sp} {p pos apos : Pos} {e o : Expr} {es : List Expr} {ta : TE} {t : TA} {E : XK}
theorem pe_cX (c : CalX X.prog X.w X.K X.mg X.base k x sp) (hr : Room j X.A) (hk : k ≤ j) (hx : Passes (CXJ X.prog X.w) X E) (hg : Gl X x) (ha : PA X (e :: es) t)
    (hdb : (x == ("__debug__" : Str)) = false := by decide) (he : starEach (e :: es) X.env = (false, eval e X.env) :: starEach es X.env := by rfl) (hpl : (backTo pos (starEach es X.env)).any (·.1) = false := by rfl) :
    PE X (.Call (.Name x p) (e :: es) [] pos) (tCall sp [] E t) := by
  obtain ⟨f, fd, ps, F, hm, kp, b⟩ := c.ex
  exact pe_call F (hr.mono hk) hg hm kp b .nil hx ha hdb he hpl
theorem pe_cX0 (c : CalX X.prog X.w X.K X.mg X.base k x sp) (hr : Room j X.A) (hk : k ≤ j) (hx : Passes (CXJ X.prog X.w) X E) (hg : Gl X x) (hdb : (x == ("__debug__" : Str)) = false := by decide) :
    PE X (.Call (.Name x p) [] [] pos) (tCall sp [] E tNil) := by
  obtain ⟨f, fd, ps, F, hm, kp, b⟩ := c.ex
  exact pe_call0 F (hr.mono hk) hg hm kp b .nil hx hdb
theorem pe_mkX (c : MakX X.prog X.w X.K X.mg X.base k x C sp) (hr : Room j X.A) (hk : k + 1 ≤ j) (hx : Passes (CXJ X.prog X.w) X E) (hg : Gl X x) (ha : PA X (e :: es) t)
    (hdb : (x == ("__debug__" : Str)) = false := by decide) (he : starEach (e :: es) X.env = (false, eval e X.env) :: starEach es X.env := by rfl) (hpl : (backTo pos (starEach es X.env)).any (·.1) = false := by rfl) :
    PE X (.Call (.Name x p) (e :: es) [] pos) (tMake C sp [] E t) := by
  obtain ⟨f, fd, ps, M, F, hm, b⟩ := c.ex
  exact pe_make M F (hr.mono hk) hg hm b .nil hx ha hdb he hpl
theorem pe_mtX {pl : Sem Bool} (c : MetX X.prog X.w X.K X.mg X.base k C m sp) (hr : Room j X.A) (hk : k ≤ j) (hx : Passes (CXJ X.prog X.w) X E) (he : PE X o ta) (ha : PA X (e :: es) t)
    (hst : starEach (e :: es) X.env = (false, eval e X.env) :: starEach es X.env := by rfl) (hpl : (backTo pos (starEach es X.env)).any (·.1) = false := by rfl)
    (ht : eval (.Call (.Attribute o m apos) (e :: es) [] pos) X.env = (do
      let ov ← eval o X.env
      standAt apos.atName
      let (f, first) ← holding [ov] (getMethod ov m pl)
      callWith pos f first (backTo pos (starEach (e :: es) X.env)) (backToKw pos (keywordEach [] X.env))) := by rfl) :
    PE X (.Call (.Attribute o m apos) (e :: es) [] pos) (tMeth C m sp [] E ta t) := by
  obtain ⟨f, fd, ps, hc, hm, F, b⟩ := c.ex
  exact pe_meth (pl := pl) he hc hm F (hr.mono hk) b .nil hx ha hst hpl ht
theorem pe_mtX0 {pl : Sem Bool} (c : MetX X.prog X.w X.K X.mg X.base k C m sp) (hr : Room j X.A) (hk : k ≤ j) (hx : Passes (CXJ X.prog X.w) X E) (he : PE X o ta)
    (ht : eval (.Call (.Attribute o m apos) [] [] pos) X.env = (do
      let ov ← eval o X.env
      standAt apos.atName
      let (f, first) ← holding [ov] (getMethod ov m pl)
      callWith pos f first (backTo pos (starEach [] X.env)) (backToKw pos (keywordEach [] X.env))) := by rfl) :
    PE X (.Call (.Attribute o m apos) [] [] pos) (tMeth C m sp [] E ta tNil) := by
  obtain ⟨f, fd, ps, hc, hm, F, b⟩ := c.ex
  exact pe_meth0 (pl := pl) he hc hm F (hr.mono hk) b .nil hx ht
/-- one of two readings -/
theorem pe_or2 {t u : TE} (h1 : PE X e t) (h2 : PE X e u) : PE X e (fun σ H Q => t σ H Q ∨ u σ H Q) := ⟨fun pins s σ H Q I h => h.elim (h1.run pins s σ H Q I) (h2.run pins s σ H Q I)⟩
theorem pt_or2 {t u : TT} (h1 : PT X e t) (h2 : PT X e u) : PT X e (fun σ H Q => t σ H Q ∨ u σ H Q) := ⟨fun pins s σ H Q I h => h.elim (h1.run pins s σ H Q I) (h2.run pins s σ H Q I)⟩
theorem pi_or2 {tg : Expr} {t u : TI} (h1 : PI X tg e t) (h2 : PI X tg e u) : PI X tg e (fun σ H Q => t σ H Q ∨ u σ H Q) := ⟨fun pins s σ H R I h => h.elim (h1.run pins s σ H R I) (h2.run pins s σ H R I)⟩
theorem pi_any {tg : Expr} {tl : TE} (h : PE X e tl) : PI X tg e (iAny X.K tl) := pi_or2 (pi_list h) (pi_or2 (pi_tup h) (pi_keys h))
/-- raise C("..") of an own class -/
structure ExcK (K : PySem.W.Frag) (mg : Str → Option Value) (x : Str) (C : Addr) : Prop where
  xi : PySem.W.excIn K C [.type "ValueError", .type "Exception", .type "BaseException", .type "object"] "ValueError.__new__" = true
  g : mg x = some (.ref C)
  k : PySem.W.keepIn K (.ref C) = true
  b : PySem.W.subIn K (.ref C) (.type "BaseException") = some true
  t : PySem.W.typeIn K (.ref C) = some (.type "type")
theorem ps_raiseX {msg : Str} {jz : Nat} {p2 pos' : Pos} (hc : X.calm = true) (tk : L2N.Takes X (fun c d _ H => E c d H)) (T : ExcK X.K X.mg x C) (hg : Gl X x) (hdb : (x == ("__debug__" : Str)) = false := by decide) :
    PS X (.Raise (some (.Call (.Name x p) [.Constant (.str msg) jz p2] [] pos)) none pos') (tRaise E C) :=
  L2N.ps_raise hc tk (L2N.pmk_own PySem.F.excBase_ValueError T.xi T.g T.k (raises_own T.b T.t) hg hdb)
end

/-! ### operators of any kind -/
def rAddJ (K : PySem.W.Frag) : R2 := fun x y H Q => rI0 (fun i j => .int (i + j)) x y H Q ∨ (∃ i j, x = .str i ∧ y = .str j ∧ i.length + j.length ≤ sizeLine ∧ Q (.str (i ++ j)) H) ∨ rCatA K x y H Q ∨ rCat x y H Q
def rEqJ (K : PySem.W.Frag) : R2 := fun x y H Q => rEq x y H Q ∨ rEqD K x y H Q
def rNeJ (K : PySem.W.Frag) : R2 := fun x y H Q => rNe x y H Q ∨ rNeD K x y H Q
def rSlJ (K : PySem.W.Frag) : V → Option Int → Option Int → Hp → VK → Prop := fun x lo hi H Q => rSlA K x lo hi H Q ∨ rSlL K x lo hi H Q ∨ C8.rSlX x lo hi H Q
def rLenJ (K : PySem.W.Frag) : List V → Hp → VK → Prop := fun xs H Q => (∃ p ys, xs = [.ref p] ∧ (SqL K H p ys ∨ SqT K H p ys) ∧ Q (.int ys.length) H) ∨ (∃ z, xs = [.str z] ∧ z.length ≤ sizeLine ∧ Q (.int z.length) H)
section
variable {X : Cx}
theorem jo_add : OpR X (binaryOp .Add) (rAddJ X.K) := OpR.or op_add (OpR.or op_add_str (OpR.or op_catA op_cat))
theorem jo_eq (hu : X.A.units + 64 < cLine) : OpR X (compareOp .Eq) (rEqJ X.K) := OpR.or op_eq (op_eqD hu)
theorem jo_ne (hu : X.A.units + 64 < cLine) : OpR X (compareOp .NotEq) (rNeJ X.K) := OpR.or op_ne (op_neD hu)
theorem jo_sl : SlR X (rSlJ X.K) := SlR.or sl_tupA (SlR.or sl_list C8.sl_txt)
theorem jc_len : CallR X (.builtin "len") (rLenJ X.K) := CallR.or call_len_seq call_len_str
end
/-- a[b]: of a list, a tuple, a text, a dict -/
def tIx (K : PySem.W.Frag) (ta tb : TE) : TE := fun σ H Q => tOp (rIx K) ta tb σ H Q ∨ tDGet ta tb σ H Q
def tInJ (K : PySem.W.Frag) (ta tb : TE) : TE := fun σ H Q => tOp (rIn K false) ta tb σ H Q ∨ tDIn ta tb σ H Q ∨ tOp (rInD K) ta tb σ H Q
def tNiJ (K : PySem.W.Frag) (ta tb : TE) : TE := fun σ H Q => tOp (rIn K true) ta tb σ H Q ∨ tDNotIn ta tb σ H Q ∨ tOp (rNotInD K) ta tb σ H Q
section
variable {X : Cx} {a b : Expr} {ta tb : TE} {pos : Pos} {k : Nat}
theorem Room.u65 {A : Around} (r : Room k A) : A.units + 65 < cLine := by have := r.un; omega
theorem pe_ixJ (hr : Room k X.A) (ha : PE X a ta) (hb : PE X b tb) (hs : PlainIx b) (hs2 : NoSl b) : PE X (.Subscript a b pos) (tIx X.K ta tb) := pe_or2 (pe_ix ix_seq ha hb hs) (pe_dget (Nat.lt_of_le_of_lt (by omega) (Room.u65 hr)) ha hb hs2)
theorem pe_inJ (hr : Room k X.A) (ha : PE X a ta) (hb : PE X b tb) (hm : behindInMarks .In b = false) : PE X (.Compare a [.In] [b] pos) (tInJ X.K ta tb) :=
  pe_or2 (pe_cmpR op_in_seq ha hb hm) (pe_or2 (pe_cmp (pc_din (Nat.lt_of_le_of_lt (by omega) (Room.u65 hr)) ha hb) hm) (pe_cmpR (op_inD (Room.u65 hr)) ha hb hm))
theorem pe_niJ (hr : Room k X.A) (ha : PE X a ta) (hb : PE X b tb) (hm : behindInMarks .NotIn b = false) : PE X (.Compare a [.NotIn] [b] pos) (tNiJ X.K ta tb) :=
  pe_or2 (pe_cmpR op_notIn_seq ha hb hm) (pe_or2 (pe_cmp (pc_dnotin (Nat.lt_of_le_of_lt (by omega) (Room.u65 hr)) ha hb) hm) (pe_cmpR (op_notInD (Room.u65 hr)) ha hb hm))
theorem tB_test {t : TE} : tB t = tTest t := rfl
theorem pt_inJ (hr : Room k X.A) (ha : PE X a ta) (hb : PE X b tb) (hm : behindInMarks .In b = false) : PT X (.Compare a [.In] [b] pos) (tTest (tInJ X.K ta tb)) := by
  refine ⟨fun pins s σ H Q I h => ?_⟩
  rcases h with h | h | h
  · exact (pt_cmpR op_in_seq ha hb hm).run pins s σ H Q I h
  · exact (pt_cmp (pc_din (Nat.lt_of_le_of_lt (by omega) (Room.u65 hr)) ha hb) hm).run pins s σ H Q I h
  · exact (pt_cmpR (op_inD (Room.u65 hr)) ha hb hm).run pins s σ H Q I h
theorem pt_niJ (hr : Room k X.A) (ha : PE X a ta) (hb : PE X b tb) (hm : behindInMarks .NotIn b = false) : PT X (.Compare a [.NotIn] [b] pos) (tTest (tNiJ X.K ta tb)) := by
  refine ⟨fun pins s σ H Q I h => ?_⟩
  rcases h with h | h | h
  · exact (pt_cmpR op_notIn_seq ha hb hm).run pins s σ H Q I h
  · exact (pt_cmp (pc_dnotin (Nat.lt_of_le_of_lt (by omega) (Room.u65 hr)) ha hb) hm).run pins s σ H Q I h
  · exact (pt_cmpR (op_notInD (Room.u65 hr)) ha hb hm).run pins s σ H Q I h
end

/-! ### what they give -/
section
variable {K : PySem.W.Frag} {te ta tb : TE} {tl th : TO} {tr : TA} {δ es : List Ent} {e e1 e2 : Ent} {o : Own} {S T : Slot} {ss ts : List Slot} {n m : Nat} {i j : Int}
theorem jv_add : OpE (rAddJ K) (.v (iS i)) (.v (iS j)) (.v (iS (i + j))) := OpE.inl op_I0
theorem jv_adds {x y : Str} (h : x.length + y.length ≤ 100000) : OpE (rAddJ K) (.v (sS x)) (.v (sS y)) (.v (sS (x ++ y))) := OpE.inr (OpE.inl (op_k fun _ _ q => ⟨x, y, rfl, rfl, size_ok h, q⟩))
theorem jv_addt (h : ss.length + ts.length ≤ 100000) : OpE (rAddJ K) (.v (tupS ss)) (.v (tupS ts)) (.v (tupS (ss ++ ts))) := OpE.inr (OpE.inr (OpE.inl fun F H x y s a b Q q => by
  obtain ⟨p, ho, rfl, hp, vs, rfl, pv⟩ := a
  obtain ⟨p', ho', rfl, hp', ws, rfl, pw⟩ := b
  refine ⟨p, p', vs, ws, rfl, rfl, SqT.of (s p _ hp), SqT.of (s p' _ hp'), by rw [pv.length, pw.length]; exact size_ok h, ?_, ?_, ?_⟩
  · rintro rfl
    cases pv
    exact q _ F H (Grow.refl s) ⟨p', _, rfl, hp', ws, rfl, pw⟩
  · rintro _ rfl
    cases pw
    exact q _ F H (Grow.refl s) ⟨p, _, rfl, hp, vs, rfl, by rw [List.append_nil]; exact pv⟩
  · intro _ _ r hr
    have g := Grow.newF (o := .tup (vs ++ ws)) s hr
    exact q _ _ _ g ⟨r, _, rfl, upd_same, _, rfl, PairS.mono g.ff (PairS.app pv pw)⟩))
theorem jo_addl (h1 : IsR e1 (lstO ss)) (h2 : IsR e2 (lstO ts)) (h : ss.length + ts.length ≤ 100000) : OpO (rAddJ K) e1 e2 (lstO (ss ++ ts)) := OpO.inr (OpO.inr (OpO.inr fun F H x y s a b Q q => by
  obtain ⟨p, ho, rfl, hp, vs, rfl, pv⟩ := h1.get a s
  obtain ⟨p', ho', rfl, hp', ws, rfl, pw⟩ := h2.get b s
  exact ⟨p, p', vs, ws, rfl, rfl, hp, hp', by rw [pv.length, pw.length]; exact size_ok h, fun r hr => q r _ F _ (Grow.newH s hr) hr (s.free hr) upd_same ⟨_, rfl, PairS.app pv pw⟩⟩))
theorem jv_eq {x y : V} (h : scal x y = true) : OpE (rEqJ K) (.v (kS x)) (.v (kS y)) (.v (bS (decide (x = y)))) := OpE.inl (op_Eq h)
theorem jv_eqi : OpE (rEqJ K) (.v (iS i)) (.v (iS j)) (.v (bS (decide (i = j)))) := by
  have z := jv_eq (K := K) (x := .int i) (y := .int j) rfl
  have e : decide (V.int i = V.int j) = decide (i = j) := by
    by_cases h : i = j
    · rw [h, decide_eq_true rfl, decide_eq_true rfl]
    · rw [decide_eq_false h, decide_eq_false fun q => h (V.int.inj q)]
  rw [e] at z
  exact z
theorem jv_nei : OpE (rNeJ K) (.v (iS i)) (.v (iS j)) (.v (bS (!decide (i = j)))) := by
  have z : OpE (rNeJ K) (.v (iS i)) (.v (iS j)) (.v (bS (!decide (V.int i = V.int j)))) := OpE.inl (op_Ne rfl)
  have e : decide (V.int i = V.int j) = decide (i = j) := by
    by_cases h : i = j
    · rw [h, decide_eq_true rfl, decide_eq_true rfl]
    · rw [decide_eq_false h, decide_eq_false fun q => h (V.int.inj q)]
  rw [e] at z
  exact z
theorem jv_eqb {a b : Bool} : OpE (rEqJ K) (.v (bS a)) (.v (bS b)) (.v (bS (decide (a = b)))) := by
  have z := jv_eq (K := K) (x := .bl a) (y := .bl b) rfl
  have e : decide (V.bl a = V.bl b) = decide (a = b) := by cases a <;> cases b <;> rfl
  rw [e] at z
  exact z
theorem jv_neb {a b : Bool} : OpE (rNeJ K) (.v (bS a)) (.v (bS b)) (.v (bS (!decide (a = b)))) := by
  have z : OpE (rNeJ K) (.v (bS a)) (.v (bS b)) (.v (bS (!decide (V.bl a = V.bl b)))) := OpE.inl (op_Ne rfl)
  have e : decide (V.bl a = V.bl b) = decide (a = b) := by cases a <;> cases b <;> rfl
  rw [e] at z
  exact z
theorem jv_eqs {a b : Str} : OpE (rEqJ K) (.v (sS a)) (.v (sS b)) (.v (bS (decide (a = b)))) := by
  have z := jv_eq (K := K) (x := .str a) (y := .str b) rfl
  have e : decide (V.str a = V.str b) = decide (a = b) := by
    by_cases h : a = b
    · rw [h, decide_eq_true rfl, decide_eq_true rfl]
    · rw [decide_eq_false h, decide_eq_false fun q => h (V.str.inj q)]
  rw [e] at z
  exact z
/-- data, whatever it is -/
structure Dat (K : PySem.W.Frag) (e : Ent) (d : PyData) : Prop where
  to : ∀ (F H : Hp) (x : V), Same F H → ArgOk F H x e → Dp K H x d
  sh : SeqAt.shaped d = true
structure DatS (K : PySem.W.Frag) (ss : List Slot) (ds : List PyData) : Prop where
  to : ∀ (F H : Hp) (vs : List V), Same F H → PairS F vs ss → DpAll K H vs ds
theorem jv_eqD {d1 d2 : PyData} (h1 : Dat K e1 d1) (h2 : Dat K e2 d2) : OpE (rEqJ K) e1 e2 (.v (bS (PyData.eqv d1 d2))) := OpE.inr fun F H x y s a b Q q => ⟨d1, d2, h1.to F H x s a, h2.to F H y s b, h1.sh, h2.sh, q _ F H (Grow.refl s) rfl⟩
theorem jv_neD {d1 d2 : PyData} (h1 : Dat K e1 d1) (h2 : Dat K e2 d2) : OpE (rNeJ K) e1 e2 (.v (bS (!PyData.eqv d1 d2))) := OpE.inr fun F H x y s a b Q q => ⟨d1, d2, h1.to F H x s a, h2.to F H y s b, h1.sh, h2.sh, q _ F H (Grow.refl s) rfl⟩

/-! ### places -/
theorem jv_ixl {xs : List Slot} (h : IsR e1 (lstO xs)) (hx : xs[n]? = some S) : OpE (rIx K) e1 (.v (iS (n : Int))) (.v S) := fun F H x y s a b Q q => by
  obtain ⟨p, ho, rfl, hp, vs, rfl, pv⟩ := h.get a s
  cases b
  obtain ⟨v, hv, z⟩ := PairS.get pv hx
  exact .inl ⟨p, vs, (n : Int), v, rfl, rfl, SqL.of hp, atI_nat hv, q v F H (Grow.refl s) z⟩
theorem jv_ixt {xs : List Slot} (h : IsR e1 (tupO xs)) (hx : xs[n]? = some S) : OpE (rIx K) e1 (.v (iS (n : Int))) (.v S) := fun F H x y s a b Q q => by
  obtain ⟨p, ho, rfl, hp, vs, rfl, pv⟩ := h.get a s
  cases b
  obtain ⟨v, hv, z⟩ := PairS.get pv hx
  exact .inr (.inl ⟨p, vs, (n : Int), v, rfl, rfl, SqT.of hp, atI_nat hv, q v F H (Grow.refl s) z⟩)
theorem ev_ix (ha : EvE ta δ e1) (hb : EvE tb δ e2) (h : OpE (rIx K) e1 e2 e) : EvE (tIx K ta tb) δ e := fun F0 H0 F H σ s Q q => .inl (ev_op ha hb h F0 H0 F H σ s Q q)
/-- t[lo:hi] -/
def EvPO (to : TO) (δ : List Ent) (r : Option Int) : Prop := ∀ (F0 H0 F H : Hp) (σ : L2.St), St F0 H0 F H σ δ → ∀ Q : Option Int → Hp → Prop, (∀ F' H', Grow F H F' H' → Q r H') → to σ H Q
theorem eo_none : EvPO tNoPart δ none := fun F0 H0 F H σ s Q q => q F H (Grow.refl s.fh)
theorem eo_some (h : EvE te δ (.v (iS i))) : EvPO (tPart te) δ (some i) := fun F0 H0 F H σ s Q q => h F0 H0 F H σ s _ fun v F' H' g a => ⟨i, a, q F' H' g⟩
def cutS' (ss : List Slot) (lo hi : Option Int) : List Slot := (ss.drop (HT.sIx ss.length 0 lo)).take (HT.sIx ss.length ss.length hi - HT.sIx ss.length 0 lo)
theorem ev_slt {lo hi : Option Int} (h : EvE te δ (.v (tupS ss))) (h1 : EvPO tl δ lo) (h2 : EvPO th δ hi) : EvE (tSl (rSlJ K) te tl th) δ (.v (tupS (cutS' ss lo hi))) := fun F0 H0 F H σ s Q q =>
  h F0 H0 F H σ s _ fun x F1 H1 g1 a1 => h1 F0 H0 F1 H1 σ (s.grow g1) _ fun F2 H2 g2 => h2 F0 H0 F2 H2 σ ((s.grow g1).grow g2) _ fun F3 H3 g3 => by
    have g := (g1.trans g2).trans g3
    obtain ⟨p, ho, rfl, hp, vs, rfl, pv⟩ := (tupS ss).mono (g2.trans g3).ff a1
    refine .inl ⟨p, vs, rfl, SqT.of (g3.fh p _ hp), fun ⟨z1, z2⟩ => ?_, fun _ r hr => ?_⟩
    · refine q _ F3 H3 g ⟨p, _, rfl, hp, vs, rfl, ?_⟩
      unfold cutS'
      rw [pv.length] at z1 z2
      rw [z1, z2, List.drop_zero, Nat.sub_zero, List.take_length]
      exact pv
    · have g4 := Grow.newF (o := .tup (cutV vs lo hi)) g3.fh hr
      refine q _ _ _ (g.trans g4) ⟨r, _, rfl, upd_same, _, rfl, PairS.mono g4.ff ?_⟩
      unfold cutS' cutV
      rw [pv.length]
      exact PairS.take _ (PairS.drop _ pv)
theorem eo_sll {lo hi : Option Int} (h : EvE te δ e1) (hr : IsR e1 (lstO ss)) (h1 : EvPO tl δ lo) (h2 : EvPO th δ hi) : EvO (tSl (rSlJ K) te tl th) δ (lstO (cutS' ss lo hi)) := fun F0 H0 F H σ s Q q =>
  h F0 H0 F H σ s _ fun x F1 H1 g1 a1 => h1 F0 H0 F1 H1 σ (s.grow g1) _ fun F2 H2 g2 => h2 F0 H0 F2 H2 σ ((s.grow g1).grow g2) _ fun F3 H3 g3 => by
    have g := (g1.trans g2).trans g3
    obtain ⟨p, ho, rfl, hp, vs, rfl, pv⟩ := hr.get (a1.grow (g2.trans g3)) g3.fh
    refine .inr (.inl ⟨p, vs, rfl, SqL.of hp, fun r hr => ?_⟩)
    refine q r _ F3 _ (g.trans (Grow.newH g3.fh hr)) (g.hh.free hr) (g3.fh.free hr) upd_same ⟨_, rfl, ?_⟩
    unfold cutS' cutV
    rw [pv.length]
    exact PairS.take _ (PairS.drop _ pv)
theorem cut_to (k : Nat) : cutS' ss none (some (k : Int)) = ss.take k := by
  unfold cutS'
  rw [HT.sIx_none, HT.sIx_nat, List.drop_zero, Nat.sub_zero]
  by_cases h : k ≤ ss.length
  · rw [Nat.min_eq_left h]
  · rw [Nat.min_eq_right (by omega), List.take_length, List.take_of_length_le (by omega)]
theorem cut_from (k : Nat) : cutS' ss (some (k : Int)) none = ss.drop k := by
  unfold cutS'
  rw [HT.sIx_none, HT.sIx_nat]
  by_cases h : k ≤ ss.length
  · rw [Nat.min_eq_left h, List.take_of_length_le (by rw [List.length_drop]; omega)]
  · rw [Nat.min_eq_right (by omega), List.drop_length, List.drop_of_length_le (by omega)]
    simp

/-! ### built-in functions -/
def CbE (r : List V → Hp → VK → Prop) (es : List Ent) (e : Ent) : Prop := ∀ (F H : Hp) (xs : List V), Same F H → Paired (ArgOk F H) xs es → ∀ Q : VK, (∀ v F' H', Grow F H F' H' → ArgOk F' H' v e → Q v H') → r xs H Q
def CbO (r : List V → Hp → VK → Prop) (es : List Ent) (o : Own) : Prop := ∀ (F H : Hp) (xs : List V), Same F H → Paired (ArgOk F H) xs es → ∀ Q : VK, (∀ p ho F' H', Grow F H F' H' → H p = none → F' p = none → H' p = some ho → o.P F' p ho → Q (.ref p) H') → r xs H Q
theorem ev_cb {r : List V → Hp → VK → Prop} (h : EvAs tr δ es) (hr : CbE r es e) : EvE (tCB r tr) δ e := fun F0 H0 F H σ s Q q =>
  h F0 H0 F H σ s _ fun vs F1 H1 g1 a1 => hr F1 H1 vs g1.fh a1 Q fun v F2 H2 g2 a2 => q v F2 H2 (g1.trans g2) a2
theorem eo_cb {r : List V → Hp → VK → Prop} (h : EvAs tr δ es) (hr : CbO r es o) : EvO (tCB r tr) δ o := fun F0 H0 F H σ s Q q =>
  h F0 H0 F H σ s _ fun vs F1 H1 g1 a1 => hr F1 H1 vs g1.fh a1 Q fun p ho F2 H2 g2 hn hf hp z => q p ho F2 H2 (g1.trans g2) (g1.hh.free hn) hf hp z
theorem one {F H : Hp} {xs : List V} (h : Paired (ArgOk F H) xs [e]) : ∃ x, xs = [x] ∧ ArgOk F H x e := by
  cases h with
  | cons p t => cases t with
    | nil => exact ⟨_, rfl, p⟩
theorem two {F H : Hp} {xs : List V} (h : Paired (ArgOk F H) xs [e1, e2]) : ∃ x y, xs = [x, y] ∧ ArgOk F H x e1 ∧ ArgOk F H y e2 := by
  cases h with
  | cons p t => cases t with
    | cons p2 t => cases t with
      | nil => exact ⟨_, _, rfl, p, p2⟩
theorem cb_len (h : IsR e1 (lstO ss)) : CbE (rLenJ K) [e1] (.v (iS (ss.length : Int))) := fun F H xs s a Q q => by
  obtain ⟨x, rfl, a1⟩ := one a
  obtain ⟨p, ho, rfl, hp, vs, rfl, pv⟩ := h.get a1 s
  exact .inl ⟨p, vs, rfl, .inl (SqL.of hp), by rw [pv.length]; exact q _ F H (Grow.refl s) rfl⟩
theorem cb_lent (h : IsR e1 (tupO ss)) : CbE (rLenJ K) [e1] (.v (iS (ss.length : Int))) := fun F H xs s a Q q => by
  obtain ⟨x, rfl, a1⟩ := one a
  obtain ⟨p, ho, rfl, hp, vs, rfl, pv⟩ := h.get a1 s
  exact .inl ⟨p, vs, rfl, .inr (SqT.of hp), by rw [pv.length]; exact q _ F H (Grow.refl s) rfl⟩
theorem cb_lens {z : Str} (h : z.length ≤ 100000) : CbE (rLenJ K) [.v (sS z)] (.v (iS (z.length : Int))) := fun F H xs s a Q q => by
  obtain ⟨x, rfl, a1⟩ := one a
  cases a1
  exact .inr ⟨z, rfl, size_ok h, q _ F H (Grow.refl s) rfl⟩
theorem cb_max2 : CbE (fun xs H Q => ∃ i j : Int, xs = [.int i, .int j] ∧ Q (.int (if j > i then j else i)) H) [.v (iS i), .v (iS j)] (.v (iS (max i j))) := fun F H xs s a Q q => by
  obtain ⟨x, y, rfl, a1, a2⟩ := two a
  cases a1
  cases a2
  refine ⟨i, j, rfl, ?_⟩
  have e : (if j > i then j else i) = max i j := by split <;> omega
  rw [e]
  exact q _ F H (Grow.refl s) rfl
theorem cb_min2 : CbE (fun xs H Q => ∃ i j : Int, xs = [.int i, .int j] ∧ Q (.int (if j < i then j else i)) H) [.v (iS i), .v (iS j)] (.v (iS (min i j))) := fun F H xs s a Q q => by
  obtain ⟨x, y, rfl, a1, a2⟩ := two a
  cases a1
  cases a2
  refine ⟨i, j, rfl, ?_⟩
  have e : (if j < i then j else i) = min i j := by split <;> omega
  rw [e]
  exact q _ F H (Grow.refl s) rfl
/-- a value's type, a class -/
def TyE (K : PySem.W.Frag) (e : Ent) (t : Value) : Prop := ∀ (F H : Hp) (x : V), Same F H → ArgOk F H x e → TyX K H x t
theorem cb_isi {t u : Value} {c : V} {b : Bool} (h : TyE K e1 t) (hc : ClsV c u) (hb : PySem.W.kitOne K t u = some b) : CbE (rIsi K) [e1, .v (kS c)] (.v (bS b)) := fun F H xs s a Q q => by
  obtain ⟨x, y, rfl, a1, a2⟩ := two a
  cases a2
  exact ⟨x, c, t, u, b, rfl, hc, h F H x s a1, hb, q _ F H (Grow.refl s) rfl⟩
theorem ty_int : TyE K (.v (iS i)) (.type "int") := fun F H x s a => by cases a; exact .base (.int i)
theorem ty_bl {b : Bool} : TyE K (.v (bS b)) (.type "bool") := fun F H x s a => by cases a; exact .base (.bl b)
theorem ty_str {b : Str} : TyE K (.v (sS b)) (.type "str") := fun F H x s a => by cases a; exact .base (.str b)
theorem ty_non : TyE K (.v nS) (.type "NoneType") := fun F H x s a => by cases a; exact .base .non
theorem ty_lst (h : IsR e1 (lstO ss)) : TyE K e1 (.type "list") := fun F H x s a => by
  obtain ⟨p, ho, rfl, hp, vs, rfl, pv⟩ := h.get a s
  exact .base (.lst hp)
theorem ty_tup (h : IsR e1 (tupO ss)) : TyE K e1 (.type "tuple") := fun F H x s a => by
  obtain ⟨p, ho, rfl, hp, vs, rfl, pv⟩ := h.get a s
  exact .base (.tup hp)
structure InsK (K : PySem.W.Frag) (C : Addr) : Prop where
  cl : Cls K C
  ha : PySem.W.findIn K (.ref C) "__class__" = some (some (.builtin "object.__class__"))
  hn : PySem.W.specialIn K (.builtin "object.__class__") "__get__" = some (some (.builtin "getset_descriptor.__get__"))
  tk : PySem.W.takesIn K (.builtin "object.__class__") = some true
  hm : PySem.W.mroIn K C (.type "object") = some true
theorem ty_ins {C : Addr} {fs : List (Str × Slot)} (k : InsK K C) (h : IsR e1 (insO C fs)) : TyE K e1 (.ref C) := fun F H x s a => by
  obtain ⟨p, ho, rfl, hp, dx, fv, rfl, pv⟩ := h.get a s
  exact .base (.ins hp k.cl k.ha k.hn k.tk k.hm)
/-- list(..), tuple(..) of a list, a tuple -/
theorem co_list (h : IsR e1 (lstO ss)) : CbO (fun xs H Q => ∃ p ys, xs = [.ref p] ∧ (SqL K H p ys ∨ SqT K H p ys) ∧ ∀ l, H l = none → Q (.ref l) (upd H l (.lst ys))) [e1] (lstO ss) := fun F H xs s a Q q => by
  obtain ⟨x, rfl, a1⟩ := one a
  obtain ⟨p, ho, rfl, hp, vs, rfl, pv⟩ := h.get a1 s
  exact ⟨p, vs, rfl, .inl (SqL.of hp), fun l hl => q l _ F _ (Grow.newH s hl) hl (s.free hl) upd_same ⟨vs, rfl, pv⟩⟩
theorem co_listT (h : IsR e1 (tupO ss)) : CbO (fun xs H Q => ∃ p ys, xs = [.ref p] ∧ (SqL K H p ys ∨ SqT K H p ys) ∧ ∀ l, H l = none → Q (.ref l) (upd H l (.lst ys))) [e1] (lstO ss) := fun F H xs s a Q q => by
  obtain ⟨x, rfl, a1⟩ := one a
  obtain ⟨p, ho, rfl, hp, vs, rfl, pv⟩ := h.get a1 s
  exact ⟨p, vs, rfl, .inr (SqT.of hp), fun l hl => q l _ F _ (Grow.newH s hl) hl (s.free hl) upd_same ⟨vs, rfl, pv⟩⟩
theorem cb_tuple (h : IsR e1 (lstO ss)) : CbE (fun xs H Q => ∃ p ys, xs = [.ref p] ∧ ((SqL K H p ys ∧ ∀ l, H l = none → Q (.ref l) (upd H l (.tup ys))) ∨ (SqT K H p ys ∧ Q (.ref p) H))) [e1] (.v (tupS ss)) := fun F H xs s a Q q => by
  obtain ⟨x, rfl, a1⟩ := one a
  obtain ⟨p, ho, rfl, hp, vs, rfl, pv⟩ := h.get a1 s
  refine ⟨p, vs, rfl, .inl ⟨SqL.of hp, fun l hl => ?_⟩⟩
  have g := Grow.newF (o := .tup vs) s hl
  exact q _ _ _ g ⟨l, _, rfl, upd_same, vs, rfl, PairS.mono g.ff pv⟩
end

/-! ### a def's body keeps its promise -/
theorem args_start {F H : Hp} : ∀ {vs : List V} {es : List Ent} {k : Nat}, Same F H → TupIn F H → Paired (ArgOk F H) vs es → St F H F H (vs.map some ++ List.replicate k none) (es ++ List.replicate k .un) := by
  intro vs es k s tt h
  have hl := h.length
  refine ⟨Grow.refl s, by simp [hl], fun i S hi => ?_, fun i o hi => ?_, fun i o hi => ?_, fun i j o o' a _ h1 _ _ _ => ?_, tt, fun i C fs hi => ?_, fun i j o a C fs h1 _ _ _ => ?_⟩
  all_goals
    have key : ∀ {n : Nat} {e : Ent}, e ≠ .un → (es ++ List.replicate k Ent.un)[n]? = some e → ∃ v, (vs.map some ++ List.replicate k (none : Option V))[n]? = some (some v) ∧ ArgOk F H v e := by
      intro n e he hn
      by_cases hlt : n < es.length
      · rw [List.getElem?_append_left hlt] at hn
        rw [List.getElem?_append_left (by rw [List.length_map]; omega)]
        have get : ∀ {vs : List V} {es : List Ent} {n : Nat}, Paired (ArgOk F H) vs es → es[n]? = some e → ∃ v, vs[n]? = some v ∧ ArgOk F H v e := by
          intro vs es n h
          induction h generalizing n with
          | nil => intro z; simp at z
          | cons p t ih =>
            intro z
            cases n with
            | zero =>
              cases z
              exact ⟨_, rfl, p⟩
            | succ n =>
              obtain ⟨v, e1, e2⟩ := ih (by simpa using z)
              exact ⟨v, by simpa using e1, e2⟩
        obtain ⟨v, e1, e2⟩ := get h hn
        exact ⟨v, by rw [List.getElem?_map, e1]; rfl, e2⟩
      · rw [List.getElem?_append_right (by omega)] at hn
        rw [List.getElem?_replicate] at hn
        split at hn
        · exact (he (Option.some.inj hn).symm).elim
        · cases hn
  · exact key (e := .v S) (by intro z; cases z) hi
  · obtain ⟨v, _, z⟩ := key (e := .ow o) (by intro z; cases z) hi
    exact z.elim
  · obtain ⟨v, e1, p, ho, rfl, hp, z⟩ := key (e := .bo o) (by intro z; cases z) hi
    exact ⟨p, ho, e1, hp, z⟩
  · obtain ⟨v, _, z⟩ := key (e := .ow o) (by intro z; cases z) h1
    exact z.elim
  · obtain ⟨v, _, z⟩ := key (e := .ni C fs) (by intro z; cases z) hi
    exact z.elim
  · obtain ⟨v, _, z⟩ := key (e := .ni C fs) (by intro z; cases z) h1
    exact z.elim
section
variable {P : Program} {w : World} {K : PySem.W.Frag} {mg : Str → Option Value} {base : Heap} {CX : CXT}
theorem okAny {x qual : Str} {st : Stmt} {f : Addr} {fd : FuncData} {N ps : List Str} {k : Nat} {sp : Sp} (F : Fun K x qual st f fd) (S : FnScope N ps (defScope st)) (len : ∀ vs H Q E, sp vs H Q E → vs.length = ps.length)
    (body : ∀ (cdv : Value) (A : Around) (outer : List Env) (s : Shared) (H : Hp) (vs : List V) (Q : VK) (E : XK), Room k (A.deeper (envOfC qual (defScope st) s.heap.objs.size f cdv)) → sp vs H Q E →
      ∃ t, PSs (cxOf CX P w K mg base N qual (defScope st) f cdv A outer s H E) (defBody st) t ∧ t { nx := fun _ H' => Q .non H', rt := Q } (L2.start N vs) H) :
    FnOk P w K mg base CX (k + 1) f fd ps sp := by
  rcases F.ex with ⟨_, _, _, _, _, _, cdv, _, _, rfl, at_, code_⟩
  exact fn_of at_ code_ S len (fun A outer s H vs Q E room hsp => body cdv A outer s H vs Q E room hsp)
theorem fn_ok {x qual : Str} {st : Stmt} {f : Addr} {fd : FuncData} {N ps : List Str} {k : Nat} {R : Rel} (F : Fun K x qual st f fd) (S : FnScope N ps (defScope st)) (len : ∀ es r, R es r → es.length = ps.length)
    (hbody : ∀ (cdv : Value) (A : Around) (outer : List Env) (s : Shared) (H : Hp) (E : XK), Room k (A.deeper (envOfC qual (defScope st) s.heap.objs.size f cdv)) →
      ∃ t, PSs (cxOf CX P w K mg base N qual (defScope st) f cdv A outer s H E) (defBody st) t ∧
        ∀ (es : List Ent) (r : Res) (F : Hp) (σ : L2.St) (Q : VK), R es r → St F H F H σ (es ++ List.replicate (N.length - es.length) .un) → r.post F H Q E → t { nx := fun _ H' => Q .non H', rt := Q } σ H) :
    FnOk P w K mg base CX (k + 1) f fd ps (SpOf R) := by
  refine okAny F S (fun vs H Q E ⟨F, es, r, _, _, ha, hR, _⟩ => ha.length.trans (len es r hR)) (fun cdv A outer s H vs Q E hr ⟨F, es, r, sm, tt, ha, hR, k⟩ => ?_)
  obtain ⟨t, ht, hq⟩ := hbody cdv A outer s H E hr
  refine ⟨t, ht, hq es r F _ Q hR ?_ k⟩
  have e := ha.length
  unfold L2.start
  rw [e]
  exact args_start sm tt ha
/-- self, in __init__ -/
def selO (p C : Addr) (fs : List (Str × Slot)) : Own := ⟨fun F a ho => a = p ∧ (insO C fs).P F a ho, fun s h => ⟨h.1, (insO C fs).mono s h.2⟩⟩
theorem St.self {F H : Hp} {p dx C : Addr} {vs : List V} {es : List Ent} {k : Nat} (sm : Same F (era H p)) (tt : TupIn F (era H p)) (ha : Paired (ArgOk F (era H p)) vs es) (hp : H p = some (.ins C dx [])) :
    St F (era H p) F H ((V.ref p :: vs).map some ++ List.replicate k none) ((.ow (selO p C []) :: es) ++ List.replicate k .un) := by
  have s0 : St F (era H p) F (era H p) (some (V.ref p) :: (vs.map some ++ List.replicate k none)) (.un :: (es ++ List.replicate k .un)) := by
    have z := args_start (k := k) sm tt ha
    refine ⟨z.g, by rw [List.length_cons, List.length_cons, z.len], fun i S hi => ?_, fun i o hi => ?_, fun i o hi => ?_, fun i j o o' a ne h1 h2 h3 h4 => ?_, z.tt, fun i C fs hi => ?_, fun i j o a C fs h1 h2 h3 h4 => ?_⟩
    · cases i with
      | zero => cases hi
      | succ i => exact z.at_ i S hi
    · cases i with
      | zero => cases hi
      | succ i => exact z.ow i o hi
    · cases i with
      | zero => cases hi
      | succ i => exact z.bo i o hi
    · cases i with
      | zero => cases h1
      | succ i => cases j with
        | zero => cases h2
        | succ j => exact z.sep i j o o' a (fun q => ne (by rw [q])) h1 h2 h3 h4
    · cases i with
      | zero => cases hi
      | succ i => exact z.ni i C fs hi
    · cases i with
      | zero => cases h1
      | succ i => cases j with
        | zero => cases h2
        | succ j =>
          obtain ⟨p', C', dx', fv', e', q'⟩ := h3
          exact z.sepn i j o a C fs h1 h2 ⟨p', C', dx', fv', e', q'⟩ h4
  have g : Grow F (era H p) F H := ⟨Same.refl F, era_sub, fun b o e => era_sub b o (sm b o e), fun _ _ n => n, fun t a vs e => t a vs (by rw [era_ne (fun z => by rw [z, hp] at e; cases e)]; exact e)⟩
  have hf : F p = none := by
    cases q : F p with
    | none => rfl
    | some u =>
      have := sm p u q
      rw [era_same] at this
      cases this
  exact s0.set_ow (i := 0) (p := p) g era_same hf hp ⟨rfl, dx, [], rfl, .nil⟩
theorem q_self {F0 H0 F H : Hp} {σ : L2.St} {δ : List Ent} {te : TE} {tz : TS} {D : Ends} {S : Slot} {i : Nat} {fs : List (Str × Slot)} {f : Str} {p C : Addr} (s : St F0 H0 F H σ δ) (hi : δ[i]? = some (.ow (selO p C fs))) (h : EvE te δ (.v S)) (kf : FldOk K C f)
    (hn : fs.lookup f = none) (hz : fs.length < 900) (k : ∀ σ' F' H', St F0 H0 F' H' σ' (δ.set i (.ow (selO p C (putS f S fs)))) → tz D σ' H') : tSeq (sFld K (tVar i) te f) tz D σ H := by
  refine h F0 H0 F H σ s _ fun v F1 H1 g1 a1 => ?_
  have s1 := s.grow g1
  obtain ⟨p', ho, e, hp, rfl, dx, fv, rfl, pf⟩ := s1.loc hi
  refine ⟨.ref p', e, p', C, dx, fv, rfl, hp, kf.c, kf.n, by rw [pf.length]; omega, ?_⟩
  exact k _ F1 _ (s1.mut hi e ⟨rfl, dx, _, rfl, PairF.put pf a1 hn⟩)
theorem init_ok {qual : Str} {st : Stmt} {f C : Addr} {fd : FuncData} {N ps : List Str} {k : Nat} {R : RelI} (F : Fun K "__init__" qual st f fd) (S : FnScope N ps (defScope st)) (len : ∀ es r, R es r → es.length + 1 = ps.length)
    (hbody : ∀ (cdv : Value) (A : Around) (outer : List Env) (s : Shared) (H : Hp) (E : XK), Room k (A.deeper (envOfC qual (defScope st) s.heap.objs.size f cdv)) →
      ∃ t, PSs (cxOf CX P w K mg base N qual (defScope st) f cdv A outer s H E) (defBody st) t ∧
        ∀ (p : Addr) (es : List Ent) (r : Except Addr (List (Str × Slot))) (F H0 H : Hp) (σ : L2.St) (D : Ends), R es r → St F H0 F H σ ((.ow (selO p C []) :: es) ++ List.replicate (N.length - (es.length + 1)) .un) →
          (match r with
            | .ok fs => ∀ σ' F' H' δ, St F H0 F' H' σ' δ → δ[0]? = some (.ow (selO p C fs)) → D.nx σ' H'
            | .error c => ∀ F' H', Grow F H0 F' H' → E (.ref c) none H') → t D σ H) :
    FnOk P w K mg base CX (k + 1) f fd ps (SpInit C R) := by
  refine okAny F S (fun vs H Q E ⟨p, dx, ws, F, es, r, e, _, _, _, ha, hR, _⟩ => by rw [e, List.length_cons, ha.length]; exact len es r hR) (fun cdv A outer s H vs Q E hr ⟨p, dx, ws, F, es, r, e, hp, sm, tt, ha, hR, k⟩ => ?_)
  obtain ⟨t, ht, hq⟩ := hbody cdv A outer s H E hr
  refine ⟨t, ht, ?_⟩
  subst e
  have hl := ha.length
  refine hq p es r F (era H p) H _ _ hR ?_ ?_
  · unfold L2.start
    rw [List.length_cons, hl]
    exact St.self sm tt ha hp
  · have er : ∀ {F' H' : Hp}, Grow F (era H p) F' H' → F' p = none → Grow F (era H p) F' (era H' p) := fun {F' H'} g n => by
      refine ⟨g.ff, fun b o e => ?_, fun b o e => ?_, g.nw, fun t a vs e => g.tt t a vs (era_sub _ _ e)⟩
      · have hb : b ≠ p := fun z => by
          rw [z, era_same] at e
          cases e
        rw [era_ne hb]
        exact g.hh b o e
      · have hb : b ≠ p := ne_of_none e n
        rw [era_ne hb]
        exact g.fh b o e
    cases r with
    | ok fs =>
      intro σ' F' H' δ s' hδ
      obtain ⟨p', ho, _, _, hf, hp', rfl, dx', fv, rfl, pf⟩ := s'.ow 0 _ hδ
      exact k F' H' dx' fv (er s'.g hf) hp' hf pf
    | error c =>
      exact k
end
end J

namespace J
open PySem PySem.Spec L2 PyProof.Rows
/-! ### the built-in names -/
theorem bt_len : bootBuiltins "len" = some (.builtin "len") := by decide +kernel
theorem bt_isinstance : bootBuiltins "isinstance" = some (.builtin "isinstance") := by decide +kernel
theorem bt_sum : bootBuiltins "sum" = some (.builtin "sum") := by decide +kernel
theorem bt_any : bootBuiltins "any" = some (.builtin "any") := by decide +kernel
theorem bt_all : bootBuiltins "all" = some (.builtin "all") := by decide +kernel
theorem bt_sorted : bootBuiltins "sorted" = some (.builtin "sorted") := by decide +kernel
theorem bt_max : bootBuiltins "max" = some (.builtin "max") := by decide +kernel
theorem bt_min : bootBuiltins "min" = some (.builtin "min") := by decide +kernel
theorem bt_list : bootBuiltins "list" = some (.type "list") := by decide +kernel
theorem bt_tuple : bootBuiltins "tuple" = some (.type "tuple") := by decide +kernel
theorem bt_str : bootBuiltins "str" = some (.type "str") := by decide +kernel
theorem bt_int : bootBuiltins "int" = some (.type "int") := by decide +kernel
theorem bt_bool : bootBuiltins "bool" = some (.type "bool") := by decide +kernel
theorem bt_dict : bootBuiltins "dict" = some (.type "dict") := by decide +kernel
theorem bt_ValueError : bootBuiltins "ValueError" = some (.type "ValueError") := by decide +kernel
/-! ### a def, a method, a class of the text -/
structure DefT (K : PySem.W.Frag) (mg : Str → Option Value) (x : Str) (st : Stmt) (ps : List Str) : Prop where
  ex : ∃ (f : Addr) (fd : FuncData), Fun K x x st f fd ∧ mg x = some (.ref f) ∧ Binds K fd ps []
structure MetT (K : PySem.W.Frag) (C : Addr) (m qual : Str) (st : Stmt) (ps : List Str) : Prop where
  ex : ∃ (f : Addr) (fd : FuncData), Fun K m qual st f fd ∧ Cls K C ∧ Meth K C m f ∧ Binds K fd ps []
structure IniT (K : PySem.W.Frag) (mg : Str → Option Value) (x : Str) (C : Addr) (qual : Str) (st : Stmt) (ps : List Str) : Prop where
  ex : ∃ (f : Addr) (fd : FuncData), Fun K "__init__" qual st f fd ∧ Mk K C f ∧ mg x = some (.ref C) ∧ Binds K fd ps []
section
variable {P : Program} {w : World} {K : PySem.W.Frag} {mg : Str → Option Value} {base : Heap} {N : List Str} {q : Str} {sc : Scope} {f : Addr} {cd : Value} {A : Around} {outer : List Env} {s : Shared} {H : Hp} {E : XK}
theorem cx_K : (cxOf (CXJ P w) P w K mg base N q sc f cd A outer s H E).K = K := rfl
theorem tk_of : L2N.Takes (cxOf (CXJ P w) P w K mg base N q sc f cd A outer s H E) (fun c d _ H => E c d H) := L2N.takes_of rfl rfl rfl rfl
theorem px_of : Passes (CXJ P w) (cxOf (CXJ P w) P w K mg base N q sc f cd A outer s H E) E := L2N.passes_call tk_of fun _ _ _ _ h => h
end
theorem Room.u64 {A : Around} {k : Nat} (r : Room k A) : A.units + 64 < cLine := r.units
section
variable {X : Cx}
theorem jo_mul : OpR X (binaryOp .Mult) (rI CMul fun i j => .int (i * j)) := op_mul
theorem jc_list : CallR X (.type "list") (fun xs H Q => ∃ p ys, xs = [.ref p] ∧ (SqL X.K H p ys ∨ SqT X.K H p ys) ∧ ∀ l, H l = none → Q (.ref l) (upd H l (.lst ys))) := call_list_of
end
/-! ### types -/
theorem kt_ii {K : PySem.W.Frag} : PySem.W.kitOne K (.type "int") (.type "int") = some true := kit_ty (by decide +kernel)
theorem kt_ib {K : PySem.W.Frag} : PySem.W.kitOne K (.type "int") (.type "bool") = some false := kit_ty (by decide +kernel)
theorem kt_bb {K : PySem.W.Frag} : PySem.W.kitOne K (.type "bool") (.type "bool") = some true := kit_ty (by decide +kernel)
theorem kt_bi {K : PySem.W.Frag} : PySem.W.kitOne K (.type "bool") (.type "int") = some true := kit_ty (by decide +kernel)
theorem kt_ll {K : PySem.W.Frag} : PySem.W.kitOne K (.type "list") (.type "list") = some true := kit_ty (by decide +kernel)
theorem kt_tt {K : PySem.W.Frag} : PySem.W.kitOne K (.type "tuple") (.type "tuple") = some true := kit_ty (by decide +kernel)
theorem kt_ss {K : PySem.W.Frag} : PySem.W.kitOne K (.type "str") (.type "str") = some true := kit_ty (by decide +kernel)
/-! ### the same rules with the written part by name -/
section
variable {X : Cx} {K : PySem.W.Frag} {a b o e : Expr} {es : List Expr} {ta tb te to : TE} {t : TA} {pos apos : Pos} {k : Nat} {f : Str}
theorem ko_add (hK : X.K = K) : OpR X (binaryOp .Add) (rAddJ K) := by subst hK; exact jo_add
theorem ko_eq (hK : X.K = K) (hr : Room k X.A) : OpR X (compareOp .Eq) (rEqJ K) := by subst hK; exact jo_eq (Room.u64 hr)
theorem ko_ne (hK : X.K = K) (hr : Room k X.A) : OpR X (compareOp .NotEq) (rNeJ K) := by subst hK; exact jo_ne (Room.u64 hr)
theorem ko_sl (hK : X.K = K) : SlR X (rSlJ K) := by subst hK; exact jo_sl
theorem kc_len (hK : X.K = K) : CallR X (.builtin "len") (rLenJ K) := by subst hK; exact jc_len
theorem kc_isi (hK : X.K = K) : CallR X (.builtin "isinstance") (rIsi K) := by subst hK; exact call_isi
def rLstJ (K : PySem.W.Frag) : List V → Hp → VK → Prop := fun xs H Q => ∃ p ys, xs = [.ref p] ∧ (SqL K H p ys ∨ SqT K H p ys) ∧ ∀ l, H l = none → Q (.ref l) (upd H l (.lst ys))
def rTupJ (K : PySem.W.Frag) : List V → Hp → VK → Prop := fun xs H Q => ∃ p ys, xs = [.ref p] ∧ ((SqL K H p ys ∧ ∀ l, H l = none → Q (.ref l) (upd H l (.tup ys))) ∨ (SqT K H p ys ∧ Q (.ref p) H))
theorem kc_list (hK : X.K = K) : CallR X (.type "list") (rLstJ K) := by subst hK; exact call_list_of
theorem kc_tuple (hK : X.K = K) : CallR X (.type "tuple") (rTupJ K) := by subst hK; exact call_tuple_of
theorem kc_sum (hK : X.K = K) (hc : X.calm = true) : CallR X (.builtin "sum") (rSum K) := by subst hK; exact cr_sum hc
theorem kc_any (hK : X.K = K) (hc : X.calm = true) : CallR X (.builtin "any") (rAny K) := by subst hK; exact cr_any hc
theorem kc_all (hK : X.K = K) (hc : X.calm = true) : CallR X (.builtin "all") (rAll K) := by subst hK; exact cr_all hc
theorem kc_max (hK : X.K = K) (hc : X.calm = true) : CallR X (.builtin "max") (rMax K) := by subst hK; exact cr_max hc
theorem kc_min (hK : X.K = K) (hc : X.calm = true) : CallR X (.builtin "min") (rMin K) := by subst hK; exact cr_min hc
def rMax2 : List V → Hp → VK → Prop := fun xs H Q => ∃ i j : Int, xs = [.int i, .int j] ∧ Q (.int (if j > i then j else i)) H
def rMin2 : List V → Hp → VK → Prop := fun xs H Q => ∃ i j : Int, xs = [.int i, .int j] ∧ Q (.int (if j < i then j else i)) H
theorem kc_max2 (hc : X.calm = true) : CallR X (.builtin "max") rMax2 := call_max2 hc
theorem kc_min2 (hc : X.calm = true) : CallR X (.builtin "min") rMin2 := call_min2 hc
theorem ke_fld (hK : X.K = K) (he : PE X e te) (hb : attributeBase e f X.env (eval e X.env) = eval e X.env) : PE X (.Attribute e f pos) (tFld K te f) := by subst hK; exact pe_fld he hb
theorem ke_ix (hK : X.K = K) (hr : Room k X.A) (ha : PE X a ta) (hb : PE X b tb) (hs : PlainIx b) (hs2 : NoSl b) : PE X (.Subscript a b pos) (tIx K ta tb) := by subst hK; exact pe_ixJ hr ha hb hs hs2
theorem ke_in (hK : X.K = K) (hr : Room k X.A) (ha : PE X a ta) (hb : PE X b tb) (hm : behindInMarks .In b = false) : PE X (.Compare a [.In] [b] pos) (tInJ K ta tb) := by subst hK; exact pe_inJ hr ha hb hm
theorem ke_ni (hK : X.K = K) (hr : Room k X.A) (ha : PE X a ta) (hb : PE X b tb) (hm : behindInMarks .NotIn b = false) : PE X (.Compare a [.NotIn] [b] pos) (tNiJ K ta tb) := by subst hK; exact pe_niJ hr ha hb hm
theorem kt_in (hK : X.K = K) (hr : Room k X.A) (ha : PE X a ta) (hb : PE X b tb) (hm : behindInMarks .In b = false) : PT X (.Compare a [.In] [b] pos) (tTest (tInJ K ta tb)) := by subst hK; exact pt_inJ hr ha hb hm
theorem kt_ni (hK : X.K = K) (hr : Room k X.A) (ha : PE X a ta) (hb : PE X b tb) (hm : behindInMarks .NotIn b = false) : PT X (.Compare a [.NotIn] [b] pos) (tTest (tNiJ K ta tb)) := by subst hK; exact pt_niJ hr ha hb hm
theorem ki_any {tg l : Expr} {tl : TE} (hK : X.K = K) (h : PE X l tl) : PI X tg l (iAny K tl) := by subst hK; exact pi_any h
end
end J

namespace J
open PySem PySem.Spec L2 PyProof.Rows
section
variable {K : PySem.W.Frag} {te ta tb : TE} {tl th : TO} {tr : TA} {δ es : List Ent} {e e1 e2 : Ent} {o : Own} {S T : Slot} {ss ts : List Slot} {n m : Nat} {i j : Int}
theorem kb_max2 : CbE rMax2 [.v (iS i), .v (iS j)] (.v (iS (max i j))) := cb_max2
theorem kb_min2 : CbE rMin2 [.v (iS i), .v (iS j)] (.v (iS (min i j))) := cb_min2
theorem kb_tuple (h : IsR e1 (lstO ss)) : CbE (rTupJ K) [e1] (.v (tupS ss)) := cb_tuple h
theorem kb_list (h : IsR e1 (lstO ss)) : CbO (rLstJ K) [e1] (lstO ss) := co_list h
theorem kb_listT (h : IsR e1 (tupO ss)) : CbO (rLstJ K) [e1] (lstO ss) := co_listT h
/-! ### places, by a number that is not negative -/
theorem nat_of {i : Int} (h : 0 ≤ i) : ∃ n : Nat, i = (n : Int) := ⟨i.toNat, by omega⟩
theorem jx_l {α : Type} {f : α → Slot} {xs : List α} {a : α} (h : IsR e1 (lstO (xs.map f))) (h0 : 0 ≤ i) (hx : xs[i.toNat]? = some a) : OpE (rIx K) e1 (.v (iS i)) (.v (f a)) := by
  obtain ⟨n, rfl⟩ := nat_of h0
  exact jv_ixl h (by rw [List.getElem?_map, show xs[n]? = some a from hx]; rfl)
theorem jx_t {α : Type} {f : α → Slot} {xs : List α} {a : α} (h : IsR e1 (tupO (xs.map f))) (h0 : 0 ≤ i) (hx : xs[i.toNat]? = some a) : OpE (rIx K) e1 (.v (iS i)) (.v (f a)) := by
  obtain ⟨n, rfl⟩ := nat_of h0
  exact jv_ixt h (by rw [List.getElem?_map, show xs[n]? = some a from hx]; rfl)
theorem jx_ls (h : IsR e1 (lstO ss)) (h0 : 0 ≤ i) (hx : ss[i.toNat]? = some S) : OpE (rIx K) e1 (.v (iS i)) (.v S) := by
  obtain ⟨n, rfl⟩ := nat_of h0
  exact jv_ixl h hx
theorem jx_ts (h : IsR e1 (tupO ss)) (h0 : 0 ≤ i) (hx : ss[i.toNat]? = some S) : OpE (rIx K) e1 (.v (iS i)) (.v S) := by
  obtain ⟨n, rfl⟩ := nat_of h0
  exact jv_ixt h hx
theorem len_map {α : Type} {f : α → Slot} {xs : List α} : (xs.map f).length = xs.length := List.length_map ..
theorem cb_lenM {α : Type} {f : α → Slot} {xs : List α} (h : IsR e1 (lstO (xs.map f))) : CbE (rLenJ K) [e1] (.v (iS (xs.length : Int))) := by
  have z := cb_len (K := K) h
  rw [List.length_map] at z
  exact z
theorem cb_lentM {α : Type} {f : α → Slot} {xs : List α} (h : IsR e1 (tupO (xs.map f))) : CbE (rLenJ K) [e1] (.v (iS (xs.length : Int))) := by
  have z := cb_lent (K := K) h
  rw [List.length_map] at z
  exact z
theorem lk0 {f : Str} {a : Slot} {r : List (Str × Slot)} : ((f, a) :: r).lookup f = some a := List.lookup_cons_self
theorem lk1 {f g : Str} {a : Slot} {r : List (Str × Slot)} {x : Option Slot} (h : (g == f) = false) (hr : r.lookup g = x) : ((f, a) :: r).lookup g = x := by
  rw [List.lookup_cons, h]
  exact hr
theorem lkn {g : Str} : ([] : List (Str × Slot)).lookup g = none := rfl
/-- a written tuple -/
def EvV (ta : TA) (δ : List Ent) (ss : List Slot) : Prop := EvAs ta δ (ss.map .v)
theorem ea_nilV : EvV tNil δ [] := ea_nil
theorem ea_consV (h : EvE te δ (.v S)) (hr : EvV tr δ ss) : EvV (tCons te tr) δ (S :: ss) := ea_cons h hr
theorem ev_tupN {ta : TA} (h : EvV ta δ ss) (hl : ss.length ≤ 1000) : EvE (tTup ta) δ (.v (tupS ss)) := ev_tup h (Nat.le_trans hl (by decide))
theorem eo_lstN {ta : TA} (h : EvV ta δ ss) (hl : ss.length ≤ 1000) : EvO (tLst ta) δ (lstO ss) := eo_lst h (Nat.le_trans hl (by decide))
theorem cb_isl (h : IsR e1 (lstO ss)) : CbE (rIsi K) [e1, .v (kS (.ty "list"))] (.v (bS true)) := cb_isi (ty_lst h) (.ty _) kt_ll
theorem cb_ist (h : IsR e1 (tupO ss)) : CbE (rIsi K) [e1, .v (kS (.ty "tuple"))] (.v (bS true)) := cb_isi (ty_tup h) (.ty _) kt_tt
theorem jv_sub : OpE (rI0 fun i j => .int (i - j)) (.v (iS i)) (.v (iS j)) (.v (iS (i - j))) := op_I0
theorem jv_le : OpE (rI0 fun i j => .bl (decide (i ≤ j))) (.v (iS i)) (.v (iS j)) (.v (bS (decide (i ≤ j)))) := op_I0

/-! ### more: list(range(n)), one of several readings, a list handed on -/
theorem eo_listRg (h : EvE te δ (.v (iS i))) (hn : i.toNat = n) (hb : -100000 ≤ i ∧ i ≤ 100000) : EvO (tLstRg (tRg1 te)) δ (lstO ((List.range n).map fun k : Nat => iS (k : Int))) := fun F0 H0 F H σ s Q q =>
  h F0 H0 F H σ s _ fun v F1 H1 g1 a1 => by
    refine ⟨i, a1, ⟨by omega, by omega, by omega, by omega, ?_⟩, fun p hp => ?_⟩
    · rw [Int.sub_zero]
      exact Nat.le_trans (by omega) (by decide : 100000 ≤ 2 ^ 24)
    · refine q p _ F1 _ (g1.trans (Grow.newH g1.fh hp)) (g1.hh.free hp) (g1.fh.free hp) upd_same ⟨_, rfl, ?_⟩
      unfold rgV
      rw [Int.sub_zero, hn]
      have z := PairS.ofk (F := F1) (fun k : Nat => V.int (0 + (k : Int))) (List.range n)
      have e : (fun x : Nat => kS (V.int (0 + (x : Int)))) = fun k : Nat => iS (k : Int) := by
        funext k
        rw [Int.zero_add]
      rw [e] at z
      exact z
theorem ev_orl {t u : TE} (h : EvE t δ e) : EvE (fun σ H Q => t σ H Q ∨ u σ H Q) δ e := fun F0 H0 F H σ s Q q => .inl (h F0 H0 F H σ s Q q)
theorem ev_orr {t u : TE} (h : EvE u δ e) : EvE (fun σ H Q => t σ H Q ∨ u σ H Q) δ e := fun F0 H0 F H σ s Q q => .inr (h F0 H0 F H σ s Q q)
theorem eo_orl {t u : TE} (h : EvO t δ o) : EvO (fun σ H Q => t σ H Q ∨ u σ H Q) δ o := fun F0 H0 F H σ s Q q => .inl (h F0 H0 F H σ s Q q)
theorem eo_orr {t u : TE} (h : EvO u δ o) : EvO (fun σ H Q => t σ H Q ∨ u σ H Q) δ o := fun F0 H0 F H σ s Q q => .inr (h F0 H0 F H σ s Q q)
theorem q_mv {F0 H0 F H : Hp} {σ : L2.St} {tz : TS} {D : Ends} {i j : Nat} (s : St F0 H0 F H σ δ) (hj : δ[j]? = some (.ow o)) (k : ∀ σ' F' H', St F0 H0 F' H' σ' ((δ.set j .un).set i (.ow o)) → tz D σ' H') : tSeq (tAsg (tVar j) (gName i)) tz D σ H := by
  obtain ⟨p, ho, e, h0, hf, hp, z⟩ := s.ow j o hj
  refine ⟨.ref p, e, ?_⟩
  have hj' : j < δ.length := (List.getElem?_eq_some_iff.mp hj).1
  refine k _ F H ?_
  have s1 : St F0 H0 F H σ (δ.set j .un) := by
    have x := s.set_un (i := j) (σ[j]?.join)
    have e2 : σ.set j (σ[j]?.join) = σ := by
      rw [e]
      obtain ⟨hlt, e3⟩ := List.getElem?_eq_some_iff.mp e
      show σ.set j (some (V.ref p)) = σ
      rw [← e3]
      exact List.set_getElem_self hlt
    rw [e2] at x
    exact x
  refine ⟨s1.g, by rw [List.length_set, List.length_set]; exact s1.len, fun m S' h => ?_, fun m o' h => ?_, fun m o' h => ?_, fun m l o1 o2 a ne h1 h2 h3 h4 => ?_, s1.tt, fun m C fs h => ?_, fun m l o1 a C fs h1 h2 h3 h4 => ?_⟩
  · rcases get_set h with ⟨rfl, e', hl⟩ | ⟨ne, h⟩
    · cases e'
    · obtain ⟨w, e', q⟩ := s1.at_ m S' h
      exact ⟨w, by rw [List.getElem?_set_ne (fun z => ne z.symm)]; exact e', q⟩
  · rcases get_set h with ⟨rfl, e', hl⟩ | ⟨ne, h⟩
    · cases e'
      exact ⟨p, ho, List.getElem?_set_self (by rw [s1.len]; exact hl), h0, hf, hp, z⟩
    · obtain ⟨w, ho', e', q⟩ := s1.ow m o' h
      exact ⟨w, ho', by rw [List.getElem?_set_ne (fun z => ne z.symm)]; exact e', q⟩
  · rcases get_set h with ⟨rfl, e', hl⟩ | ⟨ne, h⟩
    · cases e'
    · obtain ⟨w, ho', e', q⟩ := s1.bo m o' h
      exact ⟨w, ho', by rw [List.getElem?_set_ne (fun z => ne z.symm)]; exact e', q⟩
  · have away : ∀ {l : Nat} {o3 : Own}, (δ.set j Ent.un)[l]? = some (.ow o3) → σ[l]? = some (some (V.ref p)) → False := fun {l o3} h5 h6 => by
      rcases get_set h5 with ⟨_, e', _⟩ | ⟨nl, h5⟩
      · cases e'
      · exact s.sep l j o3 o p nl h5 hj h6 e
    rcases get_set h1 with ⟨z1, e1', l1⟩ | ⟨n1, g1⟩
    · rcases get_set h2 with ⟨z2, e2', l2⟩ | ⟨n2, g2⟩
      · exact ne (z1.trans z2.symm)
      · rw [z1, List.getElem?_set_self (by rw [s1.len]; exact l1)] at h3
        rw [List.getElem?_set_ne (fun z => n2 z.symm)] at h4
        cases h3
        exact away g2 h4
    · rw [List.getElem?_set_ne (fun z => n1 z.symm)] at h3
      rcases get_set h2 with ⟨z2, e2', l2⟩ | ⟨n2, g2⟩
      · rw [z2, List.getElem?_set_self (by rw [s1.len]; exact l2)] at h4
        cases h4
        exact away g1 h3
      · rw [List.getElem?_set_ne (fun z => n2 z.symm)] at h4
        exact s1.sep m l o1 o2 a ne g1 g2 h3 h4
  · rcases get_set h with ⟨rfl, e', hl⟩ | ⟨ne, h⟩
    · cases e'
    · obtain ⟨w, dx, fv, e', q⟩ := s1.ni m C fs h
      exact ⟨w, dx, fv, by rw [List.getElem?_set_ne (fun z => ne z.symm)]; exact e', q⟩
  · rcases get_set h1 with ⟨_, e', hl⟩ | ⟨ne1, g1⟩
    · cases e'
    · have g3 := h3.unset fun z => ne1 z.symm
      rcases get_set h2 with ⟨z2, e', hl⟩ | ⟨ne2, g2⟩
      · rw [z2, List.getElem?_set_self (by rw [s1.len]; exact hl)] at h4
        have ea : p = a := by cases h4; rfl
        rw [← ea] at g3
        rcases get_set g1 with ⟨_, e'', _⟩ | ⟨_, g1⟩
        · cases e''
        · exact s.sepn m j o p C fs g1 hj g3 e
      · rw [List.getElem?_set_ne (fun z => ne2 z.symm)] at h4
        exact s1.sepn m l o1 a C fs g1 g2 g3 h4

/-! ### comprehensions without a test -/
theorem filt1 {α : Type} : ∀ l : List α, l.filter (fun _ => true) = l
  | [] => rfl
  | a :: l => by rw [List.filter_cons, if_pos rfl, filt1 l]
theorem eo_lcM {α : Type} {j : Nat} (ex : α → Slot) (xs : List α) (f : α → Slot) (h : EvE ta δ e1) (hr : IsR e1 (lstO (xs.map ex))) (hz : xs.length ≤ 40000) (he : ∀ x ∈ xs, EvE te (δ.set j (.v (ex x))) (.v (f x))) :
    EvO (tLc (iAny K ta) (gName j) tYes te [j]) δ (lstO (xs.map f)) := by
  have z := eo_lcL (K := K) (j := j) ex xs (fun _ => true) f h hr hz (fun _ _ => et_yes) (fun x hx _ => he x hx)
  rw [filt1] at z
  exact z
theorem eo_lcRM {j : Nat} {n : Nat} {z : Int} {tl : TA} (f : Nat → Slot) (h : EvAs tl δ [.v (iS z)]) (hz : z.toNat = n) (hn : z ≤ 40000 ∧ -100000 ≤ z) (he : ∀ m, m < n → EvE te (δ.set j (.v (iS (m : Int)))) (.v (f m))) :
    EvO (tLc (iRng1 tl) (gName j) tYes te [j]) δ (lstO ((List.range n).map f)) := by
  have z := eo_lcR (j := j) (fun _ => true) f h hz hn (fun _ _ => et_yes) (fun x hx _ => he x hx)
  rw [filt1] at z
  exact z
end
end J

namespace J
open PySem PySem.Spec L2 PyProof.Rows
/-! ### data -/
structure DS (K : PySem.W.Frag) (n : Nat) (S : Slot) (d : PyData) : Prop where
  to : ∀ (F H : Hp) (v : V), Same F H → S.P F v → Dp K H v d
  cl : d.canLay0 = true
  dp : d.depth ≤ n
structure DO (K : PySem.W.Frag) (n : Nat) (o : Own) (d : PyData) : Prop where
  to : ∀ (F H : Hp) (p : Addr) (ho : HO), Same F H → H p = some ho → o.P F p ho → Dp K H (.ref p) d
  cl : d.canLay0 = true
  dp : d.depth ≤ n
section
variable {K : PySem.W.Frag} {n m : Nat} {S : Slot} {o : Own} {d : PyData}
theorem DO.ds (h : DO K n o d) : DS K n (refS o) d := ⟨fun F H v s ⟨p, ho, e, hp, z⟩ => by subst e; exact h.to F H p ho s (s p _ hp) z, h.cl, h.dp⟩
theorem ds_int {i : Int} : DS K n (iS i) (.int i) := ⟨fun F H v s e => by cases e; exact .int i, rfl, Nat.zero_le _⟩
theorem ds_bl {i : Bool} : DS K n (bS i) (.bool i) := ⟨fun F H v s e => by cases e; exact .bl i, rfl, Nat.zero_le _⟩
theorem ds_non : DS K n nS .none := ⟨fun F H v s e => by cases e; exact .non, rfl, Nat.zero_le _⟩
theorem ds_str {x : Str} (h : PyData.canLay0 (.str x) = true) : DS K n (sS x) (.str x) := ⟨fun F H v s e => by cases e; exact .str x, h, Nat.zero_le _⟩
structure DAll (K : PySem.W.Frag) (n : Nat) (ss : List Slot) (ds : List PyData) : Prop where
  to : ∀ (F H : Hp) (vs : List V), Same F H → PairS F vs ss → DpAll K H vs ds
  cl : PyData.canLayAll0 ds = true
  dp : PyData.depthAll ds ≤ n
theorem da_nil : DAll K n [] [] := ⟨fun F H vs s h => by cases h; exact .nil, rfl, Nat.zero_le _⟩
theorem da_cons {ss : List Slot} {ds : List PyData} (h : DS K n S d) (t : DAll K n ss ds) : DAll K n (S :: ss) (d :: ds) := by
  refine ⟨fun F H vs s h' => ?_, ?_, ?_⟩
  · cases h' with
    | cons p q => exact .cons (h.to F H _ s p) (t.to F H _ s q)
  · simp only [PyData.canLayAll0, Bool.and_eq_true]
    exact ⟨h.cl, t.cl⟩
  · simp only [PyData.depthAll]
    exact Nat.max_le.mpr ⟨h.dp, t.dp⟩
theorem da_map {α : Type} {f : α → Slot} {g : α → PyData} : ∀ {xs : List α}, (∀ x ∈ xs, DS K n (f x) (g x)) → DAll K n (xs.map f) (xs.map g)
  | [], _ => da_nil
  | x :: xs, h => da_cons (h x List.mem_cons_self) (da_map fun y hy => h y (List.mem_cons_of_mem _ hy))
theorem do_lst {ss : List Slot} {ds : List PyData} (h : DAll K n ss ds) : DO K (n + 1) (lstO ss) (.list ds) :=
  ⟨fun F H p ho s hp ⟨vs, e, pv⟩ => by subst e; exact .lst (SqL.of hp) (h.to F H vs s pv), by simp only [PyData.canLay0]; exact h.cl, by simp only [PyData.depth]; exact Nat.succ_le_succ h.dp⟩
theorem do_tup {ss : List Slot} {ds : List PyData} (h : DAll K n ss ds) : DO K (n + 1) (tupO ss) (.tuple ds) :=
  ⟨fun F H p ho s hp ⟨vs, e, pv⟩ => by subst e; exact .tup (SqT.of hp) (h.to F H vs s pv), by simp only [PyData.canLay0]; exact h.cl, by simp only [PyData.depth]; exact Nat.succ_le_succ h.dp⟩
theorem DS.shaped (h : DS K n S d) (hn : n ≤ 64) : SeqAt.shaped d = true := by
  unfold SeqAt.shaped
  rw [h.cl, decide_eq_true (Nat.le_trans h.dp hn)]
  rfl
theorem DS.dat (h : DS K n S d) (hn : n ≤ 64) : Dat K (.v S) d := ⟨fun F H x s a => h.to F H x s a, h.shaped hn⟩
theorem DO.dat {e : Ent} (h : DO K n o d) (hr : IsR e o) (hn : n ≤ 64) : Dat K e d := ⟨fun F H x s a => by
  obtain ⟨p, ho, rfl, hp, z⟩ := hr.get a s
  exact h.to F H p ho s hp z, h.ds.shaped hn⟩
theorem eqv_same (h : SeqAt.shaped d = true) : PyData.eqv d d = true := SeqAt.eqv_refl d (SeqAt.canLay_of_shaped h)
theorem jv_eqSame {e1 e2 : Ent} (h1 : Dat K e1 d) (h2 : Dat K e2 d) : OpE (rEqJ K) e1 e2 (.v (bS true)) := by
  have z := jv_eqD h1 h2
  rw [eqv_same h1.sh] at z
  exact z
theorem jv_neSame {e1 e2 : Ent} (h1 : Dat K e1 d) (h2 : Dat K e2 d) : OpE (rNeJ K) e1 e2 (.v (bS false)) := by
  have z := jv_neD h1 h2
  rw [eqv_same h1.sh] at z
  exact z
theorem eqvAll_ints : ∀ xs ys : List Int, PyData.eqvAll (xs.map .int) (ys.map .int) = decide (xs = ys)
  | [], [] => rfl
  | [], _ :: _ => rfl
  | _ :: _, [] => rfl
  | x :: xs, y :: ys => by
    simp only [List.map_cons, PyData.eqvAll, PyData.eqv, eqvAll_ints xs ys]
    by_cases h : x = y <;> by_cases h' : xs = ys <;> simp [h, h']
theorem ds_ints {xs : List Int} : DAll K n (xs.map iS) (xs.map .int) := da_map fun _ _ => ds_int
theorem dat_il {e : Ent} {xs : List Int} (h : IsR e (lstO (xs.map iS))) : Dat K e (.list (xs.map .int)) := (do_lst (n := 0) ds_ints).dat h (by decide)
theorem dat_it {e : Ent} {xs : List Int} (h : IsR e (tupO (xs.map iS))) : Dat K e (.tuple (xs.map .int)) := (do_tup (n := 0) ds_ints).dat h (by decide)
theorem dat_itl {e : Ent} {xs : List (List Int)} (h : IsR e (lstO (xs.map fun x => tupS (x.map iS)))) : Dat K e (.list (xs.map fun x => .tuple (x.map .int))) :=
  (do_lst (n := 1) (da_map (f := fun x : List Int => tupS (x.map iS)) (g := fun x : List Int => .tuple (x.map .int)) fun x _ => (do_tup (n := 0) ds_ints).ds)).dat h (by decide)
theorem jv_eqt {e1 e2 : Ent} {xs ys : List Int} (h1 : IsR e1 (tupO (xs.map iS))) (h2 : IsR e2 (tupO (ys.map iS))) : OpE (rEqJ K) e1 e2 (.v (bS (decide (xs = ys)))) := by
  have z := jv_eqD (dat_it (K := K) h1) (dat_it (K := K) h2)
  simp only [PyData.eqv] at z
  rw [eqvAll_ints] at z
  exact z
end

/-! ### texts -/
section
variable {K : PySem.W.Frag} {te ta tb to : TE} {tr : TA} {δ es : List Ent} {e e1 e2 : Ent} {o : Own} {S T : Slot} {ss ts : List Slot} {n m : Nat} {i j : Int}
def strI (i : Int) : Str := Str.ofString (toString i)
def rStr : List V → Hp → VK → Prop := fun xs H Q => ∃ i : Int, xs = [.int i] ∧ i.natAbs.log2 < 1920 ∧ Q (.str (Str.ofString (toString i))) H
theorem kc_str {X : Cx} : CallR X (.type "str") rStr := call_str_int
theorem cb_str (h : i.natAbs.log2 < 1920) : CbE rStr [.v (iS i)] (.v (sS (strI i))) := fun F H xs s a Q q => by
  obtain ⟨x, rfl, a1⟩ := one a
  cases a1
  exact ⟨i, rfl, h, q _ F H (Grow.refl s) rfl⟩
def rIntS : List V → Hp → VK → Prop := fun xs H Q => ∃ (a : Str) (n : Int), xs = [.str a] ∧ PySem.intText? a = some n ∧ a.length ≤ 640 ∧ Q (.int n) H
theorem kc_int {X : Cx} : CallR X (.type "int") rIntS := call_int_str
theorem cb_int {a : Str} (h : PySem.intText? a = some i) (hl : a.length ≤ 640) : CbE rIntS [.v (sS a)] (.v (iS i)) := fun F H xs s b Q q => by
  obtain ⟨x, rfl, a1⟩ := one b
  cases a1
  exact ⟨a, i, rfl, h, hl, q _ F H (Grow.refl s) rfl⟩
/-- sep.join(ys) -/
def rJoin (K : PySem.W.Frag) : V → List V → Hp → VK → Prop := fun x xs H Q => ∃ a p, ∃ ys : List Str, x = .str a ∧ xs = [.ref p] ∧ (SqL K H p (ys.map V.str) ∨ SqT K H p (ys.map V.str)) ∧ (ys.map (·.length)).sum + ys.length * a.length ≤ 16777216 ∧ Q (.str (Txt.join a ys)) H
theorem ke_join {X : Cx} {o' e' : Expr} {apos pos : Pos} (hK : X.K = K) (ho : PE X o' to) (he : PE X e' te) (hs : starEach [e'] X.env = [(false, eval e' X.env)] := by rfl) (hbase : attributeBase o' "join" X.env (eval o' X.env) = eval o' X.env := by rfl) (hline : (apos.endLine == pos.line) = true := by rfl) :
    PE X (.Call (.Attribute o' "join" apos) [e'] [] pos) (tM1 (rJoin K) to te) := by subst hK; exact pe_join ho he hs hbase hline
theorem ev_join {a : Str} {ys : List Str} (h1 : EvE to δ (.v (sS a))) (h2 : EvE te δ e2) (hr : IsR e2 (lstO (ys.map sS))) (hb : (ys.map (·.length)).sum + ys.length * a.length ≤ 16777216) : EvE (tM1 (rJoin K) to te) δ (.v (sS (Txt.join a ys))) := fun F0 H0 F H σ s Q q =>
  h1 F0 H0 F H σ s _ fun x F1 H1 g1 a1 => ⟨⟨a, a1⟩, h2 F0 H0 F1 H1 σ (s.grow g1) _ fun y F2 H2 g2 a2 => by
    obtain ⟨p, ho, rfl, hp, vs, rfl, pv⟩ := hr.get a2 g2.fh
    refine ⟨a, p, ys, a1, rfl, .inl (SqL.of ?_), hb, q _ F2 H2 (g1.trans g2) rfl⟩
    rw [hp]
    congr 2
    exact PairS.kmap pv⟩
/-- a.split(sep) -/
def rSplit : V → List V → Hp → VK → Prop := fun x xs H Q => ∃ a b, x = .str a ∧ xs = [.str b] ∧ (b.length == 0) = false ∧ a.length + 2 ≤ sizeLine ∧ rNewStrs (Txt.split a b) H Q
theorem ke_split {X : Cx} {o' e' : Expr} {apos pos : Pos} (ho : PE X o' to) (he : PE X e' te) (hs : starEach [e'] X.env = [(false, eval e' X.env)] := by rfl) (hbase : attributeBase o' "split" X.env (eval o' X.env) = eval o' X.env := by rfl) (hline : (apos.endLine == pos.line) = true := by rfl) :
    PE X (.Call (.Attribute o' "split" apos) [e'] [] pos) (tM1 rSplit to te) := pe_split ho he hs hbase hline
theorem eo_split {a b : Str} (h1 : EvE to δ (.v (sS a))) (h2 : EvE te δ (.v (sS b))) (hb : (b.length == 0) = false) (ha : a.length ≤ 100000) : EvO (tM1 rSplit to te) δ (lstO ((Txt.split a b).map sS)) := fun F0 H0 F H σ s Q q =>
  h1 F0 H0 F H σ s _ fun x F1 H1 g1 a1 => ⟨⟨a, a1⟩, h2 F0 H0 F1 H1 σ (s.grow g1) _ fun y F2 H2 g2 a2 => by
    cases a1
    cases a2
    refine ⟨a, b, rfl, rfl, hb, Nat.le_trans (Nat.add_le_add_right ha 2) (by decide), fun p hp => ?_⟩
    have g := g1.trans g2
    exact q p _ F2 _ (g.trans (Grow.newH g.fh hp)) (g.hh.free hp) (g.fh.free hp) upd_same ⟨_, rfl, PairS.ofk V.str (Txt.split a b)⟩⟩

/-! ### the script -/
def scrS (K : PySem.W.Frag) (ns : List Int) : Slot := ⟨fun F v => ∃ a, v = .ref a ∧ SqL K F a (ns.map V.int), fun s ⟨a, e, h⟩ => ⟨a, e, s.seq h⟩⟩
def cell (ns : List Int) (k : Int) : Int := ns.getD k.toNat 0
theorem cb_lenScr {ns : List Int} : CbE (rLenJ K) [.v (scrS K ns)] (.v (iS (ns.length : Int))) := fun F H xs s a Q q => by
  obtain ⟨x, rfl, a1⟩ := one a
  obtain ⟨p, rfl, h⟩ := a1
  exact .inl ⟨p, _, rfl, .inl (s.seq h), by rw [List.length_map]; exact q _ F H (Grow.refl s) rfl⟩
theorem jx_scr {ns : List Int} (h0 : 0 ≤ i) (hi : i < ns.length) : OpE (rIx K) (.v (scrS K ns)) (.v (iS i)) (.v (iS (cell ns i))) := fun F H x y s a b Q q => by
  obtain ⟨p, rfl, h⟩ := a
  cases b
  obtain ⟨k, rfl⟩ := nat_of h0
  refine .inl ⟨p, _, (k : Int), .int (cell ns (k : Int)), rfl, rfl, s.seq h, atI_nat ?_, q _ F H (Grow.refl s) rfl⟩
  have hk : k < ns.length := by omega
  rw [List.getElem?_map, List.getElem?_eq_getElem hk]
  unfold cell
  rw [Int.toNat_natCast, List.getD_eq_getElem?_getD, List.getElem?_eq_getElem hk]
  rfl
end
end J

namespace J
open PySem PySem.Spec L2 PyProof.Rows
section
variable {K : PySem.W.Frag} {F0 H0 F H : Hp} {σ : L2.St} {δ : List Ent} {te tb ta : TE} {tz : TS} {D : Ends} {i j : Nat} {o o1 o2 : Own} {S T : Slot} {e e1 e2 : Ent} {ss ts : List Slot}
/-- a fresh list, emptied at once -/
theorem q_clearO (s : St F0 H0 F H σ δ) (h : EvO te δ (lstO ss)) (k : ∀ σ' F' H', St F0 H0 F' H' σ' δ → tz D σ' H') :
    tSeq (tDrop (tBM0 K "list" rClear te)) tz D σ H := by
  refine h F0 H0 F H σ s _ fun p ho F' H' g hn hf hp z => ?_
  obtain ⟨vs, rfl, pv⟩ := z
  refine .inl ⟨rfl, vs, SqL.of hp⟩ |> fun q => ⟨q, p, vs, rfl, rfl, hp, k _ F' _ (s.grow ⟨g.ff, fun b u e => ?_, same_updR g.fh hf, fun a ha hb => g.nw a ha hb, fun t => tt_upd (g.tt t) (by intro _ h; cases h)⟩)⟩
  rw [upd_ne (ne_of_none e hn)]
  exact g.hh b u e
theorem q_parO {S2 : Slot} {i1 i2 : Nat} {u : TE} {tr : TA} (s : St F0 H0 F H σ δ) (h : EvO u δ o) (h2 : EvAs tr δ [.v S2]) (k : ∀ σ' F' H', St F0 H0 F' H' σ' ((δ.set i1 (.ow o)).set i2 (.v S2)) → tz D σ' H') : tSeq (tPar i1 i2 (tCons u tr)) tz D σ H := by
  refine h F0 H0 F H σ s _ fun p ho F1 H1 g1 hn hf hp z => ?_
  refine h2 F0 H0 F1 H1 σ (s.grow g1) _ fun vs F2 H2 g2 a2 => ?_
  have hf2 : F2 p = none := g2.nw p (by rw [hp]; exact Option.some_ne_none _) hf
  cases a2 with
  | cons p2 t => cases t with
    | nil =>

      exact ⟨_, _, rfl, k _ F2 H2 ((s.set_ow (g1.trans g2) hn hf2 (g2.hh p _ hp) (o.mono g2.ff z)).set_v p2)⟩
/-- an if whose branches meet again -/
theorem q_ifJ {tt : TT} {tu tw : TS} {b : Bool} (I : List Ent → Prop) (s : St F0 H0 F H σ δ) (h : EvT tt δ b)
    (hd : ∀ δ' σ' F' H', I δ' → St F0 H0 F' H' σ' δ' → tz D σ' H')
    (h1 : (∀ δ' σ' F' H', I δ' → St F0 H0 F' H' σ' δ' → tz D σ' H') → b = true → ∀ σ' F' H', St F0 H0 F' H' σ' δ → tu { D with nx := tz D } σ' H')
    (h2 : (∀ δ' σ' F' H', I δ' → St F0 H0 F' H' σ' δ' → tz D σ' H') → b = false → ∀ σ' F' H', St F0 H0 F' H' σ' δ → tw { D with nx := tz D } σ' H') : tSeq (tIfS tt tu tw) tz D σ H := q_if s h (h1 hd) (h2 hd)
/-- less told of a slot -/
theorem EvE.sub (h : EvE te δ (.v S)) (k : ∀ F v, S.P F v → T.P F v) : EvE te δ (.v T) := fun F0 H0 F H σ s Q q => h F0 H0 F H σ s Q fun v F' H' g a => q v F' H' g (k _ _ a)
theorem EvE.subB (h : EvE te δ (.bo o1)) (k : ∀ F p ho, o1.P F p ho → o2.P F p ho) : EvE te δ (.bo o2) := fun F0 H0 F H σ s Q q => h F0 H0 F H σ s Q fun v F' H' g ⟨p, ho, e, hp, z⟩ => q v F' H' g ⟨p, ho, e, hp, k _ _ _ z⟩
/-! ### pinned slots -/
def pinS (v : V) (S : Slot) : Slot := ⟨fun F x => x = v ∧ S.P F x, fun s h => ⟨h.1, S.mono s h.2⟩⟩
theorem pin_of {F : Hp} {vs : List V} {ss : List Slot} (h : PairS F vs ss) : PairS F vs (List.zipWith pinS vs ss) := by
  induction h with
  | nil => exact .nil
  | cons p _ ih => exact .cons ⟨rfl, p⟩ ih
theorem pin_un {F : Hp} {vs : List V} {ss : List Slot} : ∀ {xs : List V}, vs.length = ss.length → PairS F xs (List.zipWith pinS vs ss) → xs = vs ∧ PairS F xs ss := by
  induction vs generalizing ss with
  | nil =>
    intro xs hl h
    cases ss with
    | nil => cases h; exact ⟨rfl, .nil⟩
    | cons _ _ => cases hl
  | cons v vs ih =>
    intro xs hl h
    cases ss with
    | nil => cases hl
    | cons S ss =>
      cases h with
      | cons p t =>
        obtain ⟨e, r⟩ := ih (Nat.succ.inj hl) t
        exact ⟨by rw [p.1, e], .cons p.2 r⟩
theorem q_pin (s : St F0 H0 F H σ δ) (i : Nat) (hi : δ[i]? = some (.ow (lstO ss))) (hr : ∀ S ∈ ss, ∀ F v, S.P F v → ∃ a, v = .ref a) {P : Prop} (k : ∀ vs : List V, vs.length = ss.length → (∀ v ∈ vs, ∃ a, v = .ref a) → St F0 H0 F H σ (δ.set i (.ow (lstO (List.zipWith pinS vs ss)))) → P) : P := by
  obtain ⟨p, ho, e, hp, vs, rfl, pv⟩ := s.loc hi
  refine k vs pv.length ?_ ?_
  · have : ∀ {vs : List V} {ss : List Slot}, PairS F vs ss → (∀ S ∈ ss, ∀ F v, S.P F v → ∃ a, v = .ref a) → ∀ v ∈ vs, ∃ a, v = .ref a := by
      intro vs ss h
      induction h with
      | nil => intro _ v hv; cases hv
      | cons p _ ih =>
        intro hr v hv
        cases hv with
        | head => exact hr _ List.mem_cons_self _ _ p
        | tail _ hv => exact ih (fun S hS => hr S (List.mem_cons_of_mem _ hS)) v hv
    exact this pv hr
  · have z := s.mut (ho := .lst vs) (o' := lstO (List.zipWith pinS vs ss)) hi e ⟨vs, rfl, pin_of pv⟩
    have eH : upd H p (.lst vs) = H := by
      funext b
      by_cases hb : b = p
      · subst hb
        rw [upd_same, hp]
      · rw [upd_ne hb]
    rw [eH] at z
    exact z
theorem unpin {vs : List V} {ss : List Slot} (hl : vs.length = ss.length) : ∀ F p ho, (lstO (List.zipWith pinS vs ss)).P F p ho → (lstO ss).P F p ho := by
  rintro F p ho ⟨xs, rfl, h⟩
  exact ⟨xs, rfl, (pin_un hl h).2⟩
def rEqW (K : PySem.W.Frag) : R2 := fun x y H Q => rEqJ K x y H Q ∨ rEqV K x y H Q
theorem ko_eqW {X : Cx} {k : Nat} (hK : X.K = K) (hr : Room k X.A) : OpR X (compareOp .Eq) (rEqW K) := by subst hK; exact OpR.or (jo_eq (Room.u64 hr)) (op_eqV (Room.u64 hr))
theorem ko_neW {X : Cx} {k : Nat} (hK : X.K = K) (hr : Room k X.A) : OpR X (compareOp .NotEq) (rNeJ K) := ko_ne hK hr
theorem jw_pin {vs : List V} (hl : vs.length = ss.length) (hv : ∀ v ∈ vs, ∃ a, v = .ref a) : OpE (rEqW K) (.bo (lstO (List.zipWith pinS vs ss))) (.bo (lstO (List.zipWith pinS vs ss))) (.v (bS true)) := OpE.inr fun F H x y s a b Q q => by
  obtain ⟨p, ho, rfl, hp, xs, rfl, px⟩ := a
  obtain ⟨p', ho', rfl, hp', ys, rfl, py⟩ := b
  obtain ⟨rfl, _⟩ := pin_un hl px
  obtain ⟨e, _⟩ := pin_un hl py
  subst e
  refine ⟨1, by decide, .inl ⟨p, p', _, _, rfl, rfl, SqL.of hp, SqL.of hp', ?_⟩, q _ F H (Grow.refl s) rfl⟩
  have : ∀ l : List V, (∀ v ∈ l, ∃ a, v = .ref a) → Paired (EqV K H 1) l l := by
    intro l
    induction l with
    | nil => intro _; exact .nil
    | cons v l ih =>
      intro h
      obtain ⟨a, rfl⟩ := h v List.mem_cons_self
      exact .cons (.inr (.inl ⟨a, rfl, rfl⟩)) (ih fun w hw => h w (List.mem_cons_of_mem _ hw))
  exact this _ hv
theorem cb_any {bs : List Bool} (h : IsR e1 (lstO (bs.map bS))) : CbE (rAny K) [e1] (.v (bS (bs.any id))) := fun F H xs s a Q q => by
  obtain ⟨x, rfl, a1⟩ := one a
  obtain ⟨p, ho, rfl, hp, vs, rfl, pv⟩ := h.get a1 s
  refine ⟨p, bs, rfl, SqL.of ?_, q _ F H (Grow.refl s) rfl⟩
  rw [hp]
  congr 2
  exact PairS.kmap pv
theorem cb_all {bs : List Bool} (h : IsR e1 (lstO (bs.map bS))) : CbE (rAll K) [e1] (.v (bS (bs.all id))) := fun F H xs s a Q q => by
  obtain ⟨x, rfl, a1⟩ := one a
  obtain ⟨p, ho, rfl, hp, vs, rfl, pv⟩ := h.get a1 s
  refine ⟨p, bs, rfl, SqL.of ?_, q _ F H (Grow.refl s) rfl⟩
  rw [hp]
  congr 2
  exact PairS.kmap pv
section
variable {K : PySem.W.Frag} {F0 H0 F H : Hp} {σ : L2.St} {δ : List Ent} {te tb ta : TE} {tt : TT} {j : Nat}
theorem eo_lcT {α : Type} (ex : α → Slot) (xs : List α) (p : α → Bool) (f : α → Slot) {e1 : Ent} (h : EvE ta δ e1) (hr : IsR e1 (tupO (xs.map ex))) (hz : xs.length ≤ 40000)
    (ht : ∀ x ∈ xs, EvT tt (δ.set j (.v (ex x))) (p x)) (he : ∀ x ∈ xs, p x = true → EvE te (δ.set j (.v (ex x))) (.v (f x))) :
    EvO (tLc (iAny K ta) (gName j) tt te [j]) δ (lstO ((xs.filter p).map f)) := fun F0 H0 F H σ s Q q => by
  refine .inr (.inl (h F0 H0 F H σ s _ fun v F1 H1 g1 a1 => ?_))
  obtain ⟨a, ho, rfl, hp, vs, rfl, pv⟩ := hr.get a1 g1.fh
  have s1 := s.grow g1
  have hlen : vs.length = xs.length := by rw [pv.length, List.length_map]
  refine ⟨a, rfl, ⟨vs, SqT.of hp⟩, fun Dl hD => lc_tup (xs := vs) (fun i H' => LcI F1 H1 Dl (kept p f xs i) H') (LcI.start g1.fh hD) ?_ ?_ ?_⟩
  · rintro i H' _ ⟨F', acc, g, _⟩
    exact SqT.of (g.hh a _ hp)
  · rintro i x H' hx hI
    have hi : i < xs.length := by
      rw [← hlen]
      exact (List.getElem?_eq_some_iff.mp hx).1
    have hxi : xs[i]? = some xs[i] := List.getElem?_eq_getElem hi
    have px : (ex xs[i]).P F1 x := by
      obtain ⟨w, hw, z⟩ := PairS.get (i := i) (S := ex xs[i]) pv (by rw [List.getElem?_map, hxi]; rfl)
      rw [hx] at hw
      cases hw
      exact z
    have hm : xs[i] ∈ xs := List.getElem_mem hi
    have hk := kept_le (p := p) (f := f) (xs := xs) (i := i)
    refine ⟨wipe1, lc_turn (b := p xs[i]) (T := ex xs[i]) (S := f xs[i]) (ss := kept p f xs i) s1 hD (by omega) (fun F' g => (ex xs[i]).mono g.ff px) hI (ht _ hm) (he _ hm) fun H' z => ?_⟩
    rw [kept_succ hxi]
    exact z
  · rintro H' ⟨F', acc, g, hf, hp', pa⟩
    rw [hlen, kept_all] at pa
    exact q Dl _ F' H' (g1.trans g) (g1.hh.free hD) hf hp' ⟨acc, rfl, pa⟩
theorem eo_lcTM {α : Type} (ex : α → Slot) (xs : List α) (f : α → Slot) (h : EvE ta δ e1) (hr : IsR e1 (tupO (xs.map ex))) (hz : xs.length ≤ 40000) (he : ∀ x ∈ xs, EvE te (δ.set j (.v (ex x))) (.v (f x))) :
    EvO (tLc (iAny K ta) (gName j) tYes te [j]) δ (lstO (xs.map f)) := by
  have z := eo_lcT (K := K) (j := j) ex xs (fun _ => true) f h hr hz (fun _ _ => et_yes) (fun x hx _ => he x hx)
  rw [filt1] at z
  exact z
end
end
end J

namespace J
open PySem PySem.Spec L2 PyProof.Rows
section
variable {K : PySem.W.Frag} {F0 H0 F H : Hp} {σ : L2.St} {δ : List Ent} {te tb ta : TE} {tz : TS} {D : Ends} {i j : Nat} {o o1 o2 : Own} {S T : Slot} {e e1 e2 : Ent} {ss ts : List Slot}
/-- a list's items, known by their value -/
theorem IsR.kl {F H : Hp} {x : V} {α : Type} {f : α → V} {xs : List α} (h : IsR e (lstO (xs.map fun a => kS (f a)))) (a : ArgOk F H x e) (s : Same F H) : ∃ p, x = .ref p ∧ SqL K H p (xs.map f) := by
  obtain ⟨p, ho, rfl, hp, vs, rfl, pv⟩ := h.get a s
  refine ⟨p, rfl, SqL.of ?_⟩
  rw [hp]
  congr 2
  exact PairS.kmap pv
theorem IsR.kt {F H : Hp} {x : V} {α : Type} {f : α → V} {xs : List α} (h : IsR e (tupO (xs.map fun a => kS (f a)))) (a : ArgOk F H x e) (s : Same F H) : ∃ p, x = .ref p ∧ SqT K H p (xs.map f) := by
  obtain ⟨p, ho, rfl, hp, vs, rfl, pv⟩ := h.get a s
  refine ⟨p, rfl, SqT.of ?_⟩
  rw [hp]
  congr 2
  exact PairS.kmap pv
theorem cb_sum {ns : List Int} (h : IsR e1 (lstO (ns.map iS))) : CbE (rSum K) [e1] (.v (iS ns.sum)) := fun F H xs s a Q q => by
  obtain ⟨x, rfl, a1⟩ := one a
  obtain ⟨p, rfl, hp⟩ := IsR.kl (f := V.int) h a1 s
  exact ⟨p, ns, rfl, hp, q _ F H (Grow.refl s) rfl⟩
theorem cb_maxl {ns : List Int} {m : Int} (h : IsR e1 (lstO (ns.map iS))) (hm : m ∈ ns) (hx : ∀ y ∈ ns, y ≤ m) : CbE (rMax K) [e1] (.v (iS m)) := fun F H xs s a Q q => by
  obtain ⟨x, rfl, a1⟩ := one a
  obtain ⟨p, rfl, hp⟩ := IsR.kl (f := V.int) h a1 s
  refine ⟨p, ns, rfl, hp, List.length_pos_of_mem hm, fun m' h1 h2 => ?_⟩
  have e : m' = m := Int.le_antisymm (hx _ h1) (h2 _ hm)
  rw [e]
  exact q _ F H (Grow.refl s) rfl
theorem cb_minl {ns : List Int} {m : Int} (h : IsR e1 (lstO (ns.map iS))) (hm : m ∈ ns) (hx : ∀ y ∈ ns, m ≤ y) : CbE (rMin K) [e1] (.v (iS m)) := fun F H xs s a Q q => by
  obtain ⟨x, rfl, a1⟩ := one a
  obtain ⟨p, rfl, hp⟩ := IsR.kl (f := V.int) h a1 s
  refine ⟨p, ns, rfl, hp, List.length_pos_of_mem hm, fun m' h1 h2 => ?_⟩
  have e : m' = m := Int.le_antisymm (h2 _ hm) (hx _ h1)
  rw [e]
  exact q _ F H (Grow.refl s) rfl
/-! ### in -/
theorem inV_ints {i : Int} : ∀ {xs : List Int}, inV (.int i) (xs.map V.int) = decide (i ∈ xs)
  | [] => rfl
  | x :: xs => by
    have ih := inV_ints (i := i) (xs := xs)
    unfold inV at ih ⊢
    rw [List.map_cons, List.any_cons, ih]
    show (decide (x = i) || decide (i ∈ xs)) = _
    by_cases h : x = i
    · subst h
      rw [decide_eq_true rfl, Bool.true_or, decide_eq_true List.mem_cons_self]
    · rw [decide_eq_false h, Bool.false_or]
      congr 1
      rw [List.mem_cons]
      exact propext ⟨.inr, fun z => z.elim (fun z => absurd z.symm h) id⟩
theorem flat_ints {xs : List Int} : (xs.map V.int).all flatV = true := by
  rw [List.all_map, List.all_eq_true]
  intro x _
  rfl
def IsI (e : Ent) (xs : List Int) : Prop := IsR e (lstO (xs.map iS)) ∨ IsR e (tupO (xs.map iS))
theorem jv_in {i : Int} {xs : List Int} (h : IsI e1 xs) : OpE (rIn K false) (.v (iS i)) e1 (.v (bS (decide (i ∈ xs)))) := fun F H x y s a b Q q => by
  cases a
  rcases h with h | h
  · obtain ⟨p, rfl, hp⟩ := IsR.kl (K := K) (f := V.int) h b s
    exact ⟨p, _, rfl, .inl hp, rfl, flat_ints, q _ F H (Grow.refl s) (by rw [if_neg Bool.false_ne_true, inV_ints]; rfl)⟩
  · obtain ⟨p, rfl, hp⟩ := IsR.kt (K := K) (f := V.int) h b s
    exact ⟨p, _, rfl, .inr hp, rfl, flat_ints, q _ F H (Grow.refl s) (by rw [if_neg Bool.false_ne_true, inV_ints]; rfl)⟩
theorem jv_ni {i : Int} {xs : List Int} (h : IsI e1 xs) : OpE (rIn K true) (.v (iS i)) e1 (.v (bS (!decide (i ∈ xs)))) := fun F H x y s a b Q q => by
  cases a
  rcases h with h | h
  · obtain ⟨p, rfl, hp⟩ := IsR.kl (K := K) (f := V.int) h b s
    exact ⟨p, _, rfl, .inl hp, rfl, flat_ints, q _ F H (Grow.refl s) (by rw [if_pos rfl, inV_ints]; rfl)⟩
  · obtain ⟨p, rfl, hp⟩ := IsR.kt (K := K) (f := V.int) h b s
    exact ⟨p, _, rfl, .inr hp, rfl, flat_ints, q _ F H (Grow.refl s) (by rw [if_pos rfl, inV_ints]; rfl)⟩
theorem ev_inI {i : Int} {xs : List Int} (ha : EvE ta δ (.v (iS i))) (hb : EvE tb δ e1) (h : IsI e1 xs) : EvE (tInJ K ta tb) δ (.v (bS (decide (i ∈ xs)))) := fun F0 H0 F H σ s Q q => .inl (ev_op ha hb (jv_in h) F0 H0 F H σ s Q q)
theorem ev_niI {i : Int} {xs : List Int} (ha : EvE ta δ (.v (iS i))) (hb : EvE tb δ e1) (h : IsI e1 xs) : EvE (tNiJ K ta tb) δ (.v (bS (!decide (i ∈ xs)))) := fun F0 H0 F H σ s Q q => .inl (ev_op ha hb (jv_ni h) F0 H0 F H σ s Q q)
/-- xs[::-1] -/
theorem PairS.rev {F : Hp} {vs : List V} {ss : List Slot} (h : PairS F vs ss) : PairS F vs.reverse ss.reverse := by
  induction h with
  | nil => exact .nil
  | cons p _ ih =>
    rw [List.reverse_cons, List.reverse_cons]
    exact PairS.app ih (.cons p .nil)
theorem eo_revL (h : EvE te δ e1) (hr : IsR e1 (lstO ss)) : EvO (tRevL K te) δ (lstO ss.reverse) := fun F0 H0 F H σ s Q q =>
  h F0 H0 F H σ s _ fun x F1 H1 g1 a1 => by
    obtain ⟨p, ho, rfl, hp, vs, rfl, pv⟩ := hr.get a1 g1.fh
    exact ⟨p, vs, rfl, SqL.of hp, fun r hr => q r _ F1 _ (g1.trans (Grow.newH g1.fh hr)) (g1.hh.free hr) (g1.fh.free hr) upd_same ⟨_, rfl, PairS.rev pv⟩⟩
end
end J

/-! dict displays with one tuple key; sorted of tuples of ints, of a dict with such keys -/
namespace J
open PySem PySem.Spec L2 PyProof.Rows
/-! ### {x: v}, x a tuple -/
def tDisp1 (tk tv : TE) : TE := fun σ H Q => ∀ p, H p = none → tk σ (upd H p (.dT [])) fun x H1 => tv σ H1 fun y H2 => H2 p = some (.dT []) ∧ ∃ (ks : List Key) (b : Addr), x = .ref b ∧ H2 b = some (.tup (ks.map kV)) ∧ Q (.ref p) (upd H2 p (.dT [(ks, y)]))
theorem pe_disp1 {X : Cx} {j : Nat} {pos : Pos} {k v : Expr} {tk tv : TE} (hr : Room j X.A) (hk : PE X k tk) (hv : PE X v tv) : PE X (.Dict [some k] [v] pos) (tDisp1 tk tv) := by
  refine ⟨fun pins s σ H Q I q => ?_⟩
  have hn := I.hok.fresh (Nat.le_refl s.heap.objs.size)
  have I1 := I.laid (a := s.heap.objs.size) (o := .dT []) (h' := s.heap.push { cls := .type "dict", data := .dict #[] }) (t' := s.toks) (fun _ _ q => Heap.get?_push_of_some _ q) (Nat.le_refl _) (dt_empty s.heap I.big)
  rw [arm_eval_Dict, zip_pairTrees [some k] [v] X.env pos rfl rfl, dictDisplay_pairs _ (fun e => by cases e) (by show 1 < 17; decide)]
  refine wpAny_bind (wpAny_standAt (wpAny_bind ?_))
  unfold subDict
  refine wpAny_bind (wpAny_alloc ?_)
  refine wpAny_bind (wpAny_holding ?_)
  rw [if_pos (show (pairTrees [some k] [v] X.env pos).length ≤ 15 from (by decide : 1 ≤ 15))]
  refine wpAny_bind (pairTrees_cons_walk (thn (hk.run pins _ σ _ _ I1 (q _ hn)) fun u s1 ⟨x, H1, I2, rx, q1⟩ => thn (hv.run pins s1 σ H1 _ I2 q1) fun w2 s2 ⟨y, H2, I3, ry, e, ks, b, ex, eb, q2⟩ => pairTrees_nil_walk ?_))
  subst ex
  obtain rfl : u = Value.ref b := rx
  refine wpAny_holding ?_
  rw [List.forIn_cons]
  obtain ⟨z, hd, xs, rel, dd⟩ := dt_of I3.hok e
  cases rel
  refine wpAny_bind (wpAny_bind ?_)
  show wpAny _ _ (dictSet s.heap.objs.size (.ref b) w2 >>= fun _ => pure (ForInStep.yield PUnit.unit)) _ _ s2
  refine wpAny_bind (wpAny_dictSet_heap (hsz := Nat.zero_le _) (knd := tupleKind (mixKind X.prog X.w)) (show X.A.units < cLine by have := hr.un; omega) (key_of I3.hok eb) dd fun h' dd' hs => ?_)
  refine wpAny_pure ?_
  show wpAny _ _ (forIn [] PUnit.unit _) _ _ _
  rw [List.forIn_nil]
  refine wpAny_pure (wpAny_pure (wpAny_pure (wpAny_pure ⟨.ref _, _, ?_, rfl, q2⟩)))
  obtain ⟨o, es, ep, hq, h2, h3, h4, _, h5⟩ := dd'
  refine d_write I3 (by rw [e]; exact True.intro) hs ⟨o, hq⟩ ⟨by show 1 ≤ sizeLine; decide, hd, _, (KT.put (show KT H2 [] [] from .nil) ks eb ry).keeps fun c ys ec => ?_, o, es, ep, hq, h2, h3, h4, h5⟩
  rw [upd_ne (ne_of ec e (fun z => nomatch z))]
  exact ec

/-! ### sorted: tuples of ints -/
theorem swo_rank (r : Value → Int) : SrtO.Swo fun v u => decide (r v < r u) := by
  refine ⟨fun x y h => ?_, fun x y z h1 h2 => ?_⟩
  · have a := of_decide_eq_true h
    exact decide_eq_false (by omega)
  · have a := of_decide_eq_false h1
    have b := of_decide_eq_false h2
    exact decide_eq_false (by omega)
section
variable {prog : Program} {w : World} {A : Around} {s : Shared}
theorem tups_sortable {a : Addr} {vs : List Value} {d : Nat} {B : Int} (hd : 1 ≤ d) (h2 : 2 ≤ vs.length) (x : TS.TupsOk s.heap d B vs) (ha : ∀ o, s.heap.get? a = some o → o.cls ≠ .type "tuple")
    (r : Value → Int) (hr : ∀ v ∈ vs, ∀ ns, TS.TupInts s.heap v ns → r v = TS.code B ns) : SrtO.SortableO prog w A s a vs fun v u => decide (r v < r u) := by
  intro h' keep
  have kp : ∀ b o, s.heap.get? b = some o → o.cls = .type "tuple" → h'.get? b = some o := fun b o e c => keep b o (fun z => by subst z; exact ha o e c) e
  have x' : TS.TupsOk h' d B vs := x.keeps kp
  obtain ⟨fs, k, hl, hi⟩ := TS.firsts_of hd vs x'
  refine ⟨tuples' true, fun Q E hq => ?_, ?_⟩
  · refine PySem.W.kat_kind (T := .type "int") k (by omega) (fun f hf => ?_) (by rfl) ?_
    · obtain ⟨n, t, rfl⟩ := hi f hf
      exact PySem.W.Looks.now
    · have e : (Value.type "int" != Value.type "tuple") = true := by first | decide +kernel | rfl | decide
      rw [e]
      exact hq
  · intro p q hm hm'
    obtain ⟨ns, tp0, lp, bp⟩ := x _ hm
    obtain ⟨ms, tq0, lq, bq⟩ := x _ hm'
    have tp := tp0.keeps kp
    have tq := tq0.keeps kp
    have ep := hr _ hm _ tp0
    have eq2 := hr _ hm' _ tq0
    show wpAny (model prog w) A (keyLt' (tuples' true) p.1 q.1) (fun r' s' => s' = { s with heap := h' } ∧ r' = decide (r p.1 < r q.1)) (fun _ _ => False) { s with heap := h' }
    rw [ep, eq2]
    obtain ⟨a, xs, e1, ⟨o, ho, hc, n, hdt⟩, i⟩ := tp
    obtain ⟨a', ys, e2, ⟨o', ho', hc', n', hdt'⟩, i'⟩ := tq
    rw [e1, e2]
    refine PySem.W.kat_lt ho hdt ho' hdt' ?_
    have sz : decide (xs.size < ys.size) = false := by
      have l1 := i.length
      have l2 := i'.length
      rw [Array.length_toList] at l1 l2
      exact decide_eq_false (by omega)
    rw [sz]
    exact TS.lex_ints 0 i i' (by omega) bp bq ⟨rfl, rfl⟩
end
/-- sorted(xs), xs a list of tuples of d ints in [0, B), of any length -/
def rSortedW (K : PySem.W.Frag) : List V → Hp → VK → Prop := fun vs H Q => ∃ (a : Addr) (xs : List V) (f : V → List Int) (d : Nat) (B : Int), vs = [V.ref a] ∧ SqL K H a xs ∧ 1 ≤ d ∧ (∀ x ∈ xs, TupI K H x (f x) ∧ (f x).length = d ∧ TS.Bd B (f x)) ∧
  ∀ (ys : List V) (p : Addr), ys.Perm xs → ys.Pairwise (fun x y => TS.code B (f x) ≤ TS.code B (f y)) → H p = none → Q (.ref p) (upd H p (.lst ys))
theorem srtd_le {r : Value → Int} {l : List Value} (h : SrtO.Srtd (fun v u => decide (r v < r u)) l) : l.Pairwise fun v u => r v ≤ r u := by
  refine List.Pairwise.imp (fun {v u} hh => ?_) h
  have := of_decide_eq_false hh
  omega
theorem cr_sortedW {X : Cx} : CallR X (.builtin "sorted") (rSortedW X.K) := by
  intro pins s σ H vs us Q I r h
  obtain ⟨a, xs, f, d, B, rfl, hs, hd, hx, q⟩ := h
  obtain ⟨its, rv, hl, hz⟩ := I.list hs
  rw [Vals.ref1 r]
  obtain ⟨e1, e2⟩ := bkV_refs rv fun x m => by
    obtain ⟨⟨t, e, _⟩, _⟩ := hx x m
    exact ⟨t, e⟩
  have raw : ∀ v ∈ its, TS.TupInts s.heap v (f (bkV v)) ∧ (f (bkV v)).length = d ∧ TS.Bd B (f (bkV v)) := fun v hv => by
    obtain ⟨t, rfl⟩ := e2 v hv
    have hm : V.ref t ∈ xs := by
      rw [e1]
      exact List.mem_map.mpr ⟨_, hv, rfl⟩
    obtain ⟨⟨t', e, ht⟩, hn, hb⟩ := hx _ hm
    cases e
    exact ⟨tupI_raw I ht, hn, hb⟩
  refine SrtO.sorted_ord (ltv := fun v u => decide (TS.code B (f (bkV v)) < TS.code B (f (bkV u)))) (swo_rank fun v => TS.code B (f (bkV v))) hl.isList (by rw [← rv.length]; exact hz) (fun h2 h₁ a ha kk => ?_) fun out hs hb => ?_
  · refine tups_sortable (s := { s with heap := h₁ }) (d := d) (B := B) hd h2 (fun v hv => ⟨_, (raw v hv).1.keeps fun b o e _ => (kk b o e).2, (raw v hv).2⟩) (fun o e => ?_) (fun v => TS.code B (f (bkV v))) fun v hv ns t => ?_
    · have e' : some o = some (seqObj "list" its.toArray 0) := e.symm.trans ha
      cases e'
      intro c
      exact absurd (Value.type.inj c) (by decide)
    · have t1 := (raw v hv).1.keeps (h' := h₁) fun b o e _ => (kk b o e).2
      show TS.code B (f (bkV v)) = TS.code B ns
      rw [← t1.ints, ← t.ints]
  · have h3 : ∀ u ∈ out, ∃ a, u = Value.ref a := fun u hu => e2 u (hb.perm.mem_iff.mp hu)
    have hp : (out.map bkV).Perm xs := by
      rw [e1]
      exact hb.perm.map bkV
    have hlen : (out.map bkV).length ≤ sizeLine := by
      rw [hp.length_eq]
      exact hz
    obtain ⟨ep, he'⟩ := PyProof.Rows.sortedAll_at s.heap its out.toArray
    refine ⟨.ref _, upd H (s.heap.objs.size + 1) (.lst (out.map bkV)), I.laid (t' := s.toks) (fun _ _ => PyProof.Rows.sortedAll_old) (Nat.le_succ _) ⟨hlen, out, ep, bkV_vals h3, he'⟩, rfl, q _ _ hp ?_ (I.hok.fresh (Nat.le_succ _))⟩
    rw [List.pairwise_map]
    exact srtd_le (r := fun v => TS.code B (f (bkV v))) hs

/-! ### sorted(d), d a dict with tuples of ints as keys -/
section
variable {prog : Program} {w : World} {d : Addr} {od : Obj} {es : Array DictEntry} {ep : Nat}
theorem walks_keysT {A : Around} {I : Addr} (hh : A.handled = none) (hne : d ≠ I) (hdt : od.data = .dict es ep) :
    Walks prog w A I [I, d] [I] es.size (fun i v => ∃ en : DictEntry, es[i]? = some en ∧ v = en.key) (fun i h => h.IsKeyIter I d i es.size ep ∧ h.get? d = some od) where
  sub := fun b hb => by simp at hb; simp [hb]
  frame := fun _ _ _ st hk => ⟨st.1.at fun o e => hk I (by simp) o e, hk d (by simp) _ st.2⟩
  item := fun i s Q E hi st hQ => by
    have hen : es[i]? = some es[i] := Array.getElem?_eq_getElem hi
    exact next_key_item st.1 st.2 hdt rfl hen fun h' it' sb => hQ _ h' s.toks ⟨_, hen, rfl⟩ ⟨it', (sb.2 d hne).trans st.2⟩ fun b o hb e => (sb.2 b (by simpa using hb)).trans e
  done := fun s Q E st hQ => next_key_end hh st.1 st.2 hdt rfl (Nat.le_refl _) fun h' ext => hQ h' s.toks fun b o hb e => ext b o (fun z => hb (by simp [z])) e
  self := fun _ _ _ _ st hQ => wpAny_pyIter_keyiter st.1 hQ
theorem src_keysT (hd : (d == sysModules) = false) (hx : od.ExactDict) (hdt : od.data = .dict es ep) :
    PySem.W.KdlSrc prog w "dict" d d es.size (fun i v => ∃ en : DictEntry, es[i]? = some en ∧ v = en.key) (fun h => h.get? d = some od) where
  type := fun s h => ⟨od, h, hx.1⟩
  there := fun h e => ⟨Heap.lt_size e, Heap.lt_size e⟩
  keep := fun h h' e k => k d (.inl rfl) _ e
  notList := by decide
  notTuple := by decide
  hint := fun A E s Q e hq => PySem.W.kdl_hint_dict ⟨od, e, hx.1⟩ hq
  iter := fun A s hh e => ⟨_, _, (fun E Q hq => iter_keys hd e hx hdt hq), walks_keysT hh (Nat.ne_of_lt (Heap.lt_size e)) hdt, ⟨⟨_, Heap.get?_push_size _ rfl, rfl, rfl⟩, Heap.get?_push_of_some _ e⟩⟩
end

/-- sorted(d) of a dict whose keys are tuples of d ints in [0, B) -/
def rSortedKT : List V → Hp → VK → Prop := fun vs H Q => ∃ (a : Addr) (kvs : List (List Key × V)) (L : List (List Int)) (d : Nat) (B : Int), vs = [V.ref a] ∧ Rd H a (.dT kvs) ∧ kvs.map (·.1) = L.map (fun l => l.map Sum.inl) ∧ 1 ≤ d ∧ (∀ l ∈ L, l.length = d ∧ TS.Bd B l) ∧
  ∀ (ys : List V) (g : V → List Int) (p : Addr), (∀ y ∈ ys, ∃ t, y = .ref t ∧ H t = some (.tup ((g y).map V.int))) → (ys.map g).Perm L → ys.Pairwise (fun x y => TS.code B (g x) ≤ TS.code B (g y)) → H p = none → Q (.ref p) (upd H p (.lst ys))
theorem keys_of {l : List Int} : (l.map (Sum.inl : Int → Key)).map kV = l.map V.int := by
  rw [List.map_map]
  rfl
theorem Inv.rdT {X : Cx} {pins : List (Addr × Obj)} {σ : L2.St} {H : Hp} {s : Shared} {a : Addr} {kvs : List (List Key × V)} (I : L2.Inv X pins σ H s) (h : Rd H a (.dT kvs)) :
    (a == sysModules) = false ∧ ∃ (o : Obj) (es : Array DictEntry) (ep : Nat), s.heap.get? a = some o ∧ o.ExactDict ∧ o.data = .dict es ep ∧ es.size = kvs.length ∧
      ∀ (i : Nat) (k : List Key) (v : V), kvs[i]? = some (k, v) → ∃ (en : DictEntry) (q : Addr), es[i]? = some en ∧ en.key = .ref q ∧ H q = some (.tup (k.map kV)) := by
  obtain ⟨_, y, xs, r, o, es, ep, h1, h2, h3, h4, h5⟩ := (show ObjOk X.prog X.w H s.heap a (.dT kvs) from rd_of I.hok h)
  have l1 : es.size = xs.length := size_of_entries h4
  have l2 : kvs.length = xs.length := Paired.length r
  refine ⟨y, o, es, ep, h1, h2, h3, by omega, fun i k v e => ?_⟩
  obtain ⟨b, hb, e1, e2, _⟩ := paired_get r e
  have q := entry_at h4 i
  rw [hb] at q
  exact ⟨_, b.2.1, q, rfl, e2⟩
theorem cr_sortedKT {X : Cx} (hc : X.calm = true) : CallR X (.builtin "sorted") rSortedKT := by
  intro pins s σ H vs us Q I r h
  obtain ⟨a, kvs, L, d, B, rfl, hd, hk, h1, hb, q⟩ := h
  rw [Vals.ref1 r]
  obtain ⟨hs, o, es, ep, ho, hx, hdt, hsz, ent⟩ := Inv.rdT I hd
  have hlen : kvs.length ≤ sizeLine := (show ObjOk X.prog X.w H s.heap a (.dT kvs) from rd_of I.hok hd).1
  have hkl : kvs.length = L.length := by
    have e := congrArg List.length hk
    rw [List.length_map, List.length_map] at e
    exact e
  refine Calls.call_function_entry PyProof.Rows.kind_sorted PyProof.Rows.plain_sorted PyProof.Rows.entry_sorted (PyProof.Rows.args_sorted1 _) ?_
  unfold Builtin.«sorted»
  refine wpAny_bind (m := checkCount "sorted" 1 1 _) (wpAny_pure ?_)
  refine wpAny_bind (PySem.W.kdu_collect (A := X.A.in1) (src_keysT hs hx hdt) (I.ok.hd hc) ho (by omega) fun h' tk acc hkeep hacc => ?_)
  have hal : acc.toList.length = L.length := by rw [Array.length_toList, hacc.1]; omega
  have raw : ∀ (j : Nat) (v : Value), acc.toList[j]? = some v → ∃ (l : List Int) (t : Addr), L[j]? = some l ∧ v = .ref t ∧ H t = some (.tup (l.map V.int)) := fun j v e => by
    obtain ⟨en, e1, e2⟩ := hacc.2 j v (by rw [← Array.getElem?_toList]; exact e)
    have hj : j < L.length := by
      rw [← hal]
      exact (List.getElem?_eq_some_iff.mp e).1
    have hL : L[j]? = some L[j] := List.getElem?_eq_getElem hj
    obtain ⟨⟨k, x⟩, hkv⟩ : ∃ p, kvs[j]? = some p := ⟨_, List.getElem?_eq_getElem (by omega)⟩
    obtain ⟨en', t, e3, e4, e5⟩ := ent j k x hkv
    rw [e1] at e3
    cases e3
    have e6 : (kvs.map (·.1))[j]? = some k := by rw [List.getElem?_map, hkv]; rfl
    rw [hk, List.getElem?_map, hL] at e6
    have e7 : L[j].map (Sum.inl : Int → Key) = k := Option.some.inj e6
    rw [← e7, keys_of] at e5
    exact ⟨_, t, hL, by rw [e2, e4], e5⟩
  have raw2 : ∀ v ∈ acc.toList, ∃ (l : List Int) (t : Addr), v = .ref t ∧ H t = some (.tup (l.map V.int)) ∧ l.length = d ∧ TS.Bd B l ∧ TS.intsOf s.heap v = l ∧ TS.TupInts s.heap v l := fun v hv => by
    obtain ⟨j, hj⟩ := List.mem_iff_getElem?.mp hv
    obtain ⟨l, t, hL, rfl, ht⟩ := raw j v hj
    have z := tupI_raw I (SqT.of ht : SqT X.K H t _)
    exact ⟨l, t, rfl, ht, (hb l (List.mem_of_getElem? hL)).1, (hb l (List.mem_of_getElem? hL)).2, z.ints, z⟩
  have hmap : acc.toList.map (TS.intsOf s.heap) = L := by
    apply List.ext_getElem?
    intro j
    rw [List.getElem?_map]
    cases e : acc.toList[j]? with
    | none =>
      have : L.length ≤ j := by
        rw [← hal]
        exact List.getElem?_eq_none_iff.mp e
      rw [List.getElem?_eq_none this]
      rfl
    | some v =>
      obtain ⟨l, t, hL, rfl, ht⟩ := raw j v e
      rw [hL]
      have z := tupI_raw I (SqT.of ht : SqT X.K H t _)
      show some (TS.intsOf s.heap (.ref t)) = some l
      rw [z.ints]
  have I1 : L2.Inv X pins σ H { s with heap := h', toks := tk } := I.kept hkeep
  refine wpAny_bind (wpAny_newList ?_ (by omega))
  have hoL : (h'.push (seqObj "list" acc.toList.toArray 0)).get? h'.objs.size = some (seqObj "list" acc.toList.toArray 0) := Heap.get?_push_size _ rfl
  show wpAny _ _ _ _ _ { s with heap := h'.push (seqObj "list" acc.toList.toArray 0), toks := tk }
  have keepT : ∀ b o, s.heap.get? b = some o → o.cls = .type "tuple" → (h'.push (seqObj "list" acc.toList.toArray 0)).get? b = some o := fun b o e _ => Heap.get?_push_of_some _ (hkeep b o e)
  refine wpAny_bind (wpAny_holding (wpAny_call_entry PyProof.Rows.slot_list_sort ⟨_, hoL, rfl⟩ PyProof.Rows.entry_list_sort
    (SrtO.list_sort_ord (s := { s with heap := h'.push (seqObj "list" acc.toList.toArray 0), toks := tk }) (ltv := fun v u => decide (TS.code B (TS.intsOf s.heap v) < TS.code B (TS.intsOf s.heap u))) (swo_rank fun v => TS.code B (TS.intsOf s.heap v)) hoL (by omega)
      (fun h2 => tups_sortable (d := d) (B := B) h1 h2 (fun v hv => ?_) (fun o e => ?_) (fun v => TS.code B (TS.intsOf s.heap v)) fun v hv ns t => ?_) fun out hs hb => ⟨_, rfl, ?_⟩) (PyProof.Rows.args_list_sort _)))
  · obtain ⟨l, t, rfl, _, g1, g2, _, z⟩ := raw2 v hv
    exact ⟨l, z.keeps keepT, g1, g2⟩
  · have e' : some o = some (seqObj "list" acc.toList.toArray 0) := e.symm.trans hoL
    cases e'
    intro c
    exact absurd (Value.type.inj c) (by decide)
  · obtain ⟨l, t', rfl, _, _, _, g3, z⟩ := raw2 v hv
    show TS.code B (TS.intsOf s.heap _) = TS.code B ns
    rw [g3, ← (z.keeps keepT).ints, ← t.ints]
  · obtain ⟨e', he'⟩ := PyProof.Rows.sortedHeap_at (vs := acc.toList) (out := out.toArray) hoL
    have h3 : ∀ u ∈ out, ∃ a, u = Value.ref a := fun u hu => by
      obtain ⟨_, t, rfl, _⟩ := raw2 u (hb.perm.mem_iff.mp hu)
      exact ⟨t, rfl⟩
    have hl2 : (out.map bkV).length ≤ sizeLine := by
      rw [List.length_map, hb.perm.length_eq, hal]
      omega
    have bk : ∀ u ∈ out, Value.ref (match bkV u with | .ref t => t | _ => 0) = u := fun u hu => by
      obtain ⟨t, rfl⟩ := h3 u hu
      rfl
    refine wpAny_pure ⟨_, rfl, .ref h'.objs.size, upd H h'.objs.size (.lst (out.map bkV)), I1.laid (t' := tk) (fun b u e => ?_) (Nat.le_refl _)
      (show ObjOk X.prog X.w _ _ _ (.lst (out.map bkV)) from ⟨hl2, out, e', bkV_vals h3, he'⟩), rfl, q (out.map bkV) (fun y => TS.intsOf s.heap (Value.ref (match y with | .ref t => t | _ => 0))) _ ?_ ?_ ?_ (I1.hok.fresh (Nat.le_refl _))⟩
    · have hb : b < h'.objs.size := Heap.lt_size e
      rw [PyProof.Rows.sortedHeap_old (Nat.ne_of_lt hb) (by rw [size_push']; exact Nat.lt_succ_of_lt hb)]
      exact Heap.get?_push_of_some _ e
    · intro y hy
      obtain ⟨u, hu, rfl⟩ := List.mem_map.mp hy
      obtain ⟨l, t, rfl, ht, _, _, g3, _⟩ := raw2 u (hb.perm.mem_iff.mp hu)
      refine ⟨t, rfl, ?_⟩
      show H t = some (.tup ((TS.intsOf s.heap (.ref t)).map V.int))
      rw [g3]
      exact ht
    · rw [List.map_map]
      have e : out.map ((fun y => TS.intsOf s.heap (Value.ref (match y with | .ref t => t | _ => 0))) ∘ bkV) = out.map (TS.intsOf s.heap) := List.map_congr_left fun u hu => congrArg (TS.intsOf s.heap) (bk u hu)
      rw [e, ← hmap]
      exact hb.perm.map _
    · rw [List.pairwise_map]
      refine List.Pairwise.imp_of_mem (fun {u v} hu hv z => ?_) (srtd_le (r := fun v => TS.code B (TS.intsOf s.heap v)) hs)
      show TS.code B (TS.intsOf s.heap _) ≤ TS.code B (TS.intsOf s.heap _)
      rw [bk u hu, bk v hv]
      exact z
end J

/-! dicts with tuple keys and with int keys, sorted, as rules of the store -/
namespace J
open PySem PySem.Spec L2 PyProof.Rows
abbrev tpS (x : List Int) : Slot := tupS (x.map iS)
def kx (x : List Int) : List Key := x.map Sum.inl
theorem kx_inj {x y : List Int} (h : kx x = kx y) : x = y := by
  unfold kx at h
  exact List.map_inj_right (fun a b e => Sum.inl.inj e) |>.mp h
theorem paired_snoc {α β : Type} {R : α → β → Prop} {a : List α} {b : List β} {x : α} {y : β} (h : Paired R a b) (p : R x y) : Paired R (a ++ [x]) (b ++ [y]) := by
  induction h with
  | nil => exact .cons p .nil
  | cons q _ ih => exact .cons q ih
/-! ### one sorted list -/
theorem sorted_uniq {α : Type} {le : α → α → Prop} : ∀ {l m : List α}, (∀ a ∈ l, ∀ b ∈ l, le a b → le b a → a = b) → l.Perm m → l.Pairwise le → m.Pairwise le → l = m
  | [], m, _, p, _, _ => (List.Perm.eq_nil p.symm).symm
  | x :: l, [], _, p, _, _ => absurd p.length_eq (by simp)
  | x :: l, y :: m, anti, p, hl, hm => by
    have hy : y ∈ x :: l := p.mem_iff.mpr List.mem_cons_self
    have hx : x ∈ y :: m := p.mem_iff.mp List.mem_cons_self
    have e : x = y := by
      rcases List.mem_cons.mp hy with e | hy'
      · exact e.symm
      · rcases List.mem_cons.mp hx with e | hx'
        · exact e
        · exact anti x List.mem_cons_self y hy ((List.pairwise_cons.mp hl).1 y hy') ((List.pairwise_cons.mp hm).1 x hx')
    subst e
    rw [sorted_uniq (fun a ha b hb => anti a (List.mem_cons_of_mem _ ha) b (List.mem_cons_of_mem _ hb)) p.cons_inv (List.pairwise_cons.mp hl).2 (List.pairwise_cons.mp hm).2]
theorem code_inj {B : Int} : ∀ {x y : List Int}, x.length = y.length → TS.Bd B x → TS.Bd B y → TS.code B x = TS.code B y → x = y
  | [], [], _, _, _, _ => rfl
  | [], _ :: _, h, _, _, _ => by simp at h
  | _ :: _, [], h, _, _, _ => by simp at h
  | a :: x, b :: y, hl, hx, hy, e => by
    have hl' : x.length = y.length := by simpa using hl
    rcases Int.lt_trichotomy a b with h | h | h
    · have := TS.code_lt hl' hx.tail hy.tail h
      omega
    · subst h
      have e2 : TS.code B x = TS.code B y := by
        have h1 : ¬ TS.code B x < TS.code B y := fun q => by have := (TS.code_same (d := a) hl').mpr q; omega
        have h2 : ¬ TS.code B y < TS.code B x := fun q => by have := (TS.code_same (d := a) hl'.symm).mpr q; omega
        omega
      rw [code_inj hl' hx.tail hy.tail e2]
    · have := TS.code_lt hl'.symm hy.tail hx.tail h
      omega
def leT (x y : List Int) : Bool := decide (TS.code 64 x ≤ TS.code 64 y)
def sortT (xs : List (List Int)) : List (List Int) := xs.mergeSort leT
theorem sortT_perm (xs : List (List Int)) : (sortT xs).Perm xs := List.mergeSort_perm xs leT
theorem sortT_srt (xs : List (List Int)) : (sortT xs).Pairwise fun x y => TS.code 64 x ≤ TS.code 64 y := by
  have h := List.pairwise_mergeSort (le := leT) (fun a b c h1 h2 => by
    have := of_decide_eq_true h1
    have := of_decide_eq_true h2
    exact decide_eq_true (by omega)) (fun a b => by
    unfold leT
    by_cases h : TS.code 64 a ≤ TS.code 64 b
    · rw [decide_eq_true h]; rfl
    · rw [decide_eq_true (show TS.code 64 b ≤ TS.code 64 a by omega), Bool.or_true]) xs
  exact h.imp fun q => of_decide_eq_true q
def TOk (d : Nat) (x : List Int) : Prop := x.length = d ∧ TS.Bd 64 x
theorem sortT_uniq {xs ys : List (List Int)} {d : Nat} (hx : ∀ x ∈ xs, TOk d x) (p : ys.Perm xs) (s : ys.Pairwise fun x y => TS.code 64 x ≤ TS.code 64 y) : ys = sortT xs := by
  refine sorted_uniq (fun a ha b hb h1 h2 => ?_) (p.trans (sortT_perm xs).symm) s (sortT_srt xs)
  have h3 := hx a (p.mem_iff.mp ha)
  have h4 := hx b (p.mem_iff.mp hb)
  exact code_inj (h3.1.trans h4.1.symm) h3.2 h4.2 (by omega)
def leI (x y : Int) : Bool := decide (x ≤ y)
def sortI (xs : List Int) : List Int := xs.mergeSort leI
theorem sortI_perm (xs : List Int) : (sortI xs).Perm xs := List.mergeSort_perm xs leI
theorem sortI_srt (xs : List Int) : (sortI xs).Pairwise (· ≤ ·) := by
  have h := List.pairwise_mergeSort (le := leI) (fun a b c h1 h2 => by
    have := of_decide_eq_true h1
    have := of_decide_eq_true h2
    exact decide_eq_true (by omega)) (fun a b => by
    unfold leI
    by_cases h : a ≤ b
    · rw [decide_eq_true h]; rfl
    · rw [decide_eq_true (show b ≤ a by omega), Bool.or_true]) xs
  exact h.imp fun q => of_decide_eq_true q
theorem sortI_uniq {xs ys : List Int} (p : ys.Perm xs) (s : ys.Pairwise (· ≤ ·)) : ys = sortI xs :=
  sorted_uniq (fun a ha b hb h1 h2 => Int.le_antisymm h1 h2) (p.trans (sortI_perm xs).symm) s (sortI_srt xs)
/-! ### sorted, all ways -/
def rSortDI : List V → Hp → VK → Prop := fun xs H Q => ∃ (a : Addr) (kvs : List (Key × V)) (ks : List Int), xs = [.ref a] ∧ Rd H a (.dK kvs) ∧ kvs.map (·.1) = ks.map Sum.inl ∧ ks.length < 64 ∧
    ∀ (ys : List Int) (p : Addr), ys.Perm ks → ys.Pairwise (· ≤ ·) → H p = none → Q (.ref p) (upd H p (.lst (ys.map V.int)))
def rSortJ (K : PySem.W.Frag) : List V → Hp → VK → Prop := fun vs H Q => rSortedW K vs H Q ∨ rSortedKT vs H Q ∨ rSortDI vs H Q
theorem kc_sorted {K : PySem.W.Frag} {X : Cx} (hK : X.K = K) (hc : X.calm = true) : CallR X (.builtin "sorted") (rSortJ K) := by
  subst hK
  exact CallR.or cr_sortedW (CallR.or (cr_sortedKT hc) (call_sortedDI hc))
section
variable {K : PySem.W.Frag} {F0 H0 F H : Hp} {σ : L2.St} {δ : List Ent} {te tb ta tk tv : TE} {tz : TS} {D : Ends} {i : Nat} {S : Slot} {e1 : Ent}
def intV : V → Int
  | .int i => i
  | _ => 0
/-- the ints of a tuple of F -/
def fv (F : Hp) : V → List Int
  | .ref t => match F t with
    | some (.tup ws) => ws.map intV
    | _ => []
  | _ => []
theorem fv_of {x : List Int} {v : V} (h : (tpS x).P F v) : ∃ t, v = .ref t ∧ F t = some (.tup (x.map V.int)) ∧ fv F v = x := by
  obtain ⟨t, ho, rfl, ht, ws, rfl, pw⟩ := h
  have e : ws = x.map V.int := PairS.kmap pw
  subst e
  refine ⟨t, rfl, ht, ?_⟩
  show (match F t with | some (.tup ws) => ws.map intV | _ => []) = x
  rw [ht]
  show (x.map V.int).map intV = x
  rw [List.map_map]
  exact List.map_id' x
theorem tp_of {x : List Int} {t : Addr} (h : F t = some (.tup (x.map V.int))) : (tpS x).P F (.ref t) := by
  exact ⟨t, _, rfl, h, _, rfl, PairS.ofk V.int x⟩
theorem pairs_tp {vs : List V} {xs : List (List Int)} (h : PairS F vs (xs.map tpS)) : vs.map (fv F) = xs := by
  induction xs generalizing vs with
  | nil => cases h; rfl
  | cons x xs ih =>
    cases h with
    | cons p t =>
      obtain ⟨_, _, _, e⟩ := fv_of p
      rw [List.map_cons, e, ih t]
theorem tp_pairs : ∀ {ys : List V}, (∀ y ∈ ys, ∃ t, y = .ref t ∧ F t = some (.tup ((fv F y).map V.int))) → PairS F ys ((ys.map (fv F)).map tpS)
  | [], _ => .nil
  | y :: ys, h => by
    obtain ⟨t, e, ht⟩ := h y List.mem_cons_self
    refine .cons ?_ (tp_pairs fun z hz => h z (List.mem_cons_of_mem _ hz))
    rw [e] at ht ⊢
    exact tp_of ht
theorem mem_tp {vs : List V} {xs : List (List Int)} (h : PairS F vs (xs.map tpS)) : ∀ v ∈ vs, (∃ t, v = .ref t ∧ F t = some (.tup ((fv F v).map V.int))) ∧ fv F v ∈ xs := by
  induction xs generalizing vs with
  | nil => cases h; intro v hv; cases hv
  | cons x xs ih =>
    cases h with
    | cons p t =>
      intro v hv
      cases hv with
      | head =>
        obtain ⟨q, e1, e2, e3⟩ := fv_of p
        rw [e3]
        exact ⟨⟨q, e1, e2⟩, List.mem_cons_self⟩
      | tail _ hv => exact ⟨(ih t v hv).1, List.mem_cons_of_mem _ (ih t v hv).2⟩
theorem eo_sortT {xs : List (List Int)} {d : Nat} (h : EvE te δ e1) (hr : IsR e1 (lstO (xs.map tpS))) (hd : 1 ≤ d) (hx : ∀ x ∈ xs, TOk d x) : EvO (tCB (rSortJ K) (tCons te tNil)) δ (lstO ((sortT xs).map tpS)) := fun F0 H0 F H σ s Q q =>
  h F0 H0 F H σ s _ fun v F1 H1 g1 a1 => by
    obtain ⟨p, ho, rfl, hp, vs, rfl, pv⟩ := hr.get a1 g1.fh
    have mt := mem_tp pv
    refine .inl ⟨p, vs, fv F1, d, 64, rfl, SqL.of hp, hd, fun x hm => ?_, fun ys r hperm hs hr => ?_⟩
    · obtain ⟨⟨t, e1, e2⟩, e3⟩ := mt x hm
      exact ⟨⟨t, e1, SqT.of (g1.fh t _ e2)⟩, hx _ e3⟩
    · have e : ys.map (fv F1) = sortT xs := by
        refine sortT_uniq hx ?_ (List.pairwise_map.mpr hs)
        rw [← pairs_tp pv]
        exact hperm.map _
      refine q r _ F1 _ (g1.trans (Grow.newH g1.fh hr)) (g1.hh.free hr) (g1.fh.free hr) upd_same ⟨_, rfl, ?_⟩
      rw [← e]
      exact tp_pairs fun y hy => (mt y (hperm.mem_iff.mp hy)).1
theorem dic_keys {kv : List (List Key × V)} {kvs : List (List Key × Slot)} (h : Paired (fun (p : List Key × V) (q : List Key × Slot) => p.1 = q.1 ∧ q.2.P F p.2) kv kvs) : kv.map (·.1) = kvs.map (·.1) := by
  induction h with
  | nil => rfl
  | cons p _ ih => rw [List.map_cons, List.map_cons, p.1, ih]
theorem dik_keys {kv : List (Key × V)} {kvs : List (Key × Slot)} (h : Paired (fun (p : Key × V) (q : Key × Slot) => p.1 = q.1 ∧ q.2.P F p.2) kv kvs) : kv.map (·.1) = kvs.map (·.1) := by
  induction h with
  | nil => rfl
  | cons p _ ih => rw [List.map_cons, List.map_cons, p.1, ih]
theorem eo_sortKT {kvs : List (List Key × Slot)} {L : List (List Int)} {d : Nat} (h : EvE te δ e1) (hr : IsR e1 (dicO kvs)) (hk : kvs.map (·.1) = L.map kx) (hd : 1 ≤ d) (hx : ∀ x ∈ L, TOk d x) : EvO (tCB (rSortJ K) (tCons te tNil)) δ (lstO ((sortT L).map tpS)) := fun F0 H0 F H σ s Q q =>
  h F0 H0 F H σ s _ fun v F1 H1 g1 a1 => by
    have s1 := s.grow g1
    obtain ⟨p, ho, rfl, hp, kv, rfl, pv⟩ := hr.get a1 g1.fh
    refine .inr (.inl ⟨p, kv, L, d, 64, rfl, .inl hp, (dic_keys pv).trans hk, hd, hx, fun ys g r hy hperm hs hr => ?_⟩)
    have hyF : ∀ y ∈ ys, (∃ t, y = .ref t ∧ F1 t = some (.tup ((fv F1 y).map V.int))) ∧ fv F1 y = g y := fun y hm => by
      obtain ⟨t, rfl, ht⟩ := hy y hm
      have ht1 := s1.tt t _ ht
      obtain ⟨_, e1, e2, e3⟩ := fv_of (tp_of ht1)
      rw [e3]
      exact ⟨⟨t, rfl, ht1⟩, rfl⟩
    have eg : ys.map (fv F1) = ys.map g := List.map_congr_left fun y hm => (hyF y hm).2
    have e : ys.map (fv F1) = sortT L := by
      rw [eg]
      exact sortT_uniq hx hperm (List.pairwise_map.mpr hs)
    refine q r _ F1 _ (g1.trans (Grow.newH g1.fh hr)) (g1.hh.free hr) (g1.fh.free hr) upd_same ⟨_, rfl, ?_⟩
    rw [← e]
    exact tp_pairs fun y hy => (hyF y hy).1
theorem eo_sortDI {kvs : List (Key × Slot)} {ks : List Int} (h : EvE te δ e1) (hr : IsR e1 (dikO kvs)) (hk : kvs.map (·.1) = ks.map Sum.inl) (hl : ks.length < 64) : EvO (tCB (rSortJ K) (tCons te tNil)) δ (lstO ((sortI ks).map iS)) := fun F0 H0 F H σ s Q q =>
  h F0 H0 F H σ s _ fun v F1 H1 g1 a1 => by
    obtain ⟨p, ho, rfl, hp, kv, rfl, pv⟩ := hr.get a1 g1.fh
    refine .inr (.inr ⟨p, kv, ks, rfl, .inl hp, (dik_keys pv).trans hk, hl, fun ys r hperm hs hr => ?_⟩)
    rw [sortI_uniq hperm hs]
    exact q r _ F1 _ (g1.trans (Grow.newH g1.fh hr)) (g1.hh.free hr) (g1.fh.free hr) upd_same ⟨_, rfl, PairS.ofk V.int _⟩
/-! ### dicts -/
theorem eo_newT : EvO tDNewT δ (dicO []) := fun F0 H0 F H σ s Q q => fun p hp => q p _ F _ (Grow.newH s.fh hp) hp (s.fh.free hp) upd_same ⟨[], rfl, .nil⟩
theorem eo_newK : EvO tDNewK δ (dikO []) := fun F0 H0 F H σ s Q q => fun p hp => q p _ F _ (Grow.newH s.fh hp) hp (s.fh.free hp) upd_same ⟨[], rfl, .nil⟩
theorem kx_V {x : List Int} : (kx x).map kV = x.map V.int := keys_of
theorem eo_disp1 {x : List Int} (hk : EvE tk δ (.v (tpS x))) (hv : EvE tv δ (.v S)) : EvO (tDisp1 tk tv) δ (dicO [(kx x, S)]) := fun F0 H0 F H σ s Q q => fun p hp => by
  have g0 : Grow F H F (upd H p (.dT [])) := Grow.newH s.fh hp
  have hf := s.fh.free hp
  refine hk F0 H0 F _ σ (s.grow g0) _ fun v F1 H1 g1 a1 => hv F0 H0 F1 H1 σ ((s.grow g0).grow g1) _ fun y F2 H2 g2 a2 => ?_
  have h1 : H1 p = some (.dT []) := g1.hh p _ upd_same
  have h2 : H2 p = some (.dT []) := g2.hh p _ h1
  have f1 : F1 p = none := g1.nw p (by rw [upd_same]; exact fun z => nomatch z) hf
  have f2 : F2 p = none := g2.nw p (by rw [h1]; exact fun z => nomatch z) f1
  obtain ⟨b, rfl, hb, _⟩ := fv_of a1
  refine ⟨h2, kx x, b, rfl, by rw [kx_V]; exact g2.hh b _ (g1.fh b _ hb), ?_⟩
  have gg := (g0.trans g1).trans g2
  refine q p _ F2 _ ⟨gg.ff, fun c u e => ?_, same_updR gg.fh f2, gg.nw, fun t => tt_upd (gg.tt t) (by intro _ h; cases h)⟩ hp f2 upd_same ⟨_, rfl, .cons ⟨rfl, a2⟩ .nil⟩
  rw [upd_ne (ne_of_none e hp)]
  exact gg.hh c u e
theorem find_keys {kv : List (List Key × V)} {kvs : List (List Key × Slot)} {k : List Key} (h : Paired (fun (p : List Key × V) (q : List Key × Slot) => p.1 = q.1 ∧ q.2.P F p.2) kv kvs) : match kvs.find? fun q => decide (q.1 = k) with
    | some q => ∃ v, valV kv k = some v ∧ q.2.P F v
    | none => valV kv k = none := by
  induction h with
  | nil => rfl
  | @cons p q ps qs hp t ih =>
    unfold valV at ih ⊢
    rw [List.find?_cons, List.find?_cons, hp.1]
    by_cases e : q.1 = k
    · rw [decide_eq_true e]
      exact ⟨p.2, rfl, hp.2⟩
    · rw [decide_eq_false e]
      exact ih
theorem some_keys {kv : List (List Key × V)} {k : List Key} : (valV kv k).isSome = true ↔ k ∈ kv.map (·.1) := by
  unfold valV
  rw [Option.isSome_map, List.find?_isSome]
  constructor
  · rintro ⟨p, hp, e⟩
    exact List.mem_map.mpr ⟨p, hp, of_decide_eq_true e⟩
  · intro h
    obtain ⟨p, hp, e⟩ := List.mem_map.mp h
    exact ⟨p, hp, decide_eq_true e⟩
theorem mem_kx {x : List Int} {L : List (List Int)} : kx x ∈ L.map kx ↔ x ∈ L := by
  constructor
  · intro h
    obtain ⟨y, hy, e⟩ := List.mem_map.mp h
    rw [← kx_inj e]
    exact hy
  · exact fun h => List.mem_map.mpr ⟨x, h, rfl⟩
theorem some_kx {kv : List (List Key × V)} {kvs : List (List Key × Slot)} {L : List (List Int)} {x : List Int} (h : Paired (fun (p : List Key × V) (q : List Key × Slot) => p.1 = q.1 ∧ q.2.P F p.2) kv kvs) (hk : kvs.map (·.1) = L.map kx) : (valV kv (kx x)).isSome = decide (x ∈ L) := by
  rw [Bool.eq_iff_iff, some_keys, dic_keys h, hk, mem_kx, decide_eq_true_iff]
theorem dget {x : List Int} {v y : V} {kvs : List (List Key × Slot)} (s : Same F H) (h1 : ArgOk F H v e1) (hr : IsR e1 (dicO kvs)) (h2 : (tpS x).P F y) : ∃ p kv, v = .ref p ∧ H p = some (.dT kv) ∧ Paired (fun (p : List Key × V) (q : List Key × Slot) => p.1 = q.1 ∧ q.2.P F p.2) kv kvs ∧ DGet H p y (valV kv (kx x)) := by
  obtain ⟨p, ho, rfl, hp, kv, rfl, pv⟩ := hr.get h1 s
  obtain ⟨b, rfl, hb, _⟩ := fv_of h2
  exact ⟨p, kv, rfl, hp, pv, DGet.t hp (by rw [kx_V]; exact s b _ hb)⟩
theorem ev_niDT {x : List Int} {L : List (List Int)} {kvs : List (List Key × Slot)} (ha : EvE ta δ (.v (tpS x))) (hb : EvE tb δ e1) (hr : IsR e1 (dicO kvs)) (hk : kvs.map (·.1) = L.map kx) : EvE (tNiJ K ta tb) δ (.v (bS (!decide (x ∈ L)))) := fun F0 H0 F H σ s Q q =>
  .inr (.inl (ha F0 H0 F H σ s _ fun y F1 H1 g1 a1 => hb F0 H0 F1 H1 σ (s.grow g1) _ fun v F2 H2 g2 a2 => by
    obtain ⟨p, kv, rfl, hp, pv, dg⟩ := dget g2.fh a2 hr ((tpS x).mono g2.ff a1)
    refine ⟨p, _, rfl, dg, ?_⟩
    rw [some_kx pv hk]
    exact q _ F2 H2 (g1.trans g2) rfl))
theorem ev_inDT {x : List Int} {L : List (List Int)} {kvs : List (List Key × Slot)} (ha : EvE ta δ (.v (tpS x))) (hb : EvE tb δ e1) (hr : IsR e1 (dicO kvs)) (hk : kvs.map (·.1) = L.map kx) : EvE (tInJ K ta tb) δ (.v (bS (decide (x ∈ L)))) := fun F0 H0 F H σ s Q q =>
  .inr (.inl (ha F0 H0 F H σ s _ fun y F1 H1 g1 a1 => hb F0 H0 F1 H1 σ (s.grow g1) _ fun v F2 H2 g2 a2 => by
    obtain ⟨p, kv, rfl, hp, pv, dg⟩ := dget g2.fh a2 hr ((tpS x).mono g2.ff a1)
    refine ⟨p, _, rfl, dg, ?_⟩
    rw [some_kx pv hk]
    exact q _ F2 H2 (g1.trans g2) rfl))
theorem ev_dget {x : List Int} {kvs : List (List Key × Slot)} {r : List Key × Slot} (ha : EvE ta δ e1) (hr : IsR e1 (dicO kvs)) (hb : EvE tb δ (.v (tpS x))) (hf : kvs.find? (fun q => decide (q.1 = kx x)) = some r) : EvE (tIx K ta tb) δ (.v r.2) := fun F0 H0 F H σ s Q q =>
  .inr (ha F0 H0 F H σ s _ fun v F1 H1 g1 a1 => hb F0 H0 F1 H1 σ (s.grow g1) _ fun y F2 H2 g2 a2 => by
    obtain ⟨p, kv, rfl, hp, pv, dg⟩ := dget g2.fh (a1.grow g2) hr a2
    have z := find_keys (k := kx x) pv
    rw [hf] at z
    obtain ⟨w, hw, pw⟩ := z
    rw [hw] at dg
    exact ⟨p, w, rfl, dg, q w F2 H2 (g1.trans g2) pw⟩)
/-- d[x] = .., x not yet in it -/
theorem q_dput {x : List Int} {L : List (List Int)} {kvs : List (List Key × Slot)} (s : St F0 H0 F H σ δ) (hi : δ[i]? = some (.ow (dicO kvs))) (hk : kvs.map (·.1) = L.map kx) (hn : x ∉ L) (hz : L.length < 100000) (h : EvE te δ (.v S)) (hb : EvE tb δ (.v (tpS x)))
    (k : ∀ σ' F' H', St F0 H0 F' H' σ' (δ.set i (.ow (dicO (kvs ++ [(kx x, S)])))) → tz D σ' H') : tSeq (sDPut (tVar i) tb te) tz D σ H := by
  refine h F0 H0 F H σ s _ fun v F1 H1 g1 a1 => ?_
  have s1 := s.grow g1
  obtain ⟨p, ho, e, hp, kv, rfl, pv⟩ := s1.loc hi
  refine ⟨.ref p, e, hb F0 H0 F1 H1 σ s1 _ fun y F2 H2 g2 a2 => ?_⟩
  obtain ⟨b, rfl, hb2, _⟩ := fv_of a2
  have hp2 := g2.hh p _ hp
  have hkl : kv.length = L.length := by
    have e := congrArg List.length ((dic_keys pv).trans hk)
    rw [List.length_map, List.length_map] at e
    exact e
  have hput : putK kv (kx x) v = kv ++ [(kx x, v)] := by
    unfold putK
    have e : (kv.any fun q => decide (q.1 = kx x)) = false := by
      rw [List.any_eq_false]
      intro q hq c
      have : kx x ∈ kv.map (·.1) := List.mem_map.mpr ⟨q, hq, of_decide_eq_true c⟩
      rw [dic_keys pv, hk] at this
      exact hn (mem_kx.mp this)
    rw [e, if_neg Bool.false_ne_true]
  refine ⟨p, _, rfl, DPut.t hp2 (by rw [kx_V]; exact g2.fh b _ hb2) (by rw [hkl]; exact sizeLt hz), ?_⟩
  rw [hput]
  exact k _ F2 _ ((s1.grow g2).mut hi e ⟨_, rfl, paired_snoc (Paired.mapP pv fun _ q z => ⟨z.1, q.2.mono g2.ff z.2⟩) ⟨rfl, S.mono g2.ff a1⟩⟩)
end
end J

namespace J
open PySem PySem.Spec L2 PyProof.Rows
theorem jo_isB {X : Cx} : OpR X (compareOp .Is) rIsB := op_isBl
theorem jo_isnotB {X : Cx} : OpR X (compareOp .IsNot) rNotB := op_notBl
section
variable {K : PySem.W.Frag} {F0 H0 F H : Hp} {σ : L2.St} {δ : List Ent} {te tb ta tk tv : TE} {tz : TS} {D : Ends} {i : Nat} {S : Slot} {e1 e2 : Ent}
theorem jv_isB {a b : Bool} : OpE rIsB (.v (bS a)) (.v (bS b)) (.v (bS (decide (a = b)))) := op_k fun _ _ q => ⟨a, b, rfl, rfl, q⟩
theorem jv_notB {a b : Bool} : OpE rNotB (.v (bS a)) (.v (bS b)) (.v (bS (!decide (a = b)))) := op_k fun _ _ q => ⟨a, b, rfl, rfl, q⟩
def tpD (x : List Int) : PyData := .tuple (x.map .int)
theorem eqv_tp (x y : List Int) : PyData.eqv (tpD x) (tpD y) = decide (x = y) := by
  unfold tpD
  rw [← eqvAll_ints]
  rfl
theorem any_tp (x : List Int) : ∀ L : List (List Int), ((L.map tpD).any fun z => PyData.eqv z (tpD x)) = decide (x ∈ L)
  | [] => rfl
  | y :: L => by
    rw [List.map_cons, List.any_cons, any_tp x L, eqv_tp]
    by_cases h : y = x
    · subst h
      rw [decide_eq_true rfl, Bool.true_or, decide_eq_true List.mem_cons_self]
    · rw [decide_eq_false h, Bool.false_or]
      congr 1
      rw [List.mem_cons]
      exact propext ⟨.inr, fun z => z.elim (fun z => absurd z.symm h) id⟩
theorem dat_tp {e : Ent} {x : List Int} (h : IsR e (tupO (x.map iS))) : Dat K e (tpD x) := dat_it h
theorem dat_ltp {e : Ent} {L : List (List Int)} (h : IsR e (lstO (L.map tpS))) : Dat K e (.list (L.map tpD)) := dat_itl h
/-- x in a list of tuples -/
theorem ev_inLT {x : List Int} {L : List (List Int)} (ha : EvE ta δ (.v (tpS x))) (hb : EvE tb δ e1) (hr : IsR e1 (lstO (L.map tpS))) : EvE (tInJ K ta tb) δ (.v (bS (decide (x ∈ L)))) := fun F0 H0 F H σ s Q q =>
  .inr (.inr (ev_op (r := rInD K) (e3 := .v (bS (decide (x ∈ L)))) ha hb (fun F H v y s a b Q q => by
    have h1 := dat_tp (K := K) (x := x) isR_v
    have h2 := dat_ltp (K := K) hr
    refine ⟨tpD x, L.map tpD, h1.to F H v s a, h2.to F H y s b, h1.sh, h2.sh, ?_⟩
    rw [any_tp]
    exact q _ F H (Grow.refl s) rfl) F0 H0 F H σ s Q q))
/-- d[n] = True, d a dict of ints that are all True -/
def addI (ks : List Int) (n : Int) : List Int := if n ∈ ks then ks else ks ++ [n]
abbrev setO (ks : List Int) : Own := dikO (ks.map fun n => ((Sum.inl n : Key), bS true))
theorem set_is {kv : List (Key × V)} {ks : List Int} (h : Paired (fun (p : Key × V) (q : Key × Slot) => p.1 = q.1 ∧ q.2.P F p.2) kv (ks.map fun n => ((Sum.inl n : Key), bS true))) : kv = ks.map fun n => ((Sum.inl n : Key), V.bl true) := by
  induction ks generalizing kv with
  | nil => cases h; rfl
  | cons a l ih =>
    cases h with
    | @cons p _ ps _ q t =>
      rw [ih t, List.map_cons]
      congr 1
      obtain ⟨x, y⟩ := p
      obtain ⟨h1, h2⟩ := q
      have h1 : x = Sum.inl a := h1
      have h2 : y = V.bl true := h2
      rw [h1, h2]
theorem is_set {ks : List Int} : Paired (fun (p : Key × V) (q : Key × Slot) => p.1 = q.1 ∧ q.2.P F p.2) (ks.map fun n => ((Sum.inl n : Key), V.bl true)) (ks.map fun n => ((Sum.inl n : Key), bS true)) := by
  induction ks with
  | nil => exact .nil
  | cons a l ih => exact .cons ⟨rfl, rfl⟩ ih
theorem put_set (ks : List Int) (n : Int) : putK (ks.map fun n => ((Sum.inl n : Key), V.bl true)) (Sum.inl n) (V.bl true) = (addI ks n).map fun n => ((Sum.inl n : Key), V.bl true) := by
  unfold putK addI
  have e : ((ks.map fun n => ((Sum.inl n : Key), V.bl true)).any fun kv => decide (kv.1 = Sum.inl n)) = decide (n ∈ ks) := by
    rw [List.any_map, Bool.eq_iff_iff, decide_eq_true_iff, List.any_eq_true]
    constructor
    · rintro ⟨x, hx, hh⟩
      have := Sum.inl.inj (of_decide_eq_true hh)
      rw [← this]
      exact hx
    · intro h
      exact ⟨n, h, decide_eq_true rfl⟩
  rw [e]
  by_cases h : n ∈ ks
  · rw [decide_eq_true h, if_pos rfl, if_pos h, List.map_map]
    apply List.map_congr_left
    intro x hx
    show (if (Sum.inl x : Key) = Sum.inl n then _ else _) = _
    split <;> rfl
  · rw [decide_eq_false h, if_neg Bool.false_ne_true, if_neg h, List.map_append]
    rfl
theorem q_dputB {ks : List Int} {n : Int} (s : St F0 H0 F H σ δ) (hi : δ[i]? = some (.ow (setO ks))) (hz : ks.length < 100000) (h : EvE te δ (.v (bS true))) (hb : EvE tb δ (.v (iS n)))
    (k : ∀ σ' F' H', St F0 H0 F' H' σ' (δ.set i (.ow (setO (addI ks n)))) → tz D σ' H') : tSeq (sDPut (tVar i) tb te) tz D σ H := by
  refine h F0 H0 F H σ s _ fun v F1 H1 g1 a1 => ?_
  have s1 := s.grow g1
  obtain ⟨p, ho, e, hp, kv, rfl, pv⟩ := s1.loc hi
  refine ⟨.ref p, e, hb F0 H0 F1 H1 σ s1 _ fun y F2 H2 g2 a2 => ?_⟩
  have hp2 := g2.hh p _ hp
  have ek := set_is pv
  subst ek
  have a1' : v = V.bl true := a1
  have a2' : y = V.int n := a2
  subst a1'
  subst a2'
  refine ⟨p, _, rfl, DPut.k (k := Sum.inl n) hp2 (by rw [List.length_map]; exact sizeLt hz), ?_⟩
  rw [put_set]
  exact k _ F2 _ ((s1.grow g2).mut hi e ⟨_, rfl, is_set⟩)
theorem set_keys {ks : List Int} : (ks.map fun n => ((Sum.inl n : Key), bS true)).map (·.1) = ks.map Sum.inl := by
  rw [List.map_map]
  rfl
end
end J

/-! pairs of own objects; loops over a dict; list(d) -/
namespace J
open PySem PySem.Spec L2 PyProof.Rows
section
variable {K : PySem.W.Frag} {F0 H0 F H : Hp} {σ : L2.St} {δ es : List Ent} {te tb ta tk tv : TE} {tr : TA} {tz tu : TS} {D : Ends} {i j i1 i2 : Nat} {S : Slot} {e1 e2 : Ent} {o o1 o2 : Own}
/-! ### a tuple of two own objects -/
def EvP (te : TE) (δ : List Ent) (o1 o2 : Own) : Prop := ∀ (F0 H0 F H : Hp) (σ : L2.St), St F0 H0 F H σ δ → ∀ Q : VK, (∀ t p1 p2 h1 h2 F' H', Grow F H F' H' → F' t = some (.tup [.ref p1, .ref p2]) → (H p1 = none ∧ H p2 = none) → (F' p1 = none ∧ F' p2 = none) → (H' p1 = some h1 ∧ H' p2 = some h2) → p1 ≠ p2 → (o1.P F' p1 h1 ∧ o2.P F' p2 h2) → Q (.ref t) H') → te σ H Q
theorem ep_call {R : Rel} {E : XK} (h : EvAs tr δ es) (hR : R es (.p o1 o2)) : EvP (tCall (SpOf R) [] E tr) δ o1 o2 := fun F0 H0 F H σ s Q q =>
  h F0 H0 F H σ s _ fun vs F1 H1 g1 a1 => ⟨F1, es, .p o1 o2, g1.fh, (s.grow g1).tt, pair_app a1, hR, fun t p1 p2 h1 h2 F' H' g ht hn hf hp hne z => q t p1 p2 h1 h2 F' H' (g1.trans g) ht ⟨g1.hh.free hn.1, g1.hh.free hn.2⟩ hf hp hne z⟩
theorem ev_ixP0 (h : EvP te δ o1 o2) (h0 : EvE tb δ (.v (iS 0))) : EvE (tIx K te tb) δ (.bo o1) := fun F0 H0 F H σ s Q q =>
  .inl (h F0 H0 F H σ s _ fun t p1 p2 h1 h2 F' H' g ht hn hf hp hne z => h0 F0 H0 F' H' σ (s.grow g) _ fun v F2 H2 g2 a2 => by
    have a2' : v = V.int 0 := a2
    subst a2'
    exact .inr (.inl ⟨t, [.ref p1, .ref p2], 0, .ref p1, rfl, rfl, SqT.of ((g2.fh t _ (g2.ff t _ ht))), atI_nat (xs := [V.ref p1, V.ref p2]) (j := 0) rfl, q _ F2 H2 (g.trans g2) ⟨p1, h1, rfl, g2.hh p1 _ hp.1, o1.mono g2.ff z.1⟩⟩))
/-- one more own object, that no slot holds yet -/
theorem St.put (s : St F0 H0 F H σ δ) {p : Addr} {ho : HO} (h0 : H0 p = none) (hf : F p = none) (hp : H p = some ho) (q : o.P F p ho) (away : ∀ {m : Nat} {o3 : Own}, δ[m]? = some (.ow o3) → σ[m]? = some (some (V.ref p)) → False) (away2 : ∀ {m : Nat} {C : Addr} {fs : List (Str × Own)}, δ[m]? = some (.ni C fs) → NiA F σ m p → False) :
    St F0 H0 F H (σ.set i (some (.ref p))) (δ.set i (.ow o)) where
  g := s.g
  tt := s.tt
  ni := fun k C fs h => by
    rcases get_set h with ⟨rfl, e, hl⟩ | ⟨ne, h⟩
    · cases e
    · obtain ⟨p, dx, fv, e, q⟩ := s.ni k C fs h
      exact ⟨p, dx, fv, by rw [List.getElem?_set_ne (fun z => ne z.symm)]; exact e, q⟩
  sepn := fun k j o2 a C fs h1 h2 h3 h4 => by
    rcases get_set h1 with ⟨_, e, hl⟩ | ⟨ne1, g1⟩
    · cases e
    · have g3 := h3.unset fun z => ne1 z.symm
      rcases get_set h2 with ⟨z2, e, hl⟩ | ⟨ne2, g2⟩
      · rw [z2, List.getElem?_set_self (by rw [s.len]; exact hl)] at h4
        have ea : p = a := by cases h4; rfl
        rw [← ea] at g3
        exact away2 g1 g3
      · rw [List.getElem?_set_ne (fun z => ne2 z.symm)] at h4
        exact s.sepn k j o2 a C fs g1 g2 g3 h4
  len := by rw [List.length_set, List.length_set]; exact s.len
  at_ := fun m S' h => by
    rcases get_set h with ⟨rfl, e', hl⟩ | ⟨ne, h⟩
    · cases e'
    · obtain ⟨w, e', q⟩ := s.at_ m S' h
      exact ⟨w, by rw [List.getElem?_set_ne (fun z => ne z.symm)]; exact e', q⟩
  ow := fun m o' h => by
    rcases get_set h with ⟨rfl, e', hl⟩ | ⟨ne, h⟩
    · cases e'
      exact ⟨p, ho, List.getElem?_set_self (by rw [s.len]; exact hl), h0, hf, hp, q⟩
    · obtain ⟨w, ho', e', q⟩ := s.ow m o' h
      exact ⟨w, ho', by rw [List.getElem?_set_ne (fun z => ne z.symm)]; exact e', q⟩
  bo := fun m o' h => by
    rcases get_set h with ⟨rfl, e', hl⟩ | ⟨ne, h⟩
    · cases e'
    · obtain ⟨w, ho', e', q⟩ := s.bo m o' h
      exact ⟨w, ho', by rw [List.getElem?_set_ne (fun z => ne z.symm)]; exact e', q⟩
  sep := fun m l o3 o4 a ne h1 h2 h3 h4 => by
    rcases get_set h1 with ⟨z1, e1', l1⟩ | ⟨n1, g1⟩
    · rcases get_set h2 with ⟨z2, e2', l2⟩ | ⟨n2, g2⟩
      · exact ne (z1.trans z2.symm)
      · rw [z1, List.getElem?_set_self (by rw [s.len]; exact l1)] at h3
        rw [List.getElem?_set_ne (fun z => n2 z.symm)] at h4
        cases h3
        exact away g2 h4
    · rw [List.getElem?_set_ne (fun z => n1 z.symm)] at h3
      rcases get_set h2 with ⟨z2, e2', l2⟩ | ⟨n2, g2⟩
      · rw [z2, List.getElem?_set_self (by rw [s.len]; exact l2)] at h4
        cases h4
        exact away g1 h3
      · rw [List.getElem?_set_ne (fun z => n2 z.symm)] at h4
        exact s.sep m l o3 o4 a ne g1 g2 h3 h4
theorem q_tup2P (s : St F0 H0 F H σ δ) (h : EvP te δ o1 o2) (hi : i1 < δ.length) (k : ∀ σ' F' H', St F0 H0 F' H' σ' ((δ.set i1 (.ow o1)).set i2 (.ow o2)) → tz D σ' H') :
    tSeq (tAsg te (gTup K 2 (gCons (gName i1) (gCons (gName i2) gNil)))) tz D σ H := by
  refine h F0 H0 F H σ s _ fun t p1 p2 h1 h2 F' H' g ht hn hf hp hne z => ?_
  have s1 := s.set_ow (i := i1) g hn.1 hf.1 hp.1 z.1
  have s2 := s1.put (i := i2) (s.g.hh.free hn.2) hf.2 hp.2 z.2 (fun {m o3} h5 h6 => by
    by_cases e : m = i1
    · subst e
      rw [List.getElem?_set_self (by rw [s.len]; exact hi)] at h6
      cases h6
      exact hne rfl
    · rw [List.getElem?_set_ne (fun z => e z.symm)] at h5 h6
      obtain ⟨p, ho, e1, _, _, e2, _⟩ := s.ow m o3 h5
      rw [h6] at e1
      cases e1
      rw [hn.2] at e2
      cases e2) fun {m C fs} h5 h6 => by
    rcases get_set h5 with ⟨rfl, e, _⟩ | ⟨ne, h5⟩
    · cases e
    · have h6 := h6.unset fun z => ne z.symm
      obtain ⟨p', dx, fv, e', hp', nd, z'⟩ := s.ni m C fs h5
      obtain ⟨_, _, ho, hh⟩ := s.niA h5 (h6.back g.ff e' hp')
      rw [hn.2] at hh
      cases hh
  exact ⟨t, _, rfl, SqT.of (g.fh t _ ht |> fun _ => s1.fh t _ ht), rfl, _, _, rfl, _, _, rfl, rfl, k _ F' H' s2⟩
/-- return (a, b), both own -/
theorem q_retP (s : St F0 H0 F H σ δ) (h1 : δ[i1]? = some (.ow o1)) (h2 : δ[i2]? = some (.ow o2)) (hne : i1 ≠ i2)
    (k : ∀ t p1 p2 h1 h2 F' H', Grow F0 H0 F' H' → F' t = some (.tup [.ref p1, .ref p2]) → (H0 p1 = none ∧ H0 p2 = none) → (F' p1 = none ∧ F' p2 = none) → (H' p1 = some h1 ∧ H' p2 = some h2) → p1 ≠ p2 → (o1.P F' p1 h1 ∧ o2.P F' p2 h2) → D.rt (.ref t) H') :
    tSeq (tRet (tTup (tCons (tVar i1) (tCons (tVar i2) tNil)))) tz D σ H := by
  obtain ⟨p1, x1, e1, z1, f1, hp1, q1⟩ := s.ow i1 o1 h1
  obtain ⟨p2, x2, e2, z2, f2, hp2, q2⟩ := s.ow i2 o2 h2
  refine ⟨.ref p1, e1, .ref p2, e2, Nat.le_trans (by decide : 2 ≤ 100000) (by decide), fun t ht => ?_⟩
  have g := Grow.newF (o := .tup [.ref p1, .ref p2]) s.fh ht
  have n1 : p1 ≠ t := fun e => by rw [e, ht] at hp1; cases hp1
  have n2 : p2 ≠ t := fun e => by rw [e, ht] at hp2; cases hp2
  exact k t p1 p2 x1 x2 _ _ (s.g.trans g) upd_same ⟨z1, z2⟩ ⟨by rw [upd_ne n1]; exact f1, by rw [upd_ne n2]; exact f2⟩ ⟨by rw [upd_ne n1]; exact hp1, by rw [upd_ne n2]; exact hp2⟩
    (fun e => s.sep i1 i2 o1 o2 p1 hne h1 h2 e1 (by rw [e]; exact e2)) ⟨o1.mono g.ff q1, o2.mono g.ff q2⟩

/-! ### a dict, locked -/
abbrev PK (F : Hp) (kv : List (List Key × V)) (kvs : List (List Key × Slot)) : Prop := Paired (fun (p : List Key × V) (q : List Key × Slot) => p.1 = q.1 ∧ q.2.P F p.2) kv kvs
theorem PK.mono {F F' : Hp} {kv : List (List Key × V)} {kvs : List (List Key × Slot)} (s : Same F F') (h : PK F kv kvs) : PK F' kv kvs := Paired.mapP h fun _ q z => ⟨z.1, q.2.mono s z.2⟩
def dicL (d : Addr) (od : Obj) (kv : List (List Key × V)) (kvs : List (List Key × Slot)) : Own := ⟨fun F a ho => a = d ∧ ho = .frz od (.dT kv) ∧ PK F kv kvs, fun s h => ⟨h.1, h.2.1, PK.mono s h.2.2⟩⟩
/-- what a locked loop leaves behind -/
def NXL (F0 H0 : Hp) (i : Nat) (lk : Own) (I : List Ent → Prop) : L2.St → Hp → Prop := fun σ H => ∃ F δ, St F0 H0 F H σ (δ.set i (.ow lk)) ∧ I δ
theorem q_nxL {I : List Ent → Prop} {lk : Own} {rt : VK} {bk ct : L2.St → Hp → Prop} {δ' : List Ent} (s : St F0 H0 F H σ δ') (δ : List Ent) (e : δ' = δ.set i (.ow lk)) (h : I δ) : tNext ⟨NXL F0 H0 i lk I, rt, bk, ct⟩ σ H := ⟨F, δ, e ▸ s, h⟩
theorem St.unlock {d : Addr} {od : Obj} {kv : List (List Key × V)} {kvs : List (List Key × Slot)} (s : St F0 H0 F H σ δ) (hi : δ[i]? = some (.ow (dicL d od kv kvs))) : H d = some (.frz od (.dT kv)) ∧ St F0 H0 F (upd H d (.dT kv)) σ (δ.set i (.ow (dicO kvs))) := by
  obtain ⟨p, ho, e, h0, hf, hp, rfl, rfl, pk⟩ := s.ow i _ hi
  exact ⟨hp, s.mut (o' := dicO kvs) hi e ⟨kv, rfl, pk⟩⟩
theorem keys_len {kv : List (List Key × V)} {kvs : List (List Key × Slot)} {L : List (List Int)} (pk : PK F kv kvs) (hk : kvs.map (·.1) = L.map kx) : kv.length = L.length := by
  have e := congrArg List.length ((dic_keys pk).trans hk)
  rw [List.length_map, List.length_map] at e
  exact e
theorem key_at {kv : List (List Key × V)} {kvs : List (List Key × Slot)} {L : List (List Int)} (pk : PK F kv kvs) (hk : kvs.map (·.1) = L.map kx) {n : Nat} {k : List Key} {v : V} (h : kv[n]? = some (k, v)) : ∃ x, L[n]? = some x ∧ k = kx x := by
  have e : (kv.map (·.1))[n]? = some k := by rw [List.getElem?_map, h]; rfl
  rw [dic_keys pk, hk, List.getElem?_map] at e
  cases q : L[n]? with
  | none => rw [q] at e; cases e
  | some x => rw [q] at e; exact ⟨x, rfl, (Option.some.inj e).symm⟩
/-- for x in d: the body may leave by a return -/
theorem q_forD {kvs : List (List Key × Slot)} {L : List (List Int)} (s : St F0 H0 F H σ δ) (hi : δ[i]? = some (.ow (dicO kvs))) (hk : kvs.map (·.1) = L.map kx) (hij : i ≠ j) (I : Nat → List Ent → Prop) (h0 : I 0 δ) (hI : ∀ n δ', I n δ' → δ'[i]? = some (.ow (dicO kvs)))
    (hs : ∀ d od kv F1, Base F0 H0 F1 → ∀ n x δ' σ' F' H', L[n]? = some x → I n δ' → St F1 H0 F' H' σ' ((δ'.set i (.ow (dicL d od kv kvs))).set j (.v (tpS x))) →
      tu ⟨NXL F1 H0 i (dicL d od kv kvs) (I (n + 1)), fun v H' => H' d = some (.frz od (.dT kv)) ∧ D.rt v (upd H' d (.dT kv)), fun σ' H' => H' d = some (.frz od (.dT kv)) ∧ tz D σ' (upd H' d (.dT kv)), NXL F1 H0 i (dicL d od kv kvs) (I (n + 1))⟩ σ' H')
    (hd : ∀ δ' σ' F' H', I L.length δ' → St F0 H0 F' H' σ' δ' → tz D σ' H') : tSeq (tLock (tFor (iAny K (tVar i)) (gName j) tu)) tz D σ H := by
  obtain ⟨d, ho, e, z0, zf, hp, kv, rfl, pk⟩ := s.ow i _ hi
  have hl := keys_len pk hk
  refine ⟨d, .dT kv, hp, trivial, fun od => ?_⟩
  have s1 : St F0 H0 F (upd H d (.frz od (.dT kv))) σ (δ.set i (.ow (dicL d od kv kvs))) := s.mut hi e ⟨rfl, rfl, pk⟩
  have b1 : Base F0 H0 F := fun g => s1.base g
  refine .inr (.inr ⟨.ref d, e, d, od, rfl, .inr ⟨kv, upd_same, ?_⟩⟩)
  refine ⟨fun n m σ' H' => m = L.length - n ∧ n ≤ L.length ∧ NXL F H0 i (dicL d od kv kvs) (I n) σ' H', ⟨L.length, by simp, Nat.zero_le _, F, δ, s1.rebase, h0⟩, ?_⟩
  rintro n m σ' H' ⟨rfl, hn, F', δ', s', hI'⟩
  have hi' : (δ'.set i (.ow (dicL d od kv kvs)))[i]? = some (.ow (dicL d od kv kvs)) := List.getElem?_set_self (List.getElem?_eq_some_iff.mp (hI n δ' hI')).1
  obtain ⟨hfr, su⟩ := s'.unlock hi'
  rw [List.set_set] at su
  by_cases hlt : n < L.length
  · refine .inr ⟨⟨hfr, by omega⟩, NXL F H0 i (dicL d od kv kvs) (I (n + 1)), fun σ2 H2 h2 => ⟨L.length - (n + 1), by omega, rfl, hlt, h2⟩, ?_⟩
    rintro x H2 ⟨rfl, k, v, q, hkv, rfl, hq⟩
    obtain ⟨y, hy, rfl⟩ := key_at pk hk hkv
    rw [kx_V] at hq
    refine hs d od kv F b1 n y δ' _ F' _ hy hI' (s'.set_v (tp_of (s'.tt q _ hq)))
  · have en : n = L.length := by omega
    subst en
    refine .inl ⟨⟨hfr, by omega⟩, hfr, ?_⟩
    have e2 : δ'.set i (.ow (dicO kvs)) = δ' := by
      have hh := hI _ δ' hI'
      obtain ⟨hlt, e3⟩ := List.getElem?_eq_some_iff.mp hh
      rw [← e3]
      exact List.set_getElem_self hlt
    rw [e2] at su
    exact hd δ' σ' F' _ hI' (su.unbase b1)
/-- return, out of a loop over a dict -/
theorem q_retL {F1 : Hp} {d : Addr} {od : Obj} {kv : List (List Key × V)} {kvs : List (List Key × Slot)} {nx bk ct : L2.St → Hp → Prop} {rt : VK} (s : St F1 H0 F H σ δ) (bs : Base F0 H0 F1) (hi : δ[i]? = some (.ow (dicL d od kv kvs))) (h : EvE te δ (.v S)) (k : ∀ v F' H', Grow F0 H0 F' H' → S.P F' v → rt v H') :
    tSeq (tRet te) tz ⟨nx, fun v H' => H' d = some (.frz od (.dT kv)) ∧ rt v (upd H' d (.dT kv)), bk, ct⟩ σ H := by
  refine h F1 H0 F H σ s _ fun v F' H' g a => ?_
  obtain ⟨hfr, su⟩ := (s.grow g).unlock hi
  exact ⟨hfr, k v F' _ (bs su.g) a⟩
/-- d[x], d locked -/
theorem ev_dgetL {x : List Int} {d : Addr} {od : Obj} {kv : List (List Key × V)} {kvs : List (List Key × Slot)} {r : List Key × Slot} (hi : δ[i]? = some (.ow (dicL d od kv kvs))) (hb : EvE tb δ (.v (tpS x))) (hf : kvs.find? (fun q => decide (q.1 = kx x)) = some r) : EvE (tIx K (tVar i) tb) δ (.v r.2) := fun F0 H0 F H σ s Q q =>
  .inr (by
    obtain ⟨p, ho, e, _, _, hp, rfl, rfl, pk⟩ := s.ow i _ hi
    refine ⟨.ref p, e, hb F0 H0 F H σ s _ fun y F2 H2 g2 a2 => ?_⟩
    obtain ⟨b, rfl, hb2, _⟩ := fv_of a2
    have z := find_keys (k := kx x) (pk.mono g2.ff)
    rw [hf] at z
    obtain ⟨w, hw, pw⟩ := z
    exact ⟨p, w, rfl, .inr ⟨kv, kx x, b, .inr ⟨od, g2.hh p _ hp⟩, rfl, by rw [kx_V]; exact g2.fh b _ hb2, hw.symm⟩, q w F2 H2 g2 pw⟩)
/-- [te for j in d], d locked -/
theorem eo_lcD {d : Addr} {od : Obj} {kv : List (List Key × V)} {kvs : List (List Key × Slot)} {L : List (List Int)} (f : List Int → Slot) (hi : δ[i]? = some (.ow (dicL d od kv kvs))) (hk : kvs.map (·.1) = L.map kx) (hz : L.length ≤ 40000) (he : ∀ x ∈ L, EvE te (δ.set j (.v (tpS x))) (.v (f x))) :
    EvO (tLc (iAny K (tVar i)) (gName j) tYes te [j]) δ (lstO (L.map f)) := fun F0 H0 F H σ s Q q => by
  obtain ⟨p, ho, e, _, _, hp, rfl, rfl, pk⟩ := s.ow i _ hi
  have hl := keys_len pk hk
  refine .inr (.inr ⟨.ref p, e, p, od, rfl, .inr ⟨kv, hp, fun Dl hD => ?_⟩⟩)
  refine ⟨fun n m H' => m = L.length - n ∧ n ≤ L.length ∧ LcI F H Dl ((L.take n).map f) H', ⟨L.length, by simp, Nat.zero_le _, LcI.start s.fh hD⟩, ?_⟩
  rintro n m H' ⟨rfl, hn, hI⟩
  obtain ⟨F', acc, g, hf', hp', pa⟩ := id hI
  have hfr := g.hh p _ hp
  by_cases hlt : n < L.length
  · refine .inr ⟨⟨hfr, by omega⟩, LcI F H Dl ((L.take (n + 1)).map f), fun H2 h2 => ⟨L.length - (n + 1), by omega, rfl, hlt, h2⟩, ?_⟩
    rintro x H2 ⟨rfl, k, v, a, hkv, rfl, hq⟩
    obtain ⟨y, hy, rfl⟩ := key_at pk hk hkv
    rw [kx_V] at hq
    have hm := List.mem_of_getElem? hy
    refine ⟨wipe1, lc_turn (b := true) (T := tpS y) (S := f y) (ss := (L.take n).map f) s hD (by rw [List.length_map, List.length_take]; omega) (fun F2 g2 => tp_of (g2.tt s.tt a _ hq)) hI et_yes (fun _ => he y hm) fun H3 z => ?_⟩
    rw [if_pos rfl] at z
    rw [List.take_add_one, hy, List.map_append]
    exact z
  · have en : n = L.length := by omega
    subst en
    rw [List.take_length] at pa
    exact .inl ⟨⟨hfr, by omega⟩, q Dl _ F' H' g hD hf' hp' ⟨acc, rfl, pa⟩⟩
/-! ### list(d) -/
def rListDT : List V → Hp → VK → Prop := fun xs H Q => ∃ d kvs, xs = [V.ref d] ∧ Rd H d (.dT kvs) ∧ ∀ p bs, H p = none → IsKeys H kvs bs → Q (.ref p) (upd H p (.lst (bs.map V.ref)))
def rLstW (K : PySem.W.Frag) : List V → Hp → VK → Prop := fun xs H Q => rLstJ K xs H Q ∨ rListDT xs H Q
theorem kc_listW {X : Cx} (hK : X.K = K) (hc : X.calm = true) : CallR X (.type "list") (rLstW K) := CallR.or (kc_list hK) (call_list_dT hc)
theorem keys_slots (tt : TupIn F H) {kv : List (List Key × V)} {bs : List Addr} (hb : IsKeys H kv bs) : ∀ {L : List (List Int)}, kv.map (·.1) = L.map kx → PairS F (bs.map V.ref) (L.map tpS) := by
  unfold IsKeys at hb
  induction hb with
  | nil =>
    intro L hk
    cases L with
    | nil => exact .nil
    | cons _ _ => cases hk
  | @cons a b as bs' h t ih =>
    intro L hk
    cases L with
    | nil => cases hk
    | cons x L =>
      rw [List.map_cons, List.map_cons] at hk
      obtain ⟨h1, h2⟩ := List.cons.inj hk
      rw [h1, kx_V] at h
      exact .cons (tp_of (tt b _ h)) (ih h2)
theorem eo_listD {kvs : List (List Key × Slot)} {L : List (List Int)} (h : EvE te δ e1) (hr : IsR e1 (dicO kvs)) (hk : kvs.map (·.1) = L.map kx) : EvO (tCB (rLstW K) (tCons te tNil)) δ (lstO (L.map tpS)) := fun F0 H0 F H σ s Q q =>
  h F0 H0 F H σ s _ fun v F1 H1 g1 a1 => by
    have s1 := s.grow g1
    obtain ⟨p, ho, rfl, hp, kv, rfl, pk⟩ := hr.get a1 g1.fh
    exact .inr ⟨p, kv, rfl, .inl hp, fun r bs hr hb => q r _ F1 _ (g1.trans (Grow.newH g1.fh hr)) (g1.hh.free hr) (g1.fh.free hr) upd_same ⟨_, rfl, keys_slots s1.tt hb ((dic_keys pk).trans hk)⟩⟩
end
end J

/-! list(range(a, b, c)) -/
namespace J
open PySem PySem.Spec L2 PyProof.Rows
def tLstRg3 (ta : TA) : TE := fun σ H Q => ta σ H fun vs H1 => ∃ (i j c : Int) (n : Nat), vs = [.int i, .int j, .int c] ∧ RgC i j c n ∧ n ≤ 100000 ∧ ∀ q, H1 q = none → Q (.ref q) (upd H1 q (.lst ((List.range n).map fun k : Nat => V.int (i + (k : Int) * c))))
theorem pe_listRg3 {X : Cx} {a b c : Expr} {ta : TA} {p pos p2 pos2 : Pos} (hcm : X.calm = true) (hg : Gl X "list") (hm : X.mg "list" = none) (hg2 : Gl X "range") (hm2 : X.mg "range" = none) (ha : PA X [a, b, c] ta)
    (na : starEach [Expr.Call (.Name "range" p2) [a, b, c] [] pos2] X.env = (false, eval (Expr.Call (.Name "range" p2) [a, b, c] [] pos2) X.env) :: starEach [] X.env := by rfl)
    (hs : starEach [a, b, c] X.env = (false, eval a X.env) :: starEach [b, c] X.env := by rfl) (hpl : (backTo pos2 (starEach [b, c] X.env)).any (·.1) = false := by rfl) :
    PE X (.Call (.Name "list" p) [.Call (.Name "range" p2) [a, b, c] [] pos2] [] pos) (tLstRg3 ta) := by
  refine ⟨fun pins s σ H Q I h => ?_⟩
  have key : wpAny (model X.prog X.w) X.A (eval (Expr.Call (.Name "range" p2) [a, b, c] [] pos2) X.env) (fun x s' => ∃ r i j k t u v n H', x = .ref r ∧ IsRange s'.heap r i j k t u v ∧ Inv X pins σ H' s' ∧ RgC i j k n ∧ n ≤ 100000 ∧ ∀ q, H' q = none → Q (.ref q) (upd H' q (.lst ((List.range n).map fun m : Nat => V.int (i + (m : Int) * k))))) X.xe s := by
    refine Call_ (ld_blt I hg2 hm2 boot_range (PyProof.Rows.callWith_type1 (thn (ha.run pos2 pins s σ H _ I h) fun us s1 ⟨vs, H1, I1, r1, q1⟩ => ?_) hs hpl))
    obtain ⟨i, j, k, n, e, ⟨c0, c1, c2, c3⟩, hn, q⟩ := q1
    subst e
    cases r1 with
    | cons r rr =>
      cases rr with
      | cons r' rr =>
        cases rr with
        | cons r'' rr =>
          cases rr
          obtain ⟨t, rfl⟩ := r
          obtain ⟨t', rfl⟩ := r'
          obtain ⟨t'', rfl⟩ := r''
          refine call_range_3 c0 ?_ (.inl (PyProof.noPylong_small c1))
          exact ⟨_, i, j, k, _, _, _, n, H1, rfl, IsRange.new _ _ _ _ _ _ _, I1.kept fun b u e => Heap.get?_push_of_some _ e, ⟨c0, c1, c2, c3⟩, hn, q⟩
  refine Call_ (ld_blt I hg hm boot_list (PyProof.Rows.callWith_type1 (args_cons (thn key fun x s1 ⟨r, i, j, k, t, u, v, n, H1, ex, hr, I1, ⟨c0, c1, c2, c3⟩, hn, q⟩ => args_nil ?_) na) na))
  subst ex
  refine call_list_range (n := n) (I1.ok.hd hcm) hr c2 (by rw [c3]) (by omega) fun h' tk acc c' hk e' hi => ?_
  have hl : acc.toList.length = n := by rw [Array.length_toList]; exact hi.1
  have hv : Vals ((List.range n).map fun m : Nat => V.int (i + (m : Int) * k)) acc.toList := by
    rw [← hl]
    refine vals_of_get acc.toList _ fun m u hm => ?_
    obtain ⟨t, rfl⟩ := hi.2 m u (by rw [← hm, Array.getElem?_toList])
    exact ⟨t, rfl⟩
  refine ⟨.ref s1.heap.objs.size, upd H1 s1.heap.objs.size (.lst ((List.range n).map fun m : Nat => V.int (i + (m : Int) * k))), I1.laid hk (Nat.le_refl _) (show ObjOk X.prog X.w _ _ _ (.lst ((List.range n).map fun m : Nat => V.int (i + (m : Int) * k))) from ⟨?_, acc.toList, c', hv, ?_⟩), rfl, q _ (I1.hok.fresh (Nat.le_refl _))⟩
  · rw [List.length_map, List.length_range, sizeLine_eq]; omega
  · rw [Array.toArray_toList]; exact e'
theorem eo_listRg3 {ta : TA} {δ : List Ent} {i j c : Int} {n : Nat} (h : EvAs ta δ [.v (iS i), .v (iS j), .v (iS c)]) (hr : RgC i j c n) (hn : n ≤ 100000) : EvO (tLstRg3 ta) δ (lstO (((List.range n).map fun k : Nat => i + (k : Int) * c).map iS)) := fun F0 H0 F H σ s Q q =>
  h F0 H0 F H σ s _ fun vs F1 H1 g1 a1 => by
    have e : vs = [.int i, .int j, .int c] := by
      cases a1 with
      | cons p1 t => cases t with
        | cons p2 t => cases t with
          | cons p3 t => cases t with
            | nil =>
              have p1 : _ = V.int i := p1
              have p2 : _ = V.int j := p2
              have p3 : _ = V.int c := p3
              rw [p1, p2, p3]
    refine ⟨i, j, c, n, e, hr, hn, fun r hr => q r _ F1 _ (g1.trans (Grow.newH g1.fh hr)) (g1.hh.free hr) (g1.fh.free hr) upd_same ⟨_, rfl, ?_⟩⟩
    have z := PairS.ofk (F := F1) V.int ((List.range n).map fun k : Nat => i + (k : Int) * c)
    rw [List.map_map] at z
    exact z
end J

/-! instances whose fields are own objects -/
namespace J
open PySem PySem.Spec L2 PyProof.Rows
section
variable {K : PySem.W.Frag} {F0 H0 F H F' H' : Hp} {σ : L2.St} {δ es : List Ent} {te tb ta : TE} {tr : TA} {tz : TS} {D : Ends} {i j : Nat} {S : Slot} {e1 : Ent} {o o' : Own} {C : Addr} {fs : List (Str × Own)} {f : Str}
def EvN (te : TE) (δ : List Ent) (C : Addr) (fs : List (Str × Own)) : Prop := ∀ (F0 H0 F H : Hp) (σ : L2.St), St F0 H0 F H σ δ → ∀ Q : VK, (∀ p dx fv F' H', Grow F H F' H' → F' p = some (.ins C dx fv) → (fv.map (·.2)).Nodup → NiF H F' H' fv fs → Q (.ref p) H') → te σ H Q
theorem NiF.back {fv : List (Str × V)} (s : Same H0 H) (h : NiF H F' H' fv fs) : NiF H0 F' H' fv fs := Paired.mapP h fun _ b ⟨e, q, ho, e1, h0, hf, hp, z⟩ => ⟨e, q, ho, e1, s.free h0, hf, hp, z⟩
theorem en_call {R : Rel} {E : XK} (h : EvAs tr δ es) (hR : R es (.n C fs)) : EvN (tCall (SpOf R) [] E tr) δ C fs := fun F0 H0 F H σ s Q q =>
  h F0 H0 F H σ s _ fun vs F1 H1 g1 a1 => ⟨F1, es, .n C fs, g1.fh, (s.grow g1).tt, pair_app a1, hR, fun p dx fv F' H' g hp nd z => q p dx fv F' H' (g1.trans g) hp nd (z.back g1.hh)⟩
theorem St.set_ni (s : St F0 H0 F H σ δ) (g : Grow F H F' H') {p dx : Addr} {fv : List (Str × V)} (hp : F' p = some (.ins C dx fv)) (nd : (fv.map (·.2)).Nodup) (z : NiF H F' H' fv fs) : St F0 H0 F' H' (σ.set i (some (.ref p))) (δ.set i (.ni C fs)) where
  g := s.g.trans g
  tt := g.tt s.tt
  len := by rw [List.length_set, List.length_set]; exact s.len
  at_ := fun j S' h => by
    rcases get_set h with ⟨_, e, _⟩ | ⟨ne, h⟩
    · cases e
    · obtain ⟨w, e, q⟩ := (s.grow g).at_ j S' h
      exact ⟨w, by rw [List.getElem?_set_ne (fun z => ne z.symm)]; exact e, q⟩
  ow := fun j o' h => by
    rcases get_set h with ⟨_, e, _⟩ | ⟨ne, h⟩
    · cases e
    · obtain ⟨w, ho, e, q⟩ := (s.grow g).ow j o' h
      exact ⟨w, ho, by rw [List.getElem?_set_ne (fun z => ne z.symm)]; exact e, q⟩
  bo := fun j o h => by
    rcases get_set h with ⟨_, e, _⟩ | ⟨ne, h⟩
    · cases e
    · obtain ⟨w, ho, e, q⟩ := (s.grow g).bo j o h
      exact ⟨w, ho, by rw [List.getElem?_set_ne (fun z => ne z.symm)]; exact e, q⟩
  sep := fun j k o1 o2 a ne h1 h2 h3 h4 => by
    rcases get_set h1 with ⟨_, e, _⟩ | ⟨ne1, g1⟩
    · cases e
    · rcases get_set h2 with ⟨_, e, _⟩ | ⟨ne2, g2⟩
      · cases e
      · rw [List.getElem?_set_ne (fun z => ne1 z.symm)] at h3
        rw [List.getElem?_set_ne (fun z => ne2 z.symm)] at h4
        exact s.sep j k o1 o2 a ne g1 g2 h3 h4
  ni := fun k C' fs' h => by
    rcases get_set h with ⟨z1, e, hl⟩ | ⟨ne, g1⟩
    · cases e
      exact ⟨p, dx, fv, by rw [z1]; exact List.getElem?_set_self (by rw [s.len]; exact hl), hp, nd, z.back s.g.hh⟩
    · obtain ⟨p', dx', fv', e, q⟩ := (s.grow g).ni k C' fs' g1
      exact ⟨p', dx', fv', by rw [List.getElem?_set_ne (fun z => ne z.symm)]; exact e, q⟩
  sepn := fun k j o a C' fs' h1 h2 h3 h4 => by
    rcases get_set h2 with ⟨_, e, _⟩ | ⟨ne2, g2⟩
    · cases e
    · rw [List.getElem?_set_ne (fun z => ne2 z.symm)] at h4
      rcases get_set h1 with ⟨z1, e, hl⟩ | ⟨ne1, g1⟩
      · obtain ⟨p', C2, dx', fv', e', hp', hm⟩ := h3
        rw [z1, List.getElem?_set_self (by rw [s.len]; exact hl)] at e'
        cases e'
        rw [hp] at hp'
        cases hp'
        have hH := (z.mem hm).1
        obtain ⟨w, ho, e2, _, _, hw, _⟩ := s.ow j o g2
        rw [h4] at e2
        cases e2
        rw [hH] at hw
        cases hw
      · exact (s.grow g).sepn k j o a C' fs' g1 g2 (h3.unset fun z => ne1 z.symm) h4
theorem q_setN (s : St F0 H0 F H σ δ) (h : EvN te δ C fs) (k : ∀ σ' F' H', St F0 H0 F' H' σ' (δ.set i (.ni C fs)) → tz D σ' H') : tSeq (tAsg te (gName i)) tz D σ H :=
  h F0 H0 F H σ s _ fun p dx fv F' H' g hp nd z => k _ F' H' (s.set_ni g hp nd z)
theorem NiF.look {fv : List (Str × V)} (h : NiF H0 F H fv fs) (hl : fs.lookup f = some o) : ∃ q ho, fv.lookup f = some (.ref q) ∧ F q = none ∧ H q = some ho ∧ o.P F q ho := by
  induction h with
  | nil => cases hl
  | @cons x y _ _ p _ ih =>
    obtain ⟨x1, x2⟩ := x
    obtain ⟨y1, y2⟩ := y
    obtain ⟨e, q, ho, e1, _, hf, hp, z⟩ := p
    have e : x1 = y1 := e
    have e1 : x2 = V.ref q := e1
    subst e
    subst e1
    rw [List.lookup_cons] at hl ⊢
    cases c : f == x1 with
    | true =>
      rw [c] at hl
      cases hl
      exact ⟨q, ho, rfl, hf, hp, z⟩
    | false =>
      rw [c] at hl
      exact ih hl
/-- a field, read -/
theorem ev_nif (hi : δ[i]? = some (.ni C fs)) (k : FldOk K C f) (hl : fs.lookup f = some o) : EvE (tFld K (tVar i) f) δ (.bo o) := fun F0 H0 F H σ s Q q => by
  obtain ⟨p, dx, fv, e, hp, nd, z⟩ := s.ni i C fs hi
  obtain ⟨a, ho, hlk, hf, ha, hz⟩ := z.look hl
  exact ⟨.ref p, e, p, C, dx, fv, .ref a, rfl, s.fh p _ hp, k.c, k.n, hlk, q _ F H (Grow.refl s.fh) ⟨a, ho, rfl, ha, hz⟩⟩
/-- some instance of the class, nothing told of its fields -/
def anyS (C : Addr) : Slot := ⟨fun F v => ∃ p dx fv, v = .ref p ∧ F p = some (.ins C dx fv), fun s ⟨p, dx, fv, e, h⟩ => ⟨p, dx, fv, e, s p _ h⟩⟩
theorem ev_niv (hi : δ[i]? = some (.ni C fs)) : EvE (tVar i) δ (.v (anyS C)) := fun F0 H0 F H σ s Q q => by
  obtain ⟨p, dx, fv, e, hp, nd, z⟩ := s.ni i C fs hi
  exact ⟨.ref p, e, q _ F H (Grow.refl s.fh) ⟨p, dx, fv, rfl, hp⟩⟩
theorem ty_any (k : InsK K C) : TyE K (.v (anyS C)) (.ref C) := fun F H x s a => by
  obtain ⟨p, dx, fv, rfl, hp⟩ := a
  exact .base (.ins (s p _ hp) k.cl k.ha k.hn k.tk k.hm)
/-! ### a field's object changed -/
def putN (f : Str) (o' : Own) : List (Str × Own) → List (Str × Own)
  | [] => []
  | (g, o) :: r => if (f == g) = true then (g, o') :: r else (g, o) :: putN f o' r
theorem look_mem {fv : List (Str × V)} {v : V} (h : fv.lookup f = some v) : v ∈ fv.map (·.2) := by
  induction fv with
  | nil => cases h
  | cons x r ih =>
    obtain ⟨x1, x2⟩ := x
    rw [List.lookup_cons] at h
    cases c : f == x1 with
    | true => rw [c] at h; cases h; exact List.mem_cons_self
    | false => rw [c] at h; exact List.mem_cons_of_mem _ (ih h)
theorem NiF.put {fv : List (Str × V)} {q : Addr} {u : HO} (h : NiF H0 F H fv fs) (nd : (fv.map (·.2)).Nodup) (hq : fv.lookup f = some (.ref q)) (z : o'.P F q u) : NiF H0 F (upd H q u) fv (putN f o' fs) := by
  induction h with
  | nil => cases hq
  | @cons x y r1 r2 p t ih =>
    obtain ⟨x1, x2⟩ := x
    obtain ⟨y1, y2⟩ := y
    obtain ⟨e, q1, ho, e1, h0, hf, hp, z1⟩ := p
    have e : x1 = y1 := e
    have e1 : x2 = V.ref q1 := e1
    subst e
    subst e1
    obtain ⟨n1, n2⟩ := List.nodup_cons.mp nd
    rw [List.lookup_cons] at hq
    cases c : f == x1 with
    | true =>
      rw [c] at hq
      cases hq
      have ep : putN f o' ((x1, y2) :: r2) = (x1, o') :: r2 := by
        show (if (f == x1) = true then (x1, o') :: r2 else (x1, y2) :: putN f o' r2) = _
        rw [c, if_pos rfl]
      rw [ep]
      exact .cons ⟨rfl, _, u, rfl, h0, hf, upd_same, z⟩ (NiF.frameH t fun ha e => n1 (by rw [← e]; exact ha))
    | false =>
      rw [c] at hq
      have hne : q1 ≠ q := fun e => n1 (by rw [e]; exact look_mem hq)
      have ep : putN f o' ((x1, y2) :: r2) = (x1, y2) :: putN f o' r2 := by
        show (if (f == x1) = true then (x1, o') :: r2 else (x1, y2) :: putN f o' r2) = _
        rw [c, if_neg Bool.false_ne_true]
      rw [ep]
      exact .cons ⟨rfl, q1, ho, rfl, h0, hf, by rw [upd_ne hne]; exact hp, z1⟩ (ih n2 hq)
def OneN (δ : List Ent) (i : Nat) : Prop := ∀ (k : Nat) (C : Addr) (fs : List (Str × Own)), k ≠ i → δ[k]? ≠ some (.ni C fs)
theorem St.mutN (s : St F0 H0 F H σ δ) (hi : δ[i]? = some (.ni C fs)) (hno : OneN δ i) {p dx : Addr} {fv : List (Str × V)} {q : Addr} {u : HO} (e : σ[i]? = some (some (.ref p))) (hp : F p = some (.ins C dx fv)) (hq : fv.lookup f = some (.ref q)) (z : o'.P F q u) (hn : ∀ vs, u ≠ .tup vs := by intro _ h; cases h) :
    St F0 H0 F (upd H q u) σ (δ.set i (.ni C (putN f o' fs))) := by
  obtain ⟨p', dx', fv', e', hp', nd, nz⟩ := s.ni i C fs hi
  rw [e] at e'
  cases e'
  rw [hp] at hp'
  cases hp'
  have hA : NiA F σ i q := ⟨p, C, dx, fv, e, hp, look_mem hq⟩
  obtain ⟨h0, hf, ho, hh⟩ := s.niA hi hA
  refine ⟨⟨s.g.ff, same_updR s.g.hh h0, same_updR s.g.fh hf, s.g.nw, fun _ => tt_upd s.tt hn⟩, by rw [List.length_set]; exact s.len, fun j S' h => ?_, fun j o2 h => ?_, fun j o2 h => ?_, fun j k o1 o2 a ne h1 h2 h3 h4 => ?_, tt_upd s.tt hn, fun k C' fs' h => ?_, fun k j o2 a C' fs' h1 h2 h3 h4 => ?_⟩
  · rcases get_set h with ⟨_, e, _⟩ | ⟨ne, h⟩
    · cases e
    · exact s.at_ j S' h
  · rcases get_set h with ⟨_, e, _⟩ | ⟨ne, g⟩
    · cases e
    · obtain ⟨w, ho2, e2, z0, zf, zp, zq⟩ := s.ow j o2 g
      have hne : w ≠ q := fun z => by
        subst z
        exact s.sepn i j o2 w C fs hi g hA e2
      exact ⟨w, ho2, e2, z0, zf, by rw [upd_ne hne]; exact zp, zq⟩
  · rcases get_set h with ⟨_, e, _⟩ | ⟨ne, h⟩
    · cases e
    · exact s.bo j o2 h
  · rcases get_set h1 with ⟨_, e, _⟩ | ⟨_, g1⟩
    · cases e
    · rcases get_set h2 with ⟨_, e, _⟩ | ⟨_, g2⟩
      · cases e
      · exact s.sep j k o1 o2 a ne g1 g2 h3 h4
  · rcases get_set h with ⟨z1, e3, _⟩ | ⟨ne, g⟩
    · cases e3
      exact ⟨p, dx, fv, by rw [z1]; exact e, hp, nd, nz.put nd hq z⟩
    · exact absurd g (hno k C' fs' ne)
  · rcases get_set h2 with ⟨_, e3, _⟩ | ⟨_, g2⟩
    · cases e3
    · rcases get_set h1 with ⟨z1, e3, _⟩ | ⟨ne, g1⟩
      · rw [z1] at h3
        exact s.sepn i j o2 a C fs hi g2 h3 h4
      · exact absurd g1 (hno k C' fs' ne)
theorem q_appN {ss : List Slot} (s : St F0 H0 F H σ δ) (hi : δ[i]? = some (.ni C fs)) (hno : OneN δ i) (k0 : FldOk K C f) (hl : fs.lookup f = some (lstO ss)) (h : EvE te δ (.v S)) (hz : ss.length < 100000) (k : ∀ σ' F' H', St F0 H0 F' H' σ' (δ.set i (.ni C (putN f (lstO (ss ++ [S])) fs))) → tz D σ' H') :
    tSeq (tDrop (tBM K "list" rAppend (tFld K (tVar i) f) (tCons te tNil))) tz D σ H := by
  obtain ⟨p, dx, fv, e, hp, nd, z⟩ := s.ni i C fs hi
  obtain ⟨a, ho, hlk, hf, ha, vs, rfl, pv⟩ := z.look hl
  refine ⟨.ref p, e, p, C, dx, fv, .ref a, rfl, s.fh p _ hp, k0.c, k0.n, hlk, .inl ⟨rfl, vs, SqL.of ha⟩, h F0 H0 F H σ s _ fun v F' H' g a1 => ?_⟩
  refine ⟨a, vs, v, rfl, rfl, g.hh a _ ha, by rw [pv.length]; exact sizeLt hz, ?_⟩
  exact k _ F' _ ((s.grow g).mutN hi hno e (g.ff p _ hp) hlk ⟨_, rfl, PairS.snoc (PairS.mono g.ff pv) a1⟩)
theorem q_clearN {ss : List Slot} (s : St F0 H0 F H σ δ) (hi : δ[i]? = some (.ni C fs)) (hno : OneN δ i) (k0 : FldOk K C f) (hl : fs.lookup f = some (lstO ss)) (k : ∀ σ' F' H', St F0 H0 F' H' σ' (δ.set i (.ni C (putN f (lstO []) fs))) → tz D σ' H') :
    tSeq (tDrop (tBM0 K "list" rClear (tFld K (tVar i) f))) tz D σ H := by
  obtain ⟨p, dx, fv, e, hp, nd, z⟩ := s.ni i C fs hi
  obtain ⟨a, ho, hlk, hf, ha, vs, rfl, pv⟩ := z.look hl
  exact ⟨.ref p, e, p, C, dx, fv, .ref a, rfl, s.fh p _ hp, k0.c, k0.n, hlk, .inl ⟨rfl, vs, SqL.of ha⟩, a, vs, rfl, rfl, ha, k _ F _ (s.mutN hi hno e hp hlk ⟨[], rfl, .nil⟩)⟩
end
end J

/-! __init__ that gives its instance own objects -/
namespace J
open PySem PySem.Spec L2 PyProof.Rows
def selX (p C : Addr) (l : List (Str × V)) : Own := ⟨fun _ a ho => a = p ∧ ∃ dx, ho = .ins C dx l, fun _ h => h⟩
section
variable {K : PySem.W.Frag} {F0 H0 F H : Hp} {σ : L2.St} {δ : List Ent} {te : TE} {tz : TS} {D : Ends} {i : Nat} {o : Own} {C p : Addr} {l : List (Str × V)} {fs : List (Str × Own)} {f : Str}
structure SelfN (F0 H0 F H : Hp) (σ : L2.St) (δ : List Ent) (i : Nat) (p C : Addr) (l : List (Str × V)) (fs : List (Str × Own)) : Prop where
  s : St F0 H0 F H σ δ
  hi : δ[i]? = some (.ow (selX p C l))
  z : NiF H0 F H l fs
  nd : (l.map (·.2)).Nodup
  far : ∀ a, V.ref a ∈ l.map (·.2) → a ≠ p
theorem putF_new {v : V} : ∀ {l : List (Str × V)}, l.lookup f = none → putF f v l = l ++ [(f, v)]
  | [], _ => rfl
  | (g, x) :: r, h => by
    rw [List.lookup_cons] at h
    cases c : f == g with
    | true => rw [c] at h; cases h
    | false =>
      rw [c] at h
      have ih := putF_new (v := v) h
      have hne : ¬ g = f := fun e => by rw [e, beq_self_eq_true] at c; cases c
      unfold putF
      rw [if_neg hne, ih]
      rfl
theorem q_selfN (n : SelfN F0 H0 F H σ δ i p C l fs) (h : EvO te δ o) (kf : FldOk K C f) (hl : l.lookup f = none) (hz : l.length < 900)
    (k : ∀ σ' F' H' q, SelfN F0 H0 F' H' σ' (δ.set i (.ow (selX p C (l ++ [(f, .ref q)])))) i p C (l ++ [(f, .ref q)]) (fs ++ [(f, o)]) → tz D σ' H') : tSeq (sFld K (tVar i) te f) tz D σ H := by
  refine h F0 H0 F H σ n.s _ fun q ho F1 H1 g1 hn hf hq zq => ?_
  have s1 := n.s.grow g1
  obtain ⟨p', u, e, hp, rfl, dx, rfl⟩ := s1.loc n.hi
  obtain ⟨p0, u0, e0, _, _, hp0, rfl, _⟩ := n.s.ow i _ n.hi
  have hqp : q ≠ p0 := fun z => by
    rw [z, hp0] at hn
    cases hn
  have hlen : i < δ.length := (List.getElem?_eq_some_iff.mp n.hi).1
  refine ⟨.ref p0, e0, p0, C, dx, l, rfl, hp, kf.c, kf.n, by omega, ?_⟩
  rw [putF_new hl]
  refine k σ F1 _ q ⟨s1.mut n.hi e0 ⟨rfl, dx, rfl⟩, List.getElem?_set_self hlen, ?_, ?_, ?_⟩
  · refine paired_snoc (NiF.frameH (n.z.grow g1) fun ha => n.far _ ha) ⟨rfl, q, ho, rfl, n.s.g.hh.free hn, hf, ?_, zq⟩
    rw [upd_ne hqp]
    exact hq
  · rw [List.map_append, List.nodup_append]
    refine ⟨n.nd, List.nodup_cons.mpr ⟨List.not_mem_nil, List.nodup_nil⟩, fun a ha c hc => ?_⟩
    have hc : c = V.ref q := List.mem_singleton.mp hc
    subst hc
    rintro rfl
    obtain ⟨_, _, ho2, h2⟩ := n.z.mem ha
    rw [hn] at h2
    cases h2
  · intro a ha
    rw [List.map_append] at ha
    rcases List.mem_append.mp ha with ha | ha
    · exact n.far a ha
    · have : V.ref a = V.ref q := List.mem_singleton.mp ha
      cases this
      exact hqp
end
end J

namespace J
open PySem PySem.Spec L2 PyProof.Rows
abbrev RelN := List Ent → List (Str × Own) → Prop
def SpInitN (C : Addr) (R : RelN) : Sp := fun vs H Q E => ∃ (p dx : Addr) (ws : List V) (F : Hp) (es : List Ent) (fs : List (Str × Own)), vs = .ref p :: ws ∧ H p = some (.ins C dx []) ∧ Same F (era H p) ∧ TupIn F (era H p) ∧
  Paired (ArgOk F (era H p)) ws es ∧ R es fs ∧ ∀ F' H' dx' fv, Grow F (era H p) F' (era H' p) → H' p = some (.ins C dx' fv) → F' p = none → (fv.map (·.2)).Nodup → (∀ a, V.ref a ∈ fv.map (·.2) → a ≠ p) → NiF (era H p) F' H' fv fs → Q .non H'
section
variable {P : Program} {w : World} {K : PySem.W.Frag} {mg : Str → Option Value} {base : Heap}
theorem upd_eq {H : Hp} {p : Addr} {u : HO} (h : H p = some u) : upd H p u = H := by
  funext b
  by_cases hb : b = p
  · subst hb
    rw [upd_same, h]
  · rw [upd_ne hb]
theorem init_okN {qual : Str} {st : Stmt} {f C : Addr} {fd : FuncData} {N ps : List Str} {k : Nat} {R : RelN} (F : Fun K "__init__" qual st f fd) (S : FnScope N ps (defScope st)) (len : ∀ es r, R es r → es.length + 1 = ps.length)
    (hbody : ∀ (cdv : Value) (A : Around) (outer : List Env) (s : Shared) (H : Hp) (E : XK), Room k (A.deeper (envOfC qual (defScope st) s.heap.objs.size f cdv)) →
      ∃ t, PSs (cxOf (CXJ P w) P w K mg base N qual (defScope st) f cdv A outer s H E) (defBody st) t ∧
        ∀ (p : Addr) (es : List Ent) (fs : List (Str × Own)) (F H0 H : Hp) (σ : L2.St) (D : Ends), R es fs → SelfN F H0 F H σ ((.ow (selX p C []) :: es) ++ List.replicate (N.length - (es.length + 1)) .un) 0 p C [] [] →
          (∀ σ' F' H' δ l, SelfN F H0 F' H' σ' δ 0 p C l fs → D.nx σ' H') → t D σ H) :
    FnOk P w K mg base (CXJ P w) (k + 1) f fd ps (SpInitN C R) := by
  refine okAny F S (fun vs H Q E ⟨p, dx, ws, F, es, r, e, _, _, _, ha, hR, _⟩ => by rw [e, List.length_cons, ha.length]; exact len es r hR) (fun cdv A outer s H vs Q E hr ⟨p, dx, ws, F, es, r, e, hp, sm, tt, ha, hR, k⟩ => ?_)
  obtain ⟨t, ht, hq⟩ := hbody cdv A outer s H E hr
  refine ⟨t, ht, ?_⟩
  subst e
  have hl := ha.length
  refine hq p es r F (era H p) H _ _ hR ?_ ?_
  · unfold L2.start
    rw [List.length_cons, hl]
    have z := St.self (k := N.length - (es.length + 1)) sm tt ha hp
    have z2 := z.mut (i := 0) (p := p) (ho := .ins C dx []) (o' := selX p C []) rfl rfl ⟨rfl, dx, rfl⟩
    rw [upd_eq hp] at z2
    exact ⟨z2, rfl, .nil, List.nodup_nil, fun a h => by cases h⟩
  · intro σ' F' H' δ l n
    obtain ⟨p', u, _, _, hf, hp', rfl, dx', rfl⟩ := n.s.ow 0 _ n.hi
    have g := n.s.g
    refine k F' H' dx' l ⟨g.ff, fun b o e => ?_, fun b o e => ?_, g.nw, fun t a vs e => g.tt t a vs (era_sub _ _ e)⟩ hp' hf n.nd n.far n.z
    · have hb : b ≠ p' := fun z => by
        rw [z, era_same] at e
        cases e
      rw [era_ne hb]
      exact g.hh b o e
    · have hb : b ≠ p' := ne_of_none e hf
      rw [era_ne hb]
      exact g.fh b o e
end
section
variable {te : TE} {ta : TA} {δ es : List Ent} {E : XK} {C : Addr} {fs : List (Str × Own)}
theorem en_make {RI : RelN} (h : EvAs ta δ es) (hR : RI es fs) : EvN (tMake C (SpInitN C RI) [] E ta) δ C fs := fun F0 H0 F H σ s Q q =>
  h F0 H0 F H σ s _ fun vs F1 H1 g1 a1 => fun x dx hx hd ne => by
    have g2 := made_grow g1.fh hx hd ne (u := .ins C dx [])
    refine ⟨x, dx, vs ++ [], F1, es, fs, rfl, upd_same, g2.fh, g2.tt (s.grow g1).tt, ?_, hR, ?_⟩
    · exact pair_app (Paired.mapP a1 fun _ _ z => z.grow g2)
    · intro F' H' dx' fv g hp hf nd far z
      refine ⟨rfl, ?_⟩
      have g3 := g2.trans g
      have sm : Same F' (upd F' x (.ins C dx' fv)) := same_upd hf
      have gg : Grow F1 H1 (upd F' x (.ins C dx' fv)) H' := by
        refine ⟨g3.ff.trans sm, fun b o e => era_sub b o (g3.hh b o e), fun b o e => ?_, fun a ha n => ?_, fun t a vs e => ?_⟩
        · by_cases hb : b = x
          · subst hb
            rw [upd_same] at e
            rw [← e]
            exact hp
          · rw [upd_ne hb] at e
            exact era_sub b o (g3.fh b o e)
        · have hne : a ≠ x := fun e => ha (by rw [e]; exact hx)
          rw [upd_ne hne]
          exact g3.nw a ha n
        · have hax : a ≠ x := fun z => by rw [z, hp] at e; cases e
          have e2 : era H' x a = some (.tup vs) := by rw [era_ne hax]; exact e
          exact sm _ _ (g3.tt t a vs e2)
      exact q x dx' fv _ H' (g1.trans gg) upd_same nd ((z.frameF sm fun ha => far _ ha).back (H0 := H) (g1.hh.trans g2.hh))
end
end J

/-! a class with two specs; returns of instances with own fields -/
namespace J
open PySem PySem.Spec L2 PyProof.Rows
def SpOr (a b : Sp) : Sp := fun vs H Q E => a vs H Q E ∨ b vs H Q E
theorem fn_or {P : Program} {w : World} {K : PySem.W.Frag} {mg : Str → Option Value} {base : Heap} {CX : CXT} {k : Nat} {f : Addr} {fd : FuncData} {ps : List Str} {a b : Sp} (F : FnOk P w K mg base CX k f fd ps a) (G : FnOk P w K mg base CX k f fd ps b) : FnOk P w K mg base CX k f fd ps (SpOr a b) :=
  ⟨fun vs H Q E h => h.elim (F.len vs H Q E) (G.len vs H Q E), fun A outer s H args us vs Q E hr he hb hv hs => hs.elim (F.run A outer s H args us vs Q E hr he hb hv) (G.run A outer s H args us vs Q E hr he hb hv)⟩
section
variable {te : TE} {ta : TA} {δ es : List Ent} {E : XK} {C : Addr}
section
variable {fs : List (Str × Slot)}
theorem ev_makeU {RI : RelI} {sp2 : Sp} (h : EvAs ta δ es) (hR : RI es (.ok fs)) : EvE (tMake C (SpOr (SpInit C RI) sp2) [] E ta) δ (.v (objS C fs)) := fun F0 H0 F H σ s Q q =>
  h F0 H0 F H σ s _ fun vs F1 H1 g1 a1 => fun x dx hx hd ne => by
    have g2 := made_grow g1.fh hx hd ne (u := .ins C dx [])
    refine .inl ⟨x, dx, vs ++ [], F1, es, .ok fs, rfl, upd_same, g2.fh, g2.tt (s.grow g1).tt, ?_, hR, ?_⟩
    · exact pair_app (Paired.mapP a1 fun _ _ z => z.grow g2)
    · intro F' H' dx' fv g hp hf pf
      refine ⟨rfl, ?_⟩
      have g3 := g2.trans g
      have sm : Same F' (upd F' x (.ins C dx' fv)) := same_upd hf
      have gg : Grow F1 H1 (upd F' x (.ins C dx' fv)) H' := by
        refine ⟨g3.ff.trans sm, fun b o e => era_sub b o (g3.hh b o e), fun b o e => ?_, fun a ha n => ?_, fun t a vs e => ?_⟩
        · by_cases hb : b = x
          · subst hb
            rw [upd_same] at e
            rw [← e]
            exact hp
          · rw [upd_ne hb] at e
            exact era_sub b o (g3.fh b o e)
        · have hne : a ≠ x := fun e => ha (by rw [e]; exact hx)
          rw [upd_ne hne]
          exact g3.nw a ha n
        · have hax : a ≠ x := fun z => by rw [z, hp] at e; cases e
          have e2 : era H' x a = some (.tup vs) := by rw [era_ne hax]; exact e
          exact sm _ _ (g3.tt t a vs e2)
      exact q _ _ H' (g1.trans gg) ⟨x, _, rfl, upd_same, dx', fv, rfl, Paired.mapP pf fun _ q z => ⟨z.1, q.2.mono sm z.2⟩⟩
end
section
variable {fs : List (Str × Own)}
theorem en_makeU {RI : RelN} {sp1 : Sp} (h : EvAs ta δ es) (hR : RI es fs) : EvN (tMake C (SpOr sp1 (SpInitN C RI)) [] E ta) δ C fs := fun F0 H0 F H σ s Q q =>
  h F0 H0 F H σ s _ fun vs F1 H1 g1 a1 => fun x dx hx hd ne => by
    have g2 := made_grow g1.fh hx hd ne (u := .ins C dx [])
    refine .inr ⟨x, dx, vs ++ [], F1, es, fs, rfl, upd_same, g2.fh, g2.tt (s.grow g1).tt, ?_, hR, ?_⟩
    · exact pair_app (Paired.mapP a1 fun _ _ z => z.grow g2)
    · intro F' H' dx' fv g hp hf nd far z
      refine ⟨rfl, ?_⟩
      have g3 := g2.trans g
      have sm : Same F' (upd F' x (.ins C dx' fv)) := same_upd hf
      have gg : Grow F1 H1 (upd F' x (.ins C dx' fv)) H' := by
        refine ⟨g3.ff.trans sm, fun b o e => era_sub b o (g3.hh b o e), fun b o e => ?_, fun a ha n => ?_, fun t a vs e => ?_⟩
        · by_cases hb : b = x
          · subst hb
            rw [upd_same] at e
            rw [← e]
            exact hp
          · rw [upd_ne hb] at e
            exact era_sub b o (g3.fh b o e)
        · have hne : a ≠ x := fun e => ha (by rw [e]; exact hx)
          rw [upd_ne hne]
          exact g3.nw a ha n
        · have hax : a ≠ x := fun z => by rw [z, hp] at e; cases e
          have e2 : era H' x a = some (.tup vs) := by rw [era_ne hax]; exact e
          exact sm _ _ (g3.tt t a vs e2)
      exact q x dx' fv _ H' (g1.trans gg) upd_same nd ((z.frameF sm fun ha => far _ ha).back (H0 := H) (g1.hh.trans g2.hh))
end
end
section
variable {F0 H0 F H : Hp} {σ : L2.St} {δ : List Ent} {te : TE} {tz : TS} {D : Ends} {C : Addr} {fs : List (Str × Own)} {i : Nat}
theorem q_retN (s : St F0 H0 F H σ δ) (h : EvN te δ C fs) (k : ∀ p dx fv F' H', Grow F0 H0 F' H' → F' p = some (.ins C dx fv) → (fv.map (·.2)).Nodup → NiF H0 F' H' fv fs → D.rt (.ref p) H') : tSeq (tRet te) tz D σ H :=
  h F0 H0 F H σ s _ fun p dx fv F' H' g hp nd z => k p dx fv F' H' (s.g.trans g) hp nd (z.back s.g.hh)
theorem q_retLN {F1 : Hp} {d : Addr} {od : Obj} {kv : List (List Key × V)} {kvs : List (List Key × Slot)} {nx bk ct : L2.St → Hp → Prop} {rt : VK} (s : St F1 H0 F H σ δ) (bs : Base F0 H0 F1) (hi : δ[i]? = some (.ow (dicL d od kv kvs))) (h : EvN te δ C fs) (k : ∀ p dx fv F' H', Grow F0 H0 F' H' → F' p = some (.ins C dx fv) → (fv.map (·.2)).Nodup → NiF H0 F' H' fv fs → rt (.ref p) H') :
    tSeq (tRet te) tz ⟨nx, fun v H' => H' d = some (.frz od (.dT kv)) ∧ rt v (upd H' d (.dT kv)), bk, ct⟩ σ H := by
  refine h F1 H0 F H σ s _ fun p dx fv F' H' g hp nd z => ?_
  obtain ⟨hfr, su⟩ := (s.grow g).unlock hi
  obtain ⟨h1, _⟩ := s.unlock hi
  refine ⟨hfr, k p dx fv F' _ (bs su.g) hp nd ((NiF.frameH z fun {a} ha e => ?_).back s.g.hh)⟩
  have := (z.mem ha).1
  rw [e, h1] at this
  cases this
end
end J

/-! != of nested lists of the same things; locked dicts handed on; loops with a pair as target; not in a list of tuples -/
namespace J
open PySem PySem.Spec L2 PyProof.Rows
section
variable {K : PySem.W.Frag} {F0 H0 F H : Hp} {σ : L2.St} {δ es : List Ent} {te tb ta tk tv : TE} {tr : TA} {tz tu : TS} {D : Ends} {i j i1 i2 : Nat} {S : Slot} {e1 e2 : Ent} {o o1 o2 : Own} {ss ts : List Slot}
/-! ### != -/
def IdR (K : PySem.W.Frag) (H : Hp) (x y : V) : Prop := (∃ a, x = .ref a ∧ y = .ref a) ∨ ∃ a b xs, x = .ref a ∧ y = .ref b ∧ SqL K H a xs ∧ SqL K H b xs ∧ ∀ v ∈ xs, ∃ c, v = V.ref c
theorem vals_refs : ∀ {xs : List V} {us ws : List Value}, Vals xs us → Vals xs ws → (∀ v ∈ xs, ∃ c, v = V.ref c) → us = ws := by
  intro xs us ws r1
  induction r1 generalizing ws with
  | nil => intro r2 _; cases r2; rfl
  | @cons x u _ _ p _ ih =>
    intro r2 hr
    cases r2 with
    | @cons _ w _ _ q t2 =>
      obtain ⟨c, rfl⟩ := hr _ List.mem_cons_self
      have e1 : u = Value.ref c := p
      have e2 : w = Value.ref c := q
      rw [e1, e2, ih t2 fun v hv => hr v (List.mem_cons_of_mem _ hv)]
theorem idR_at {X : Cx} {pins : List (Addr × Obj)} {s : Shared} (I : L2.Inv X pins σ H s) {A : Around} (hu : A.units < cLine) {x y : V} {v u : Value} (h : IdR X.K H x y) (rx : RelV x v) (ry : RelV y u) : SeqAt.EqAt A s v u true := by
  rcases h with ⟨a, rfl, rfl⟩ | ⟨a, b, xs, rfl, rfl, ha, hb, hr⟩
  · cases (show v = Value.ref a from rx)
    cases (show u = Value.ref a from ry)
    exact SeqAt.EqAt.same _
  · cases (show v = Value.ref a from rx)
    cases (show u = Value.ref b from ry)
    by_cases e : a = b
    · subst e
      exact SeqAt.EqAt.same _
    · obtain ⟨us, r1, p1, _⟩ := I.list ha
      obtain ⟨ws, r2, p2, _⟩ := I.list hb
      have euw : us = ws := vals_refs r1 r2 hr
      subst euw
      have z := SeqAt.RcAt.lists (A := A) (e := fun _ => true) p1.isList p2.isList rfl hu (fun j h1 h2 => SeqAt.EqAt.same _)
      rw [show ((List.range us.toArray.size).all fun _ => true) = true from List.all_eq_true.mpr fun _ _ => rfl] at z
      exact SeqAt.EqAt.of_refs e z
theorem idR_items {X : Cx} {pins : List (Addr × Obj)} {s : Shared} (I : L2.Inv X pins σ H s) {A : Around} (hu : A.units < cLine) {xs ys : List V} (hp : Paired (IdR X.K H) xs ys) :
    ∀ {us ws : List Value}, Vals xs us → Vals ys ws → ∀ j (h1 : j < us.length) (h2 : j < ws.length), SeqAt.EqAt A s us[j] ws[j] true := by
  induction hp with
  | nil =>
    intro us ws r1 r2 j h1 h2
    cases r1
    exact absurd h1 (Nat.not_lt_zero j)
  | cons h _ k =>
    intro us ws r1 r2 j h1 h2
    cases r1 with
    | cons a1 b1 =>
      cases r2 with
      | cons a2 b2 =>
        cases j with
        | zero => exact idR_at I hu h a1 a2
        | succ j => exact k b1 b2 j (Nat.lt_of_succ_lt_succ h1) (Nat.lt_of_succ_lt_succ h2)
def rNeV (K : PySem.W.Frag) : R2 := fun x y H Q => ∃ a b xs ys, x = V.ref a ∧ y = V.ref b ∧ SqL K H a xs ∧ SqL K H b ys ∧ Paired (IdR K H) xs ys ∧ Q (.bl false) H
theorem op_neV {X : Cx} (hu : X.A.units + 64 < cLine) : OpR X (compareOp .NotEq) (rNeV X.K) := by
  intro pins s σ H x y v u Q I rx ry h
  obtain ⟨a, b, xs, ys, rfl, rfl, ha, hb, hp, q⟩ := h
  cases (show v = Value.ref a from rx)
  cases (show u = Value.ref b from ry)
  obtain ⟨us, r1, p1, _⟩ := I.list ha
  obtain ⟨ws, r2, p2, _⟩ := I.list hb
  have hsz : us.toArray.size = ws.toArray.size := by
    rw [List.size_toArray, List.size_toArray, ← r1.length, ← r2.length]
    exact Paired.length hp
  refine SeqAt.RcNeAt.lists (A := X.A) (e := fun _ => true) p1.isList p2.isList hsz (by omega) (fun j h1 h2 => ?_) _ _ _ _ ?_
  · have k := idR_items I (A := X.A.in1) (by show X.A.units + 1 < cLine; omega) hp r1 r2 j (by simpa using h1) (by simpa using h2)
    simpa using k
  · rw [show ((List.range us.toArray.size).all fun _ => true) = true from List.all_eq_true.mpr fun _ _ => rfl]
    exact ⟨.bl false, H, I, rfl, q⟩
def rNeW (K : PySem.W.Frag) : R2 := fun x y H Q => rNeJ K x y H Q ∨ rNeV K x y H Q
theorem ko_neV {X : Cx} {k : Nat} (hK : X.K = K) (hr : Room k X.A) : OpR X (compareOp .NotEq) (rNeW K) := by subst hK; exact OpR.or (jo_ne (Room.u64 hr)) (op_neV (Room.u64 hr))
theorem ko_eqV {X : Cx} {k : Nat} (hK : X.K = K) (hr : Room k X.A) : OpR X (compareOp .Eq) (rEqJ K) := ko_eq hK hr
/-- a list of things known by their place -/
def PinL (S : Slot) : Prop := ∃ vs : List V, (∀ v ∈ vs, ∃ c, v = V.ref c) ∧ ∀ F v, S.P F v → ∃ a, v = .ref a ∧ F a = some (.lst vs)
theorem pinL {vs : List V} (hl : vs.length = ss.length) (hv : ∀ v ∈ vs, ∃ a, v = V.ref a) : PinL (lstS (List.zipWith pinS vs ss)) := by
  refine ⟨vs, hv, fun F v h => ?_⟩
  obtain ⟨p, ho, rfl, hp, xs, rfl, px⟩ := h
  obtain ⟨rfl, _⟩ := pin_un hl px
  exact ⟨p, rfl, hp⟩
theorem jv_neV (h : ∀ S ∈ ss, PinL S) (h1 : IsR e1 (lstO ss)) (h2 : IsR e2 (lstO ss)) : OpE (rNeW K) e1 e2 (.v (bS false)) := OpE.inr fun F H x y s a b Q q => by
  obtain ⟨p, ho, rfl, hp, xs, rfl, px⟩ := h1.get a s
  obtain ⟨p', ho', rfl, hp', ys, rfl, py⟩ := h2.get b s
  refine ⟨p, p', xs, ys, rfl, rfl, SqL.of hp, SqL.of hp', ?_, q _ F H (Grow.refl s) rfl⟩
  clear hp hp' a b h1 h2
  induction px generalizing ys with
  | nil => cases py; exact .nil
  | @cons x S _ _ p1 _ ih =>
    cases py with
    | @cons y _ _ _ p2 t2 =>
      obtain ⟨vs, hv, hS⟩ := h S List.mem_cons_self
      obtain ⟨a, ea, fa⟩ := hS F x p1
      obtain ⟨b, eb, fb⟩ := hS F y p2
      exact .cons (.inr ⟨a, b, vs, ea, eb, SqL.of (s a _ fa), SqL.of (s b _ fb), hv⟩) (ih (fun T hT => h T (List.mem_cons_of_mem _ hT)) _ t2)
theorem jv_neJ (h : OpE (rNeJ K) e1 e2 (.v S)) : OpE (rNeW K) e1 e2 (.v S) := OpE.inl h
/-- a field's list pinned -/
theorem q_pinN {C : Addr} {fs : List (Str × Own)} {f : Str} (s : St F0 H0 F H σ δ) (hi : δ[i]? = some (.ni C fs)) (hno : OneN δ i) (hl : fs.lookup f = some (lstO ss)) (hr : ∀ S ∈ ss, ∀ F v, S.P F v → ∃ a, v = V.ref a) {P : Prop}
    (k : ∀ vs : List V, vs.length = ss.length → (∀ v ∈ vs, ∃ a, v = V.ref a) → St F0 H0 F H σ (δ.set i (.ni C (putN f (lstO (List.zipWith pinS vs ss)) fs))) → P) : P := by
  obtain ⟨p, dx, fv, e, hp, nd, z⟩ := s.ni i C fs hi
  obtain ⟨a, ho, hlk, hf, ha, vs, rfl, pv⟩ := z.look hl
  refine k vs pv.length ?_ ?_
  · have : ∀ {vs : List V} {ss : List Slot}, PairS F vs ss → (∀ S ∈ ss, ∀ F v, S.P F v → ∃ a, v = V.ref a) → ∀ v ∈ vs, ∃ a, v = V.ref a := by
      intro vs ss h
      induction h with
      | nil => intro _ v hv; cases hv
      | cons p _ ih =>
        intro hr v hv
        cases hv with
        | head => exact hr _ List.mem_cons_self _ _ p
        | tail _ hv => exact ih (fun S hS => hr S (List.mem_cons_of_mem _ hS)) v hv
    exact this pv hr
  · have w := s.mutN (o' := lstO (List.zipWith pinS vs ss)) (u := .lst vs) hi hno e hp hlk ⟨vs, rfl, pin_of pv⟩
    rw [upd_eq ha] at w
    exact w
def noN : Ent → Prop
  | .ni _ _ => False
  | _ => True
def allN : List Ent → Prop
  | [] => True
  | e :: l => noN e ∧ allN l
def oneB : List Ent → Nat → Prop
  | [], _ => True
  | _ :: l, 0 => allN l
  | e :: l, i + 1 => noN e ∧ oneB l i
theorem allN_at : ∀ {l : List Ent} {k : Nat} {C : Addr} {fs : List (Str × Own)}, allN l → l[k]? ≠ some (.ni C fs)
  | [], _, _, _, _ => by simp
  | e :: l, 0, C, fs, h => by
    intro q
    have q : e = .ni C fs := Option.some.inj q
    subst q
    exact h.1
  | e :: l, k + 1, C, fs, h => by
    intro q
    exact allN_at (k := k) h.2 (by simpa using q)
theorem oneN_of : ∀ {l : List Ent} {i : Nat}, oneB l i → OneN l i
  | [], _, _ => fun k C fs _ q => by simp at q
  | e :: l, 0, h => fun k C fs hk q => by
    obtain ⟨k', rfl⟩ : ∃ k', k = k' + 1 := ⟨k - 1, by omega⟩
    exact allN_at (k := k') h (by simpa using q)
  | e :: l, i + 1, h => fun k C fs hk q => by
    cases k with
    | zero =>
      have q : e = .ni C fs := Option.some.inj q
      subst q
      exact h.1
    | succ k => exact oneN_of (i := i) h.2 k C fs (fun z => hk (by rw [z])) (by simpa using q)
/-! ### a dict that stands locked -/
def frzO (kvs : List (List Key × Slot)) : Own := ⟨fun F _ ho => ∃ od kv, ho = .frz od (.dT kv) ∧ PK F kv kvs, fun s ⟨od, kv, e, p⟩ => ⟨od, kv, e, PK.mono s p⟩⟩
abbrev frzS (kvs : List (List Key × Slot)) : Slot := refS (frzO kvs)
theorem dgetF {x : List Int} {v y : V} {kvs : List (List Key × Slot)} (s : Same F H) (h1 : (frzS kvs).P F v) (h2 : (tpS x).P F y) : ∃ p kv, v = .ref p ∧ PK F kv kvs ∧ DGet H p y (valV kv (kx x)) := by
  obtain ⟨p, ho, rfl, hp, od, kv, rfl, pv⟩ := h1
  obtain ⟨b, rfl, hb, _⟩ := fv_of h2
  exact ⟨p, kv, rfl, pv, .inr ⟨kv, kx x, b, .inr ⟨od, s p _ hp⟩, rfl, by rw [kx_V]; exact s b _ hb, rfl⟩⟩
theorem ev_niF {x : List Int} {L : List (List Int)} {kvs : List (List Key × Slot)} (ha : EvE ta δ (.v (tpS x))) (hb : EvE tb δ (.v (frzS kvs))) (hk : kvs.map (·.1) = L.map kx) : EvE (tNiJ K ta tb) δ (.v (bS (!decide (x ∈ L)))) := fun F0 H0 F H σ s Q q =>
  .inr (.inl (ha F0 H0 F H σ s _ fun y F1 H1 g1 a1 => hb F0 H0 F1 H1 σ (s.grow g1) _ fun v F2 H2 g2 a2 => by
    obtain ⟨p, kv, rfl, pv, dg⟩ := dgetF g2.fh a2 ((tpS x).mono g2.ff a1)
    refine ⟨p, _, rfl, dg, ?_⟩
    rw [some_kx pv hk]
    exact q _ F2 H2 (g1.trans g2) rfl))
theorem ev_inF {x : List Int} {L : List (List Int)} {kvs : List (List Key × Slot)} (ha : EvE ta δ (.v (tpS x))) (hb : EvE tb δ (.v (frzS kvs))) (hk : kvs.map (·.1) = L.map kx) : EvE (tInJ K ta tb) δ (.v (bS (decide (x ∈ L)))) := fun F0 H0 F H σ s Q q =>
  .inr (.inl (ha F0 H0 F H σ s _ fun y F1 H1 g1 a1 => hb F0 H0 F1 H1 σ (s.grow g1) _ fun v F2 H2 g2 a2 => by
    obtain ⟨p, kv, rfl, pv, dg⟩ := dgetF g2.fh a2 ((tpS x).mono g2.ff a1)
    refine ⟨p, _, rfl, dg, ?_⟩
    rw [some_kx pv hk]
    exact q _ F2 H2 (g1.trans g2) rfl))
theorem ev_getF {x : List Int} {kvs : List (List Key × Slot)} {r : List Key × Slot} (ha : EvE ta δ (.v (frzS kvs))) (hb : EvE tb δ (.v (tpS x))) (hf : kvs.find? (fun q => decide (q.1 = kx x)) = some r) : EvE (tIx K ta tb) δ (.v r.2) := fun F0 H0 F H σ s Q q =>
  .inr (ha F0 H0 F H σ s _ fun v F1 H1 g1 a1 => hb F0 H0 F1 H1 σ (s.grow g1) _ fun y F2 H2 g2 a2 => by
    obtain ⟨p, kv, rfl, pv, dg⟩ := dgetF g2.fh ((frzS kvs).mono g2.ff a1) a2
    have z := find_keys (k := kx x) pv
    rw [hf] at z
    obtain ⟨w, hw, pw⟩ := z
    rw [hw] at dg
    exact ⟨p, w, rfl, dg, q w F2 H2 (g1.trans g2) pw⟩)
/-- for x in d -/
theorem q_forF {kvs : List (List Key × Slot)} {L : List (List Int)} (s : St F0 H0 F H σ δ) (h : EvE ta δ (.v (frzS kvs))) (hk : kvs.map (·.1) = L.map kx) (I : Nat → List Ent → Prop) (h0 : I 0 δ)
    (hs : ∀ F1, Base F0 H0 F1 → ∀ n x δ' σ' F' H', L[n]? = some x → I n δ' → St F1 H0 F' H' σ' (δ'.set j (.v (tpS x))) → tu ⟨NX F1 H0 (I (n + 1)), D.rt, tz D, NX F1 H0 (I (n + 1))⟩ σ' H')
    (hd : ∀ δ' σ' F' H', I L.length δ' → St F0 H0 F' H' σ' δ' → tz D σ' H') : tSeq (tFor (iAny K ta) (gName j) tu) tz D σ H := by
  refine .inr (.inr (h F0 H0 F H σ s _ fun v F1 H1 g1 a1 => ?_))
  obtain ⟨d, ho, rfl, hp, od, kv, rfl, pk⟩ := a1
  have s1 := s.grow g1
  have hl := keys_len pk hk
  refine ⟨d, od, rfl, .inr ⟨kv, g1.fh d _ hp, ?_⟩⟩
  refine ⟨fun n m σ' H' => m = L.length - n ∧ n ≤ L.length ∧ NX F1 H0 (I n) σ' H', ⟨L.length, by simp, Nat.zero_le _, F1, δ, s1.rebase, h0⟩, ?_⟩
  rintro n m σ' H' ⟨rfl, hn, F', δ', s', hI'⟩
  have hfr : H' d = some (.frz od (.dT kv)) := s'.fh d _ (s'.g.ff d _ hp)
  by_cases hlt : n < L.length
  · refine .inr ⟨⟨hfr, by omega⟩, NX F1 H0 (I (n + 1)), fun σ2 H2 h2 => ⟨L.length - (n + 1), by omega, rfl, hlt, h2⟩, ?_⟩
    rintro x H2 ⟨rfl, k, v, q, hkv, rfl, hq⟩
    obtain ⟨y, hy, rfl⟩ := key_at pk hk hkv
    rw [kx_V] at hq
    exact hs F1 s1.base n y δ' _ F' _ hy hI' (s'.set_v (tp_of (s'.tt q _ hq)))
  · have en : n = L.length := by omega
    subst en
    exact .inl ⟨⟨hfr, by omega⟩, hd δ' σ' F' _ hI' (s'.unbase s1.base)⟩
/-- [te for j in d] -/
theorem eo_lcF {kvs : List (List Key × Slot)} {L : List (List Int)} (f : List Int → Slot) (h : EvE ta δ (.v (frzS kvs))) (hk : kvs.map (·.1) = L.map kx) (hz : L.length ≤ 40000) (he : ∀ x ∈ L, EvE te (δ.set j (.v (tpS x))) (.v (f x))) :
    EvO (tLc (iAny K ta) (gName j) tYes te [j]) δ (lstO (L.map f)) := fun F0 H0 F H σ s Q q => by
  refine .inr (.inr (h F0 H0 F H σ s _ fun v F1 H1 g1 a1 => ?_))
  obtain ⟨p, ho, rfl, hp, od, kv, rfl, pk⟩ := a1
  have s1 := s.grow g1
  have hl := keys_len pk hk
  refine ⟨p, od, rfl, .inr ⟨kv, g1.fh p _ hp, fun Dl hD => ?_⟩⟩
  refine ⟨fun n m H' => m = L.length - n ∧ n ≤ L.length ∧ LcI F1 H1 Dl ((L.take n).map f) H', ⟨L.length, by simp, Nat.zero_le _, LcI.start g1.fh hD⟩, ?_⟩
  rintro n m H' ⟨rfl, hn, hI⟩
  obtain ⟨F', acc, g, hf', hp', pa⟩ := id hI
  have hfr := g.hh p _ (g1.fh p _ hp)
  by_cases hlt : n < L.length
  · refine .inr ⟨⟨hfr, by omega⟩, LcI F1 H1 Dl ((L.take (n + 1)).map f), fun H2 h2 => ⟨L.length - (n + 1), by omega, rfl, hlt, h2⟩, ?_⟩
    rintro x H2 ⟨rfl, k, v, a, hkv, rfl, hq⟩
    obtain ⟨y, hy, rfl⟩ := key_at pk hk hkv
    rw [kx_V] at hq
    have hm := List.mem_of_getElem? hy
    refine ⟨wipe1, lc_turn (b := true) (T := tpS y) (S := f y) (ss := (L.take n).map f) s1 hD (by rw [List.length_map, List.length_take]; omega) (fun F2 g2 => tp_of (g2.tt s1.tt a _ hq)) hI et_yes (fun _ => he y hm) fun H3 z => ?_⟩
    rw [if_pos rfl] at z
    rw [List.take_add_one, hy, List.map_append]
    exact z
  · have en : n = L.length := by omega
    subst en
    rw [List.take_length] at pa
    exact .inl ⟨⟨hfr, by omega⟩, q Dl _ F' H' (g1.trans g) (g1.hh.free hD) hf' hp' ⟨acc, rfl, pa⟩⟩
theorem St.lockV {kvs : List (List Key × Slot)} (s : St F0 H0 F H σ δ) (hi : δ[i]? = some (.ow (dicO kvs))) : ∃ d kv, H d = some (.dT kv) ∧ H0 d = none ∧ F d = none ∧ ∀ od, ∃ F1, St F0 H0 F1 (upd H d (.frz od (.dT kv))) σ (δ.set i (.v (frzS kvs))) := by
  obtain ⟨d, ho, e, z0, zf, hp, kv, rfl, pk⟩ := s.ow i _ hi
  refine ⟨d, kv, hp, z0, zf, fun od => ?_⟩
  have s1 : St F0 H0 F (upd H d (.frz od (.dT kv))) σ (δ.set i (.ow (frzO kvs))) := s.mut hi e ⟨od, kv, rfl, pk⟩
  obtain ⟨F1, s2⟩ := s1.freeze (i := i) (o := frzO kvs) (List.getElem?_set_self (List.getElem?_eq_some_iff.mp hi).1)
  rw [List.set_set] at s2
  exact ⟨F1, s2⟩
/-- return .., a dict of one's own locked meanwhile -/
theorem q_retLK {v0 : V} {kvs : List (List Key × Slot)} (s : St F0 H0 F H σ δ) (i : Nat) (hi : δ[i]? = some (.ow (dicO kvs))) (h : EvE te (δ.set i (.v (frzS kvs))) (.v (kS v0))) (k : ∀ v F' H', Grow F0 H0 F' H' → (kS v0).P F' v → D.rt v H') : tSeq (tLock (tRet te)) tz D σ H := by
  obtain ⟨d, kv, hd, z0, zf, hl⟩ := s.lockV hi
  refine ⟨d, .dT kv, hd, trivial, fun od => ?_⟩
  obtain ⟨F1, s1⟩ := hl od
  refine h F0 H0 F1 _ σ s1 _ fun v F' H' g a => ?_
  have hfr : H' d = some (.frz od (.dT kv)) := g.hh d _ upd_same
  have gg := s1.g.trans g
  have f0 : F0 d = none := s.g.ff.free zf
  refine ⟨hfr, k v (era F' d) (upd H' d (.dT kv)) ⟨fun b o e => ?_, fun b o e => ?_, fun b o e => ?_, fun b hb n => ?_, fun t b vs e => ?_⟩ a⟩
  · rw [era_ne (ne_of_none e f0)]
    exact gg.ff b o e
  · rw [upd_ne (ne_of_none e z0)]
    exact gg.hh b o e
  · by_cases hb : b = d
    · rw [hb, era_same] at e
      cases e
    · rw [era_ne hb] at e
      rw [upd_ne hb]
      exact gg.fh b o e
  · by_cases hd : b = d
    · rw [hd]
      exact era_same
    · rw [era_ne hd]
      exact gg.nw b hb n
  · by_cases hb : b = d
    · rw [hb, upd_same] at e
      cases e
    · rw [upd_ne hb] at e
      rw [era_ne hb]
      exact gg.tt t b vs e
/-- an expression, a dict of one's own locked meanwhile -/
theorem eo_lockO {kvs : List (List Key × Slot)} (hi : δ[i]? = some (.ow (dicO kvs))) (h : ∀ d od kv, EvO te (δ.set i (.ow (dicL d od kv kvs))) o) : EvO (tLockE te) δ o := fun F0 H0 F H σ s Q q => by
  obtain ⟨d, ho, e, z0, zf, hp, kv, rfl, pk⟩ := s.ow i _ hi
  refine ⟨d, .dT kv, hp, trivial, fun od => ?_⟩
  have s1 : St F0 H0 F (upd H d (.frz od (.dT kv))) σ (δ.set i (.ow (dicL d od kv kvs))) := s.mut hi e ⟨rfl, rfl, pk⟩
  refine h d od kv F0 H0 F _ σ s1 _ fun p ho F' H' g hn hf hp' z => ?_
  have hfr : H' d = some (.frz od (.dT kv)) := g.hh d _ upd_same
  have hpd : p ≠ d := fun e => by
    rw [e, upd_same] at hn
    cases hn
  have fd : F' d = none := g.nw d (by rw [upd_same]; exact fun z => nomatch z) zf
  refine ⟨hfr, q p ho F' _ ⟨g.ff, fun b o e => ?_, fun b o e => ?_, fun b hb n => ?_, fun t => tt_upd (g.tt (tt_upd t (by intro _ h; cases h))) (by intro _ h; cases h)⟩ (by rw [upd_ne hpd] at hn; exact hn) hf (by rw [upd_ne hpd]; exact hp') z⟩
  · by_cases hb : b = d
    · rw [hb] at e ⊢
      rw [upd_same, ← e, hp]
    · rw [upd_ne hb]
      exact g.hh b o (by rw [upd_ne hb]; exact e)
  · rw [upd_ne (ne_of_none e fd)]
    exact g.fh b o e
  · refine g.nw b ?_ n
    by_cases hd : b = d
    · rw [hd, upd_same]
      exact fun z => nomatch z
    · rw [upd_ne hd]
      exact hb
/-! ### a pair as target -/
theorem q_forL2 {α : Type} {xs : List α} {f g : α → Slot} {j1 j2 : Nat} (s : St F0 H0 F H σ δ) (h : EvE ta δ (.v (lstS (xs.map fun a => tupS [f a, g a])))) (I : Nat → List Ent → Prop) (h0 : I 0 δ)
    (hs : ∀ F1, Base F0 H0 F1 → ∀ n a δ' σ' F' H', xs[n]? = some a → I n δ' → St F1 H0 F' H' σ' ((δ'.set j1 (.v (f a))).set j2 (.v (g a))) → tu ⟨NX F1 H0 (I (n + 1)), D.rt, tz D, NX F1 H0 (I (n + 1))⟩ σ' H')
    (hd : ∀ δ' σ' F' H', I xs.length δ' → St F0 H0 F' H' σ' δ' → tz D σ' H') : tSeq (tFor (iAny K ta) (gTup K 2 (gCons (gName j1) (gCons (gName j2) gNil))) tu) tz D σ H := by
  refine .inl (h F0 H0 F H σ s _ fun v F1 H1 g1 a1 => ?_)
  obtain ⟨p, ho, rfl, hp, vs, rfl, pv⟩ := a1
  have s1 := s.grow g1
  have hlen : vs.length = xs.length := by rw [pv.length, List.length_map]
  refine ⟨p, rfl, ⟨vs, SqL.of (g1.fh p _ hp)⟩, for_list (D := { D with nx := tz D }) (xs := vs) (fun n => NX F1 H0 (I n)) ⟨F1, δ, s1.rebase, h0⟩ ?_ ?_ ?_⟩
  · rintro n σ' H' _ ⟨F', δ', s', _⟩
    exact SqL.of (s'.fh p _ (s'.g.ff p _ hp))
  · rintro n x σ' H' hx ⟨F', δ', s', hI⟩
    have hn : n < xs.length := by
      rw [← hlen]
      exact (List.getElem?_eq_some_iff.mp hx).1
    have hxn : xs[n]? = some xs[n] := List.getElem?_eq_getElem hn
    obtain ⟨w, hw, q⟩ := PairS.get (i := n) (S := tupS [f xs[n], g xs[n]]) (PairS.mono s'.g.ff pv) (by rw [List.getElem?_map, hxn]; rfl)
    rw [hx] at hw
    cases hw
    obtain ⟨t, ho, rfl, ht, ws, rfl, pw⟩ := q
    cases pw with
    | cons p1 t1 => cases t1 with
      | cons p2 t2 => cases t2 with
        | nil => exact ⟨t, _, rfl, SqT.of (s'.fh t _ ht), rfl, _, _, rfl, _, _, rfl, rfl, hs F1 s1.base n _ δ' _ F' H' hxn hI ((s'.set_v p1).set_v p2)⟩
  · rintro σ' H' ⟨F', δ', s', hI⟩
    rw [hlen] at hI
    exact hd δ' σ' F' H' hI (s'.unbase s1.base)
/-- x not in a list of tuples -/
theorem ev_niLT {x : List Int} {L : List (List Int)} (ha : EvE ta δ (.v (tpS x))) (hb : EvE tb δ e1) (hr : IsR e1 (lstO (L.map tpS))) : EvE (tNiJ K ta tb) δ (.v (bS (!decide (x ∈ L)))) := fun F0 H0 F H σ s Q q =>
  .inr (.inr (ev_op (r := rNotInD K) (e3 := .v (bS (!decide (x ∈ L)))) ha hb (fun F H v y s a b Q q => by
    have h1 := dat_tp (K := K) (x := x) isR_v
    have h2 := dat_ltp (K := K) hr
    refine ⟨tpD x, L.map tpD, h1.to F H v s a, h2.to F H y s b, h1.sh, h2.sh, ?_⟩
    rw [any_tp]
    exact q _ F H (Grow.refl s) rfl) F0 H0 F H σ s Q q))
end
end J

/-! dicts of lists that are changed, lists of lists that are changed; sorted of lists of tuples; pop; reversed -/
namespace J
open PySem PySem.Spec L2 PyProof.Rows
section
variable {K : PySem.W.Frag} {F0 H0 F H : Hp} {σ : L2.St} {δ es : List Ent} {te tb ta tk tv : TE} {tr : TA} {tz tu : TS} {D : Ends} {i j i1 i2 : Nat} {S S1 S2 : Slot} {e1 e2 : Ent} {o o1 o2 : Own} {ss ts : List Slot}
/-! ### a store without own objects -/
def noO : Ent → Prop
  | .ow _ => False
  | .ni _ _ => False
  | _ => True
def allO : List Ent → Prop
  | [] => True
  | e :: l => noO e ∧ allO l
theorem allO_at : ∀ {l : List Ent} {k : Nat} {e : Ent}, allO l → l[k]? = some e → noO e
  | [], _, _, _, h => by simp at h
  | a :: l, 0, e, h, q => by
    have q : a = e := Option.some.inj q
    subst q
    exact h.1
  | a :: l, k + 1, e, h, q => allO_at (k := k) h.2 (by simpa using q)
theorem allO_set : ∀ {l : List Ent} {k : Nat} {e : Ent}, allO l → noO e → allO (l.set k e)
  | [], _, _, _, _ => True.intro
  | a :: l, 0, e, h, q => ⟨q, h.2⟩
  | a :: l, k + 1, e, h, q => ⟨h.1, allO_set (k := k) h.2 q⟩
theorem St.mutX (s : St F0 H0 F H σ δ) (no : allO δ) {p : Addr} {u : HO} (h0 : H0 p = none) (hf : F p = none) (hn : ∀ vs, u ≠ .tup vs := by intro _ h; cases h) : St F0 H0 F (upd H p u) σ δ where
  g := ⟨s.g.ff, same_updR s.g.hh h0, same_updR s.g.fh hf, s.g.nw, fun t => tt_upd (s.g.tt t) hn⟩
  len := s.len
  at_ := s.at_
  ow := fun i o h => (allO_at no h).elim
  bo := s.bo
  sep := s.sep
  tt := tt_upd s.tt hn
  ni := fun i C fs h => (allO_at no h).elim
  sepn := fun i j o a C fs h => (allO_at no h).elim
/-! ### loops whose turns tell of the heaps -/
def NXX (F0 H0 : Hp) (X : Hp → Hp → L2.St → List Ent → Prop) : L2.St → Hp → Prop := fun σ H => ∃ F δ, St F0 H0 F H σ δ ∧ X F H σ δ
theorem q_nxX {X : Hp → Hp → L2.St → List Ent → Prop} {rt : VK} {bk ct : L2.St → Hp → Prop} (s : St F0 H0 F H σ δ) (h : X F H σ δ) : tNext ⟨NXX F0 H0 X, rt, bk, ct⟩ σ H := ⟨F, δ, s, h⟩
theorem q_forLX (s : St F0 H0 F H σ δ) (h : EvE ta δ (.v (lstS ss))) (X : Nat → Hp → Hp → L2.St → List Ent → Prop) (h0 : ∀ F1 H1, Grow F H F1 H1 → X 0 F1 H1 σ δ)
    (hs : ∀ F1, Base F0 H0 F1 → ∀ n T x δ' σ' F' H', ss[n]? = some T → X n F' H' σ' δ' → St F1 H0 F' H' (σ'.set j (some x)) (δ'.set j (.v T)) → tu ⟨NXX F1 H0 (X (n + 1)), D.rt, tz D, NXX F1 H0 (X (n + 1))⟩ (σ'.set j (some x)) H')
    (hd : ∀ δ' σ' F' H', X ss.length F' H' σ' δ' → St F0 H0 F' H' σ' δ' → tz D σ' H') : tSeq (tFor (iAny K ta) (gName j) tu) tz D σ H := by
  refine .inl (h F0 H0 F H σ s _ fun v F1 H1 g1 a1 => ?_)
  obtain ⟨p, ho, rfl, hp, vs, rfl, pv⟩ := a1
  have s1 := s.grow g1
  refine ⟨p, rfl, ⟨vs, SqL.of (g1.fh p _ hp)⟩, for_list (D := { D with nx := tz D }) (xs := vs) (fun n => NXX F1 H0 (X n)) ⟨F1, δ, s1.rebase, h0 F1 H1 g1⟩ ?_ ?_ ?_⟩
  · rintro n σ' H' _ ⟨F', δ', s', _⟩
    exact SqL.of (s'.fh p _ (s'.g.ff p _ hp))
  · rintro n x σ' H' hx ⟨F', δ', s', hI⟩
    obtain ⟨T, hT, px⟩ : ∃ T, ss[n]? = some T ∧ T.P F' x := by
      have hn : n < vs.length := (List.getElem?_eq_some_iff.mp hx).1
      rw [pv.length] at hn
      obtain ⟨w, hw, q⟩ := PairS.get (PairS.mono s'.g.ff pv) (List.getElem?_eq_getElem hn)
      rw [hx] at hw
      cases hw
      exact ⟨_, List.getElem?_eq_getElem hn, q⟩
    exact hs F1 s1.base n T x δ' σ' F' H' hT hI (s'.set_v px)
  · rintro σ' H' ⟨F', δ', s', hI⟩
    rw [pv.length] at hI
    exact hd δ' σ' F' H' hI (s'.unbase s1.base)
/-! ### a dict of lists of one's own -/
def DL (H0 F H : Hp) (σ : L2.St) (i : Nat) (ks : List (List Int)) (D : List Int → List Slot) : Prop :=
  ∃ (d : Addr) (f : List Int → Addr), σ[i]? = some (some (.ref d)) ∧ H d = some (.dT (ks.map fun k => (kx k, V.ref (f k)))) ∧ (H0 d = none ∧ F d = none) ∧
    (∀ k ∈ ks, f k ≠ d ∧ (H0 (f k) = none ∧ F (f k) = none) ∧ ∃ vs, H (f k) = some (.lst vs) ∧ PairS F vs (D k)) ∧ ∀ k ∈ ks, ∀ k' ∈ ks, f k = f k' → k = k'
section
variable {ks : List (List Int)} {Dd : List Int → List Slot} {F' H' : Hp}
theorem DL.grow (g : Grow F H F' H') (h : DL H0 F H σ i ks Dd) : DL H0 F' H' σ i ks Dd := by
  obtain ⟨d, f, e, hd, ⟨z0, zf⟩, hk, inj⟩ := h
  refine ⟨d, f, e, g.hh d _ hd, ⟨z0, g.nw d (by rw [hd]; exact fun z => nomatch z) zf⟩, fun k hk' => ?_, inj⟩
  obtain ⟨h1, ⟨h2, h3⟩, vs, h4, h5⟩ := hk k hk'
  exact ⟨h1, ⟨h2, g.nw _ (by rw [h4]; exact fun z => nomatch z) h3⟩, vs, g.hh _ _ h4, PairS.mono g.ff h5⟩
theorem DL.set {j : Nat} {x : Option V} (h : DL H0 F H σ i ks Dd) (ne : j ≠ i) : DL H0 F H (σ.set j x) i ks Dd := by
  obtain ⟨d, f, e, r⟩ := h
  exact ⟨d, f, by rw [List.getElem?_set_ne ne]; exact e, r⟩
theorem DL.cong {Dd' : List Int → List Slot} (h : DL H0 F H σ i ks Dd) (e : ∀ k ∈ ks, Dd k = Dd' k) : DL H0 F H σ i ks Dd' := by
  obtain ⟨d, f, e1, hd, z, hk, inj⟩ := h
  refine ⟨d, f, e1, hd, z, fun k hk' => ?_, inj⟩
  rw [← e k hk']
  exact hk k hk'
/-- found = {} -/
theorem q_newDL (s : St F0 H0 F H σ δ) (hi : i < δ.length) (k : ∀ σ' F' H', St F0 H0 F' H' σ' (δ.set i .un) → DL H0 F' H' σ' i [] Dd → tz D σ' H') : tSeq (tAsg tDNewT (gName i)) tz D σ H := fun p hp => by
  have g : Grow F H F (upd H p (.dT [])) := Grow.newH s.fh hp
  refine k _ F _ ((s.grow g).set_un (some (.ref p))) ⟨p, fun _ => 0, List.getElem?_set_self (by rw [s.len]; exact hi), upd_same, ⟨s.g.hh.free hp, s.fh.free hp⟩, fun k h => (by cases h), fun k h => (by cases h)⟩
/-- found[x] = [] -/
theorem q_putDL {x : List Int} (s : St F0 H0 F H σ δ) (no : allO δ) (h : DL H0 F H σ i ks Dd) (hb : EvE tb δ (.v (tpS x))) (hn : x ∉ ks) (hz : ks.length < 100000) (hx : Dd x = [])
    (k : ∀ F' H', St F0 H0 F' H' σ δ → DL H0 F' H' σ i (ks ++ [x]) Dd → tz D σ H') : tSeq (sDPut (tVar i) tb (tLst tNil)) tz D σ H := by
  refine ⟨Nat.zero_le _, fun q hq => ?_⟩
  have g1 : Grow F H F (upd H q (.lst [])) := Grow.newH s.fh hq
  have fq := s.fh.free hq
  have q0 := s.g.hh.free hq
  have hqne := h
  have h1 := h.grow g1
  have s1 := s.grow g1
  obtain ⟨d0, f0, e0, hd0, _, hk0, _⟩ := hqne
  obtain ⟨d, _, e, _⟩ := id h1
  refine ⟨.ref d, e, hb F0 H0 F _ σ s1 _ fun y F2 H2 g2 a2 => ?_⟩
  have s2 := s1.grow g2
  have hq2 : H2 q = some (.lst []) := g2.hh q _ upd_same
  have fq2 : F2 q = none := g2.nw q (by rw [upd_same]; exact fun z => nomatch z) fq
  obtain ⟨d', f, e', hd, ⟨z0, zf⟩, hk, inj⟩ := h1.grow g2
  rw [e] at e'
  cases e'
  rw [e0] at e
  cases e
  obtain ⟨b, rfl, hb2, _⟩ := fv_of a2
  have hput : putK (ks.map fun k => (kx k, V.ref (f k))) (kx x) (V.ref q) = (ks.map fun k => (kx k, V.ref (f k))) ++ [(kx x, V.ref q)] := by
    unfold putK
    have e : ((ks.map fun k => (kx k, V.ref (f k))).any fun r => decide (r.1 = kx x)) = false := by
      rw [List.any_eq_false]
      intro r hr c
      obtain ⟨k, hk, rfl⟩ := List.mem_map.mp hr
      have c : kx k = kx x := of_decide_eq_true c
      exact hn (kx_inj c ▸ hk)
    rw [e, if_neg Bool.false_ne_true]
  refine ⟨d0, _, rfl, DPut.t hd (by rw [kx_V]; exact g2.fh b _ hb2) (by rw [List.length_map]; exact sizeLt hz), ?_⟩
  rw [hput]
  have hqd : q ≠ d0 := fun z => by
    rw [z, hd0] at hq
    cases hq
  have hqf : ∀ k ∈ ks, f k ≠ q := fun k hk' z => by
    obtain ⟨_, _, vs, h4, _⟩ := hk k hk'
    obtain ⟨_, _, vs0, h40, _⟩ := hk0 k hk'
    have : H2 (f0 k) = some (.lst vs0) := g2.hh _ _ (g1.hh _ _ h40)
    have hx0 : f0 k ≠ q := fun z2 => by
      rw [z2, hq] at h40
      cases h40
    have e6 : (ks.map fun k => (kx k, V.ref (f k))) = ks.map fun k => (kx k, V.ref (f0 k)) := by
      have e7 : H2 d0 = some (.dT (ks.map fun k => (kx k, V.ref (f0 k)))) := g2.hh _ _ (g1.hh _ _ hd0)
      rw [hd] at e7
      injection e7 with e8
      injection e8
    have e9 := List.map_inj_left.mp e6 k hk'
    have e10 : f k = f0 k := by
      exact V.ref.inj (Prod.mk.inj e9).2
    exact hx0 (e10.symm.trans z)
  refine k F2 _ (s2.mutX no z0 zf) ⟨d0, fun k => if k = x then q else f k, e0, ?_, ⟨z0, zf⟩, fun k hk' => ?_, fun k hk1 k' hk2 e => ?_⟩
  · rw [upd_same, List.map_append]
    congr 2
    congr 1
    · apply List.map_congr_left
      intro k hk'
      show (kx k, V.ref (f k)) = (kx k, V.ref (if k = x then q else f k))
      rw [if_neg (fun z => hn (by rw [← z]; exact hk'))]
    · show [(kx x, V.ref q)] = [(kx x, V.ref (if x = x then q else f x))]
      rw [if_pos rfl]
  · by_cases c : k = x
    · simp only [if_pos c]
      refine ⟨hqd, ⟨q0, fq2⟩, [], ?_, ?_⟩
      · rw [upd_ne hqd]
        exact hq2
      · rw [c, hx]
        exact .nil
    · simp only [if_neg c]
      have hk'' : k ∈ ks := by
        rcases List.mem_append.mp hk' with h | h
        · exact h
        · exact absurd (List.mem_singleton.mp h) c
      obtain ⟨h1, h2, vs, h4, h5⟩ := hk k hk''
      exact ⟨h1, h2, vs, by rw [upd_ne h1]; exact h4, h5⟩
  · have inks : ∀ k, k ∈ ks ++ [x] → k ≠ x → k ∈ ks := fun k h c => by
      rcases List.mem_append.mp h with h | h
      · exact h
      · exact absurd (List.mem_singleton.mp h) c
    by_cases c1 : k = x
    · by_cases c2 : k' = x
      · rw [c1, c2]
      · simp only [if_pos c1, if_neg c2] at e
        exact absurd e.symm (hqf k' (inks k' hk2 c2))
    · by_cases c2 : k' = x
      · simp only [if_neg c1, if_pos c2] at e
        exact absurd e (hqf k (inks k hk1 c1))
      · simp only [if_neg c1, if_neg c2] at e
        exact inj k (inks k hk1 c1) k' (inks k' hk2 c2) e
theorem find_ks {x : List Int} {f : List Int → Addr} (h : x ∈ ks) : valV (ks.map fun k => (kx k, V.ref (f k))) (kx x) = some (V.ref (f x)) := by
  unfold valV
  rw [List.find?_map]
  have e : ((fun q : List Key × V => decide (q.1 = kx x)) ∘ fun k : List Int => (kx k, V.ref (f k))) = fun k => decide (k = x) := by
    funext k
    exact decide_eq_decide.mpr ⟨fun h => kx_inj h, fun h => congrArg kx h⟩
  rw [e]
  have f2 : ks.find? (fun k => decide (k = x)) = some x := by
    cases q : ks.find? fun k => decide (k = x) with
    | none => exact absurd (decide_eq_true rfl) (List.find?_eq_none.mp q x h)
    | some w =>
      have := List.find?_some q
      rw [of_decide_eq_true this]
  rw [f2]
  rfl
/-- found[x].append(e) -/
theorem q_appDL {x : List Int} (s : St F0 H0 F H σ δ) (no : allO δ) (h : DL H0 F H σ i ks Dd) (hb : EvE tb δ (.v (tpS x))) (hx : x ∈ ks) (he : EvE te δ (.v S)) (hz : (Dd x).length < 100000)
    (k : ∀ F' H', St F0 H0 F' H' σ δ → DL H0 F' H' σ i ks (fun y => if y = x then Dd y ++ [S] else Dd y) → tz D σ H') : tSeq (tDrop (tBM K "list" rAppend (tIx K (tVar i) tb) (tCons te tNil))) tz D σ H := by
  obtain ⟨d, _, e, _⟩ := id h
  refine .inr ⟨.ref d, e, hb F0 H0 F H σ s _ fun y F1 H1 g1 a1 => ?_⟩
  have s1 := s.grow g1
  have h1 := h.grow g1
  obtain ⟨d', f, e', hd, zz, hk, inj⟩ := id h1
  rw [e] at e'
  cases e'
  obtain ⟨b, rfl, hb2, _⟩ := fv_of a1
  obtain ⟨n1, n2, vs, hl, _⟩ := hk x hx
  refine ⟨d, .ref (f x), rfl, .inr ⟨_, kx x, b, .inl hd, rfl, by rw [kx_V]; exact g1.fh b _ hb2, (find_ks hx).symm⟩, ?_⟩
  refine ⟨.inl ⟨rfl, vs, SqL.of hl⟩, he F0 H0 F1 H1 σ s1 _ fun v F2 H2 g2 a2 => ?_⟩
  have s2 := s1.grow g2
  obtain ⟨d', f', e', hd2, ⟨z0, zf⟩, hk2, inj2⟩ := h1.grow g2
  rw [e] at e'
  cases e'
  have ef : f' x = f x := by
    have e7 := g2.hh _ _ hd
    rw [hd2] at e7
    injection e7 with e8
    injection e8 with e8
    have e9 := List.map_inj_left.mp e8 x hx
    exact V.ref.inj (Prod.mk.inj e9).2
  obtain ⟨m1, ⟨m2, m3⟩, vs2, hl2, pv2⟩ := hk2 x hx
  rw [ef] at hl2 m1 m2 m3
  have evs : vs2 = vs := by
    have := g2.hh _ _ hl
    rw [hl2] at this
    cases this
    rfl
  subst evs
  refine ⟨f x, vs2, v, rfl, rfl, hl2, by rw [pv2.length]; exact sizeLt hz, ?_⟩
  refine k F2 _ (s2.mutX no m2 m3) ⟨d, f', e, ?_, ⟨z0, zf⟩, fun y hy => ?_, inj2⟩
  · rw [upd_ne (fun z => m1 z.symm)]
    exact hd2
  · obtain ⟨h1, h2, ws, h4, h5⟩ := hk2 y hy
    by_cases c : y = x
    · subst c
      refine ⟨h1, h2, vs2 ++ [v], ?_, ?_⟩
      · rw [ef, upd_same]
      · simp only [if_pos rfl]
        exact PairS.snoc pv2 a2
    · refine ⟨h1, h2, ws, ?_, ?_⟩
      · rw [upd_ne (fun z => c (inj2 y hy x hx (z.trans ef.symm)))]
        exact h4
      · simp only [if_neg c]
        exact h5
/-! ### what is new, frozen; what is frozen, own again -/
open Classical in
noncomputable def addF (F H : Hp) (A : Addr → Prop) : Hp := fun b => if A b then H b else F b
open Classical in
noncomputable def subF (F : Hp) (A : Addr → Prop) : Hp := fun b => if A b then none else F b
theorem addF_in {A : Addr → Prop} {b : Addr} (h : A b) : addF F H A b = H b := by unfold addF; rw [if_pos h]
theorem addF_out {A : Addr → Prop} {b : Addr} (h : ¬ A b) : addF F H A b = F b := by unfold addF; rw [if_neg h]
theorem subF_in {A : Addr → Prop} {b : Addr} (h : A b) : subF F A b = none := by unfold subF; rw [if_pos h]
theorem subF_out {A : Addr → Prop} {b : Addr} (h : ¬ A b) : subF F A b = F b := by unfold subF; rw [if_neg h]
theorem same_add {A : Addr → Prop} (hA : ∀ a, A a → F a = none) : Same F (addF F H A) := fun b o e => by
  rw [addF_out (fun h => by rw [hA b h] at e; cases e)]
  exact e
theorem grow_add {A : Addr → Prop} (g : Grow F0 H0 F H) (hA : ∀ a, A a → H0 a = none ∧ F a = none) : Grow F0 H0 (addF F H A) H := by
  refine ⟨g.ff.trans (same_add fun a h => (hA a h).2), g.hh, fun b o e => ?_, fun b hb n => ?_, fun t b vs e => same_add (fun a h => (hA a h).2) b _ (g.tt t b vs e)⟩
  · by_cases c : A b
    · rw [addF_in c] at e
      exact e
    · rw [addF_out c] at e
      exact g.fh b o e
  · rw [addF_out (fun c => hb (hA b c).1)]
    exact g.nw b hb n
theorem St.add {A : Addr → Prop} (s : St F0 H0 F H σ δ) (no : allO δ) (hA : ∀ a, A a → H0 a = none ∧ F a = none) : St F0 H0 (addF F H A) H σ δ where
  g := grow_add s.g hA
  len := s.len
  at_ := fun i S h => let ⟨v, e, p⟩ := s.at_ i S h; ⟨v, e, S.mono (same_add fun a h => (hA a h).2) p⟩
  ow := fun i o h => (allO_at no h).elim
  bo := fun i o h => let ⟨p, ho, e, hp, z⟩ := s.bo i o h; ⟨p, ho, e, hp, o.mono (same_add fun a h => (hA a h).2) z⟩
  sep := s.sep
  tt := fun b vs e => same_add (fun a h => (hA a h).2) b _ (s.tt b vs e)
  ni := fun i C fs h => (allO_at no h).elim
  sepn := fun i j o a C fs h => (allO_at no h).elim
/-- return found: all its lists frozen -/
theorem q_retDL (s : St F0 H0 F H σ δ) (h : DL H0 F H σ i ks Dd) (k : ∀ v F' H', Grow F0 H0 F' H' → (refS (dicO (ks.map fun k => (kx k, lstS (Dd k))))).P F' v → D.rt v H') : tSeq (tRet (tVar i)) tz D σ H := by
  obtain ⟨d, f, e, hd, ⟨z0, zf⟩, hk, inj⟩ := h
  refine ⟨.ref d, e, ?_⟩
  have hA : ∀ a, (a = d ∨ ∃ k ∈ ks, a = f k) → H0 a = none ∧ F a = none := fun a h => by
    rcases h with rfl | ⟨k, hk', rfl⟩
    · exact ⟨z0, zf⟩
    · exact (hk k hk').2.1
  have sm : Same F (addF F H fun a => a = d ∨ ∃ k ∈ ks, a = f k) := same_add fun a h => (hA a h).2
  refine k (.ref d) (addF F H fun a => a = d ∨ ∃ k ∈ ks, a = f k) H (grow_add s.g hA) ⟨d, _, rfl, (addF_in (.inl rfl)).trans hd, _, rfl, ?_⟩
  have : ∀ l : List (List Int), (∀ k ∈ l, k ∈ ks) → Paired (fun (p : List Key × V) (q : List Key × Slot) => p.1 = q.1 ∧ q.2.P (addF F H fun a => a = d ∨ ∃ k ∈ ks, a = f k) p.2) (l.map fun k => (kx k, V.ref (f k))) (l.map fun k => (kx k, lstS (Dd k))) := by
    intro l
    induction l with
    | nil => intro _; exact .nil
    | cons a l ih =>
      intro hl
      have ha := hl a List.mem_cons_self
      obtain ⟨_, _, vs, h4, h5⟩ := hk a ha
      exact .cons ⟨rfl, f a, _, rfl, (addF_in (.inr ⟨a, ha, rfl⟩)).trans h4, vs, rfl, PairS.mono sm h5⟩ (ih fun k hk => hl k (List.mem_cons_of_mem _ hk))
  exact this ks fun _ h => h
end
/-! ### a pair popped -/
theorem q_popT2 (s : St F0 H0 F H σ δ) (hi : δ[i]? = some (.ow (lstO (ss ++ [tupS [S1, S2]])))) (k : ∀ σ' F' H', St F0 H0 F' H' σ' (((δ.set i (.ow (lstO ss))).set i1 (.v S1)).set i2 (.v S2)) → tz D σ' H') :
    tSeq (tAsg (tBM0 K "list" rPop (tVar i)) (gTup K 2 (gCons (gName i1) (gCons (gName i2) gNil)))) tz D σ H := by
  obtain ⟨p, ho, e, hp, vs, rfl, pv⟩ := s.loc hi
  have split : ∀ {vs : List V} {ss : List Slot} {T : Slot}, PairS F vs (ss ++ [T]) → ∃ ws w, vs = ws ++ [w] ∧ PairS F ws ss ∧ T.P F w := by
    intro vs ss T h
    induction ss generalizing vs with
    | nil =>
      cases h with
      | cons p t => cases t with
        | nil => exact ⟨[], _, rfl, .nil, p⟩
    | cons a l ih =>
      cases h with
      | cons p t =>
        obtain ⟨ws, w, rfl, h1, h2⟩ := ih t
        exact ⟨_ :: ws, w, rfl, .cons p h1, h2⟩
  obtain ⟨ws, w, rfl, h1, t, ho, rfl, ht, us, rfl, pu⟩ := split pv
  refine ⟨.ref p, e, .inl ⟨rfl, _, SqL.of hp⟩, p, _, .ref t, rfl, rfl, hp, by simp, ?_⟩
  rw [List.dropLast_concat]
  have s1 := s.mut (ho := .lst ws) (o' := lstO ss) hi e ⟨ws, rfl, h1⟩
  cases pu with
  | cons p1 t1 => cases t1 with
    | cons p2 t2 => cases t2 with
      | nil =>
        have htp : t ≠ p := fun z => by
          have := s.fh t _ ht
          rw [z, hp] at this
          cases this
        exact ⟨t, _, rfl, SqT.of (s1.fh t _ ht), rfl, _, _, rfl, _, _, rfl, rfl, k _ F _ ((s1.set_v p1).set_v p2)⟩
/-! ### one of many -/
def exO {ι : Type} (P : ι → Prop) (o : ι → Own) : Own := ⟨fun F a ho => ∃ i, P i ∧ (o i).P F a ho, fun s ⟨i, h, z⟩ => ⟨i, h, (o i).mono s z⟩⟩
/-- for x in reversed(xs) -/
theorem q_forRevEx {ι : Type} {P : ι → Prop} {f : ι → List Slot} (s : St F0 H0 F H σ δ) (h : EvAs tr δ [.v (refS (exO P fun i => lstO (f i)))]) (I : ι → Nat → List Ent → Prop) (h0 : ∀ i, P i → I i 0 δ)
    (hs : ∀ i, P i → ∀ F1, Base F0 H0 F1 → ∀ n T δ' σ' F' H', n < (f i).length → (f i).reverse[n]? = some T → I i n δ' → St F1 H0 F' H' σ' (δ'.set j (.v T)) → tu ⟨NX F1 H0 (I i (n + 1)), D.rt, tz D, NX F1 H0 (I i (n + 1))⟩ σ' H')
    (hd : ∀ i, P i → ∀ δ' σ' F' H', I i (f i).length δ' → St F0 H0 F' H' σ' δ' → tz D σ' H') : tSeq (tFor (iRev K tr) (gName j) tu) tz D σ H := by
  refine h F0 H0 F H σ s _ fun vs F1 H1 g1 a1 => ?_
  obtain ⟨x, ex, b1⟩ := one a1
  subst ex
  obtain ⟨p, ho, rfl, hp, ι0, hP, ws, rfl, pv⟩ := b1
  have s1 := s.grow g1
  refine ⟨p, ws, rfl, SqL.of (g1.fh p _ hp), RT.for_Itv (D := { D with nx := tz D }) (xs := ws) (fun n => NX F1 H0 (I ι0 n)) ⟨F1, δ, s1.rebase, h0 ι0 hP⟩ ?_ ?_ ?_⟩
  · rintro n σ' H' ⟨F', δ', s', _⟩
    exact SqL.of (s'.fh p _ (s'.g.ff p _ hp))
  · rintro n x σ' H' hn hx ⟨F', δ', s', hI⟩
    have hl : ws.length = (f ι0).length := pv.length
    have hn2 : n < (f ι0).length := by rw [← hl]; exact hn
    have hg : (f ι0).reverse[n]? = some (f ι0)[(f ι0).length - 1 - n] := by
      rw [List.getElem?_reverse hn2, List.getElem?_eq_getElem (by omega)]
    obtain ⟨w, hw, q⟩ := PairS.get (i := (f ι0).length - 1 - n) (PairS.mono s'.g.ff pv) (List.getElem?_eq_getElem (by omega))
    rw [← hl] at hw
    rw [hx] at hw
    cases hw
    exact hs ι0 hP F1 s1.base n _ δ' _ F' H' hn2 hg hI (s'.set_v q)
  · rintro σ' H' ⟨F', δ', s', hI⟩
    rw [pv.length] at hI
    exact hd ι0 hP δ' σ' F' H' hI (s'.unbase s1.base)
/-! ### lists of new lists -/
def newS (H0 : Hp) (o : Own) : Slot := ⟨fun F v => ∃ a ho, v = .ref a ∧ F a = some ho ∧ o.P F a ho ∧ H0 a = none, fun s ⟨a, ho, e, h, p, n⟩ => ⟨a, ho, e, s a _ h, o.mono s p, n⟩⟩
theorem q_appNew (s : St F0 H0 F H σ δ) (hi : δ[i]? = some (.ow (lstO ss))) (h : EvO te δ o) (hz : ss.length < 100000) (k : ∀ σ' F' H', St F0 H0 F' H' σ' (δ.set i (.ow (lstO (ss ++ [newS H0 o])))) → tz D σ' H') :
    tSeq (tDrop (tBM K "list" rAppend (tVar i) (tCons te tNil))) tz D σ H := by
  obtain ⟨p, ho, e, hp, vs, rfl, pv⟩ := s.loc hi
  refine ⟨.ref p, e, .inl ⟨rfl, vs, SqL.of hp⟩, h F0 H0 F H σ s _ fun q ho F' H' g hn hf hq z => ?_⟩
  have g2 := g.freeze hn hf hq
  have s' := s.grow g2
  refine ⟨p, vs, .ref q, rfl, rfl, g2.hh p _ hp, by rw [pv.length]; exact sizeLt hz, ?_⟩
  exact k _ (upd F' q ho) _ (s'.mut hi e ⟨_, rfl, PairS.snoc (PairS.mono g2.ff pv) ⟨q, ho, rfl, upd_same, o.mono (same_upd hf) z, s.g.hh.free hn⟩⟩)
def encK (c : List (List Int)) : PyData := .list (c.map tpD)
/-- sorted(xs), xs lists of tuples of ints -/
def rSortLL (K : PySem.W.Frag) : List V → Hp → VK → Prop := fun vs H Q => ∃ (a : Addr) (xs : List V) (bs : List (List (List Int))) (R : V → List (List Int) → Prop), vs = [V.ref a] ∧ SqL K H a xs ∧ bs.length ≤ 100000 ∧ Paired R xs bs ∧ (∀ x b, R x b → Dp K H x (encK b)) ∧
  ∀ (ys : List V) (p : Addr), Paired R ys (bs.mergeSort (PySem.W.dataLe false encK)) → H p = none → Q (.ref p) (upd H p (.lst ys))
theorem alike_tps : ∀ xs ys : List (List Int), PySem.W.alikeAll (xs.map tpD) (ys.map tpD) = true
  | [], _ => by rw [List.map_nil, PySem.W.alikeAll]
  | _ :: _, [] => by rw [List.map_nil, List.map_cons, PySem.W.alikeAll]
  | x :: xs, y :: ys => by
    rw [List.map_cons, List.map_cons, PySem.W.alikeAll, alike_tps xs ys, Bool.and_true]
    unfold tpD
    simp only [PySem.W.alike]
    exact PySem.W.alike_ints x y
theorem alike_enc (b b' : List (List Int)) : PySem.W.alike (encK b) (encK b') = true := by
  unfold encK
  simp only [PySem.W.alike]
  exact alike_tps b b'
theorem enc_depth (b : List (List Int)) : (encK b).depth ≤ 2 := by
  unfold encK
  simp only [PyData.depth]
  have : PyData.depthAll (b.map tpD) ≤ 1 := by
    induction b with
    | nil => exact Nat.zero_le _
    | cons x b ih =>
      rw [List.map_cons]
      simp only [PyData.depthAll]
      refine Nat.max_le.mpr ⟨?_, ih⟩
      unfold tpD
      simp only [PyData.depth]
      rw [PySem.W.depth_ints]
      exact Nat.le_refl _
  omega
theorem cr_sortedLL {X : Cx} (hu : X.A.units + 64 < cLine) : CallR X (.builtin "sorted") (rSortLL X.K) := by
  intro pins s σ H vs us Q I r h
  obtain ⟨a, xs, bs, R, rfl, hs, hL, hp, hR, q⟩ := h
  rw [Vals.ref1 r]
  obtain ⟨its, rv, hl, hz⟩ := I.list hs
  have each : ∀ {xs : List V} {its : List Value} {bs : List (List (List Int))}, Vals xs its → Paired R xs bs → PySem.W.EachIs (fun v b => ∃ x, RelV x v ∧ R x b) its bs := by
    intro xs its bs rv hp
    induction hp generalizing its with
    | nil => cases rv; exact .nil
    | cons p _ ih =>
      cases rv with
      | cons r1 r2 => exact .cons ⟨_, r1, p⟩ (ih r2)
  have e := each rv hp
  refine PySem.W.sorted_data (enc := encK) (R := fun v b => ∃ x, RelV x v ∧ R x b) hl.isList e (e.mono fun v b ⟨x, rx, hx⟩ => Dp.reads I (encK b) x v (hR x b hx) rx) (PySem.W.AllAlike.of alike_enc) (PySem.W.Sortable.others fun b => ⟨fun h => (by unfold encK at h; cases h), fun xs h => (by unfold encK at h; cases h)⟩) (size_ok hL)
    (fun b _ => by have := enc_depth b; omega) fun out hlen eo => ?_
  have back : ∀ {out : List Value} {cs : List (List (List Int))}, PySem.W.EachIs (fun v b => ∃ x, RelV x v ∧ R x b) out cs → ∃ ys, Vals ys out ∧ Paired R ys cs := by
    intro out cs h
    induction h with
    | nil => exact ⟨[], .nil, .nil⟩
    | cons p _ ih =>
      obtain ⟨x, r1, r2⟩ := p
      obtain ⟨ys, h1, h2⟩ := ih
      exact ⟨x :: ys, .cons r1 h1, .cons r2 h2⟩
  obtain ⟨ys, vy, py⟩ := back eo
  obtain ⟨ep, he'⟩ := PyProof.Rows.sortedAll_at s.heap its out.toArray
  refine ⟨.ref _, upd H (s.heap.objs.size + 1) (.lst ys), I.laid (t' := s.toks) (fun _ _ => PyProof.Rows.sortedAll_old) (Nat.le_succ _) ⟨?_, out, ep, vy, he'⟩, rfl, q _ _ py (I.hok.fresh (Nat.le_succ _))⟩
  rw [vy.length, hlen]
  exact size_ok hL
def rSortJL (K : PySem.W.Frag) : List V → Hp → VK → Prop := fun vs H Q => rSortJ K vs H Q ∨ rSortLL K vs H Q
theorem kc_sortedL {X : Cx} {k : Nat} (hK : X.K = K) (hc : X.calm = true) (hr : Room k X.A) : CallR X (.builtin "sorted") (rSortJL K) := by
  subst hK
  exact CallR.or (kc_sorted rfl hc) (cr_sortedLL (Room.u64 hr))
theorem eo_sortTL {xs : List (List Int)} {d : Nat} (h : EvE te δ e1) (hr : IsR e1 (lstO (xs.map tpS))) (hd : 1 ≤ d) (hx : ∀ x ∈ xs, TOk d x) : EvO (tCB (rSortJL K) (tCons te tNil)) δ (lstO ((sortT xs).map tpS)) := fun F0 H0 F H σ s Q q =>
  h F0 H0 F H σ s _ fun v F1 H1 g1 a1 => by
    obtain ⟨p, ho, rfl, hp, vs, rfl, pv⟩ := hr.get a1 g1.fh
    have mt := mem_tp pv
    refine .inl (.inl ⟨p, vs, fv F1, d, 64, rfl, SqL.of hp, hd, fun x hm => ?_, fun ys r hperm hs hr => ?_⟩)
    · obtain ⟨⟨t, e1, e2⟩, e3⟩ := mt x hm
      exact ⟨⟨t, e1, SqT.of (g1.fh t _ e2)⟩, hx _ e3⟩
    · have e : ys.map (fv F1) = sortT xs := by
        refine sortT_uniq hx ?_ (List.pairwise_map.mpr hs)
        rw [← pairs_tp pv]
        exact hperm.map _
      refine q r _ F1 _ (g1.trans (Grow.newH g1.fh hr)) (g1.hh.free hr) (g1.fh.free hr) upd_same ⟨_, rfl, ?_⟩
      rw [← e]
      exact tp_pairs fun y hy => (mt y (hperm.mem_iff.mp hy)).1
/-- a new list of new lists of tuples -/
def NestV (H0 F H : Hp) (KK : List (List (List Int))) (v : V) : Prop := ∃ (p : Addr) (as : List Addr), v = .ref p ∧ H p = some (.lst (as.map V.ref)) ∧ (p :: as).Nodup ∧ (H0 p = none ∧ F p = none) ∧
  Paired (fun a c => (H0 a = none ∧ F a = none) ∧ ∃ vs, H a = some (.lst vs) ∧ PairS F vs (c.map tpS)) as KK
theorem dp_tp {x : List Int} {v : V} (s : Same F H) (h : (tpS x).P F v) : Dp K H v (tpD x) := (dat_it (K := K) (e := .v (tpS x)) (xs := x) isR_v).to F H v s h
/-- return sorted(xs), xs a list of new lists -/
theorem q_retNest {Ks KK : List (List (List Int))} (s : St F0 H0 F H σ δ) (f0 : Same F0 H0) (hi : δ[i]? = some (.ow (lstO (Ks.map fun c => newS H0 (lstO (c.map tpS)))))) (hz : Ks.length ≤ 100000) (hk : Ks.mergeSort (PySem.W.dataLe false encK) = KK) (nd : KK.Nodup)
    (k : ∀ v F' H', Grow F0 H0 F' H' → NestV H0 F' H' KK v → D.rt v H') : tSeq (tRet (tCB (rSortJL K) (tCons (tVar i) tNil))) tz D σ H := by
  obtain ⟨p0, ho, e, hp, vs, rfl, pv⟩ := s.loc hi
  refine ⟨.ref p0, e, .inr ⟨p0, vs, Ks, fun x c => (newS H0 (lstO (c.map tpS))).P F x, rfl, SqL.of hp, hz, ?_, fun x c h => ?_, fun ys p py hn => ?_⟩⟩
  · have : ∀ {vs : List V} {Ks : List (List (List Int))}, PairS F vs (Ks.map fun c => newS H0 (lstO (c.map tpS))) → Paired (fun x c => (newS H0 (lstO (c.map tpS))).P F x) vs Ks := by
      intro vs Ks h
      induction Ks generalizing vs with
      | nil => cases h; exact .nil
      | cons c Ks ih =>
        cases h with
        | cons p t => exact .cons p (ih t)
    exact this pv
  · obtain ⟨a, ho, rfl, ha, ⟨ws, rfl, pw⟩, _⟩ := h
    refine .lst (SqL.of (s.fh a _ ha)) ?_
    have : ∀ {ws : List V} {c : List (List Int)}, PairS F ws (c.map tpS) → DpAll K H ws (c.map tpD) := by
      intro ws c h
      induction c generalizing ws with
      | nil => cases h; exact .nil
      | cons x c ih =>
        cases h with
        | cons p t => exact .cons (dp_tp s.fh p) (ih t)
    exact this pw
  · rw [hk] at py
    have hnd : ∀ {ys : List V} {L : List (List (List Int))}, Paired (fun x c => (newS H0 (lstO (c.map tpS))).P F x) ys L → ∃ as : List Addr, ys = as.map V.ref ∧ Paired (fun a c => H0 a = none ∧ ∃ vs, F a = some (.lst vs) ∧ PairS F vs (c.map tpS)) as L := by
      intro ys L h
      induction h with
      | nil => exact ⟨[], rfl, .nil⟩
      | cons p _ ih =>
        obtain ⟨as, e1, e2⟩ := ih
        obtain ⟨a, ho, rfl, ha, ⟨ws, rfl, pw⟩, n⟩ := p
        exact ⟨a :: as, by rw [e1]; rfl, .cons ⟨n, ws, ha, pw⟩ e2⟩
    obtain ⟨as, rfl, pa⟩ := hnd py
    have inl : ∀ {as : List Addr} {L : List (List (List Int))}, Paired (fun a c => H0 a = none ∧ ∃ vs, F a = some (.lst vs) ∧ PairS F vs (c.map tpS)) as L → ∀ a ∈ as, ∃ c ∈ L, H0 a = none ∧ ∃ vs, F a = some (.lst vs) ∧ PairS F vs (c.map tpS) := by
      intro as L h
      induction h with
      | nil => intro a ha; cases ha
      | cons p _ ih =>
        intro a ha
        rcases List.mem_cons.mp ha with rfl | ha
        · exact ⟨_, List.mem_cons_self, p⟩
        · obtain ⟨c, hc, q⟩ := ih a ha
          exact ⟨c, List.mem_cons_of_mem _ hc, q⟩
    have asnd : as.Nodup := by
      have : ∀ {as : List Addr} {L : List (List (List Int))}, Paired (fun a c => H0 a = none ∧ ∃ vs, F a = some (.lst vs) ∧ PairS F vs (c.map tpS)) as L → L.Nodup → as.Nodup := by
        intro as L h
        induction h with
        | nil => intro _; exact List.nodup_nil
        | @cons a c as L p t ih =>
          intro hL
          obtain ⟨h1, h2⟩ := List.nodup_cons.mp hL
          refine List.nodup_cons.mpr ⟨fun ha => ?_, ih h2⟩
          obtain ⟨c', hc', _, ws, hw, pw⟩ := inl t a ha
          obtain ⟨_, us, hu, pu⟩ := p
          rw [hu] at hw
          cases hw
          have e1 := pairs_tp pu
          have e2 := pairs_tp pw
          rw [e1] at e2
          exact h1 (e2 ▸ hc')
      exact this pa nd
    have inH : ∀ a ∈ as, H0 a = none ∧ ∃ vs, F a = some (.lst vs) := fun a ha => by
      obtain ⟨_, _, h1, vs, h2, _⟩ := inl pa a ha
      exact ⟨h1, vs, h2⟩
    have pna : p ∉ as := fun h => by
      obtain ⟨_, vs, h2⟩ := inH p h
      have := s.fh p _ h2
      rw [hn] at this
      cases this
    have hgn := Grow.newH (o := .lst (as.map V.ref)) s.fh hn
    have gg := s.g.trans hgn
    have fp : F p = none := s.fh.free hn
    refine k (.ref p) (subF F (· ∈ as)) _ ⟨fun b o e => ?_, gg.hh, fun b o e => ?_, fun b hb n => ?_, fun t b vs e => ?_⟩ ⟨p, as, rfl, upd_same, List.nodup_cons.mpr ⟨pna, asnd⟩, ⟨s.g.hh.free hn, by rw [subF_out pna]; exact fp⟩, ?_⟩
    · rw [subF_out (fun h => by
        have := f0 b o e
        rw [(inH b h).1] at this
        cases this)]
      exact gg.ff b o e
    · by_cases c : b ∈ as
      · rw [subF_in c] at e
        cases e
      · rw [subF_out c] at e
        exact gg.fh b o e
    · by_cases c : b ∈ as
      · exact subF_in c
      · rw [subF_out c]
        exact gg.nw b hb n
    · have e3 := gg.tt t b vs e
      rw [subF_out (fun h => by
        obtain ⟨_, ws, h2⟩ := inH b h
        rw [h2] at e3
        cases e3)]
      exact e3
    · have fin : ∀ {bs : List Addr} {L : List (List (List Int))}, (∀ b ∈ bs, b ∈ as) → Paired (fun a c => H0 a = none ∧ ∃ vs, F a = some (.lst vs) ∧ PairS F vs (c.map tpS)) bs L →
          Paired (fun a c => (H0 a = none ∧ subF F (· ∈ as) a = none) ∧ ∃ vs, upd H p (.lst (as.map V.ref)) a = some (.lst vs) ∧ PairS (subF F (· ∈ as)) vs (c.map tpS)) bs L := by
        intro bs L hb h
        induction h with
        | nil => exact .nil
        | @cons a c bs L q _ ih =>
          have ha := hb a List.mem_cons_self
          obtain ⟨h1, vs, h2, h3⟩ := q
          refine .cons ⟨⟨h1, subF_in ha⟩, vs, ?_, ?_⟩ (ih fun b h => hb b (List.mem_cons_of_mem _ h))
          · rw [upd_ne (fun z => pna (by rw [← z]; exact ha))]
            exact s.fh a _ h2
          · have : ∀ {ws : List V} {c : List (List Int)}, PairS F ws (c.map tpS) → PairS (subF F (· ∈ as)) ws (c.map tpS) := by
              intro ws c h
              induction c generalizing ws with
              | nil => cases h; exact .nil
              | cons x c ih =>
                cases h with
                | cons p1 t1 =>
                  obtain ⟨t, ho, rfl, ht, us, rfl, pu⟩ := p1
                  have e1 := PairS.kmap (f := V.int) pu
                  subst e1
                  refine .cons (tp_of (F := subF F (· ∈ as)) ?_) (ih t1)
                  rw [subF_out (fun h => by
                    obtain ⟨_, ws, h2⟩ := inH t h
                    rw [h2] at ht
                    cases ht)]
                  exact ht
            exact this h3
      exact fin (fun b h => h) pa
/-! ### what a call tells of the heaps -/
theorem q_setG {R : Rel} {E : XK} {P : Hp → Hp → Hp → Hp → V → Prop} (s : St F0 H0 F H σ δ) (hi : i < δ.length) (h : EvAs tr δ es) (hR : R es (.g P)) (k : ∀ σ' F1 H1 F' H' v, Grow F H F1 H1 → St F0 H0 F' H' σ' (δ.set i .un) → σ'[i]? = some (some v) → P F1 H1 F' H' v → tz D σ' H') :
    tSeq (tAsg (tCall (SpOf R) [] E tr) (gName i)) tz D σ H :=
  h F0 H0 F H σ s _ fun vs F1 H1 g1 a1 => ⟨F1, es, .g P, g1.fh, (s.grow g1).tt, pair_app a1, hR, fun v F' H' g hv => k _ F1 H1 F' H' v g1 (((s.grow g1).grow g).set_un (some v)) (List.getElem?_set_self (by rw [s.len]; exact hi)) hv⟩
theorem NestV.less {H1 : Hp} {KK : List (List (List Int))} {v : V} (h : NestV H1 F H KK v) (sm : Same H0 H1) : NestV H0 F H KK v := by
  obtain ⟨p, as, e, hp, nd, ⟨z0, zf⟩, pa⟩ := h
  exact ⟨p, as, e, hp, nd, ⟨sm.free z0, zf⟩, Paired.mapP pa fun a c ⟨⟨h1, h2⟩, h3⟩ => ⟨⟨sm.free h1, h2⟩, h3⟩⟩
theorem NestV.grow {F' H' : Hp} {KK : List (List (List Int))} {v : V} (g : Grow F H F' H') (h : NestV H0 F H KK v) : NestV H0 F' H' KK v := by
  obtain ⟨p, as, e, hp, nd, ⟨z0, zf⟩, pa⟩ := h
  exact ⟨p, as, e, g.hh p _ hp, nd, ⟨z0, g.nw p (by rw [hp]; exact fun z => nomatch z) zf⟩, Paired.mapP pa fun a c ⟨⟨h1, h2⟩, vs, h3, h4⟩ => ⟨⟨h1, g.nw a (by rw [h3]; exact fun z => nomatch z) h2⟩, vs, g.hh a _ h3, PairS.mono g.ff h4⟩⟩
/-- a test while the nest is taken as frozen -/
theorem q_whenFz {KK : List (List (List Int))} {v : V} {tt : TT} (s : St F0 H0 F H σ δ) (no : allO δ) (hi : δ[i]? = some .un) (hv : σ[i]? = some (some v)) (n : NestV H0 F H KK v) (h : EvT tt (δ.set i (.v (lstS (KK.map fun c => lstS (c.map tpS))))) false)
    (k : ∀ F' H', St F0 H0 F' H' σ δ → NestV H0 F' H' KK v → tz D σ H') : tSeq (tIfS tt tu tNext) tz D σ H := by
  obtain ⟨p, as, rfl, hp, nd, ⟨z0, zf⟩, pa⟩ := id n
  have inl : ∀ {as : List Addr} {L : List (List (List Int))}, Paired (fun a c => (H0 a = none ∧ F a = none) ∧ ∃ vs, H a = some (.lst vs) ∧ PairS F vs (c.map tpS)) as L → ∀ a ∈ as, (H0 a = none ∧ F a = none) ∧ ∃ vs, H a = some (.lst vs) := by
    intro as L h
    induction h with
    | nil => intro a ha; cases ha
    | cons p _ ih =>
      intro a ha
      rcases List.mem_cons.mp ha with rfl | ha
      · obtain ⟨h1, vs, h2, _⟩ := p
        exact ⟨h1, vs, h2⟩
      · exact ih a ha
  have hA : ∀ a, a ∈ p :: as → H0 a = none ∧ F a = none := fun a ha => by
    rcases List.mem_cons.mp ha with rfl | ha
    · exact ⟨z0, zf⟩
    · exact (inl pa a ha).1
  have hL : ∀ a, a ∈ p :: as → ∃ vs, H a = some (.lst vs) := fun a ha => by
    rcases List.mem_cons.mp ha with rfl | ha
    · exact ⟨_, hp⟩
    · exact (inl pa a ha).2
  have sm : Same F (addF F H (· ∈ p :: as)) := same_add fun a h => (hA a h).2
  have hil : i < δ.length := (List.getElem?_eq_some_iff.mp hi).1
  have eσ : σ.set i (some (V.ref p)) = σ := by
    obtain ⟨hlt, e3⟩ := List.getElem?_eq_some_iff.mp hv
    rw [← e3]
    exact List.set_getElem_self hlt
  have s1 : St F0 H0 (addF F H (· ∈ p :: as)) H σ (δ.set i (.v (lstS (KK.map fun c => lstS (c.map tpS))))) := by
    have q := (s.add (A := (· ∈ p :: as)) no hA).set_v (i := i) (v := .ref p) (S := lstS (KK.map fun c => lstS (c.map tpS))) ⟨p, _, rfl, (addF_in List.mem_cons_self).trans hp, _, rfl, ?_⟩
    · rw [eσ] at q
      exact q
    · have : ∀ {bs : List Addr} {L : List (List (List Int))}, (∀ b ∈ bs, b ∈ p :: as) → Paired (fun a c => (H0 a = none ∧ F a = none) ∧ ∃ vs, H a = some (.lst vs) ∧ PairS F vs (c.map tpS)) bs L → PairS (addF F H (· ∈ p :: as)) (bs.map V.ref) (L.map fun c => lstS (c.map tpS)) := by
        intro bs L hb h
        induction h with
        | nil => exact .nil
        | @cons a c bs L q _ ih =>
          obtain ⟨_, vs, h2, h3⟩ := q
          exact .cons ⟨a, _, rfl, (addF_in (hb a List.mem_cons_self)).trans h2, vs, rfl, PairS.mono sm h3⟩ (ih fun b h => hb b (List.mem_cons_of_mem _ h))
      exact this (fun b h => List.mem_cons_of_mem _ h) pa
  refine h F0 H0 _ H σ s1 _ fun F' H' g => ?_
  have hg : Grow F H (subF F' (· ∈ p :: as)) H' := by
    refine ⟨fun b o e => ?_, g.hh, fun b o e => ?_, fun b hb n' => ?_, fun t b vs e => ?_⟩
    · have hb : b ∉ p :: as := fun h => by rw [(hA b h).2] at e; cases e
      rw [subF_out hb]
      exact g.ff b o (sm b o e)
    · by_cases c : b ∈ p :: as
      · rw [subF_in c] at e
        cases e
      · rw [subF_out c] at e
        exact g.fh b o e
    · by_cases c : b ∈ p :: as
      · exact subF_in c
      · rw [subF_out c]
        exact g.nw b hb (by rw [addF_out c]; exact n')
    · have e3 := g.tt (fun b vs e => sm b _ (t b vs e)) b vs e
      rw [subF_out (fun h => by
        obtain ⟨ws, hw⟩ := hL b h
        have := g.hh b _ hw
        rw [e] at this
        cases this)]
      exact e3
  show tz D σ H'
  exact k _ H' (s.grow hg) (n.grow hg)
/-- v[0].append(e) -/
theorem q_app0 {c : List (List Int)} {KK : List (List (List Int))} {v : V} (s : St F0 H0 F H σ δ) (no : allO δ) (hv : σ[i]? = some (some v)) (n : NestV H0 F H (c :: KK) v) (he : EvE te δ (.v S)) (hz : c.length < 100000)
    (k : ∀ F' H' p, v = .ref p → St F0 H0 F' H' σ δ → (∃ ws, H' p = some (.lst ws) ∧ ws.length = KK.length + 1) → (H0 p = none ∧ F' p = none) → tz D σ H') : tSeq (tDrop (tBM K "list" rAppend (tIx K (tVar i) (tC (.int 0))) (tCons te tNil))) tz D σ H := by
  obtain ⟨p, as, rfl, hp, nd, ⟨z0, zf⟩, pa⟩ := n
  cases pa with
  | @cons a _ as' _ q pa' =>
    obtain ⟨⟨h1, h2⟩, vs, h3, h4⟩ := q
    refine .inl ⟨.ref p, hv, .inl ⟨p, V.ref a :: as'.map V.ref, 0, .ref a, rfl, rfl, SqL.of hp, atI_nat (xs := V.ref a :: as'.map V.ref) (j := 0) rfl, ?_⟩⟩
    refine ⟨.inl ⟨rfl, vs, SqL.of h3⟩, he F0 H0 F H σ s _ fun w F2 H2 g2 a2 => ?_⟩
    have s2 := s.grow g2
    have pa3 := g2.hh a _ h3
    have npa : p ≠ a := fun z => (List.nodup_cons.mp nd).1 (z ▸ List.mem_cons_self)
    refine ⟨a, vs, w, rfl, rfl, pa3, by rw [h4.length, List.length_map]; exact sizeLt hz, ?_⟩
    refine k F2 _ p rfl (s2.mutX no h1 (g2.nw a (by rw [h3]; exact fun z => nomatch z) h2)) ⟨V.ref a :: as'.map V.ref, ?_, ?_⟩ ⟨z0, g2.nw p (by rw [hp]; exact fun z => nomatch z) zf⟩
    · rw [upd_ne npa]
      exact g2.hh p _ hp
    · rw [List.length_cons, List.length_map, Paired.length pa']
/-- v.append(e) -/
theorem q_appR {p : Addr} (s : St F0 H0 F H σ δ) (no : allO δ) (hv : σ[i]? = some (some (.ref p))) (hp : ∃ ws, H p = some (.lst ws) ∧ ws.length < 100000) (hf : H0 p = none ∧ F p = none) (he : EvE te δ (.v S)) (k : ∀ F' H', St F0 H0 F' H' σ δ → tz D σ H') :
    tSeq (tDrop (tBM K "list" rAppend (tVar i) (tCons te tNil))) tz D σ H := by
  obtain ⟨ws, hp, hl⟩ := hp
  refine ⟨.ref p, hv, .inl ⟨rfl, ws, SqL.of hp⟩, he F0 H0 F H σ s _ fun w F2 H2 g2 a2 => ?_⟩
  exact ⟨p, ws, w, rfl, rfl, g2.hh p _ hp, sizeLt hl, k F2 _ ((s.grow g2).mutX no hf.1 (g2.nw p (by rw [hp]; exact fun z => nomatch z) hf.2))⟩
end
end J

namespace J
open PySem PySem.Spec L2 PyProof.Rows
/-! ### a comprehension out of which an exception flies -/
section
variable {M : Model} {A : Around} {E : Value → Shared → Prop} {s : Shared} {env : Env}
/-- the block's environment -/
abbrev blkEnv (scope : Scope) (env cenv : Env) : Env := { cenv with scope := relabel scope env }
theorem kinds_of {scope : Scope} (c5 : ∀ x ∈ scope.names, x.2 = .local → scope.names.lookup x.1 = some .local) {vs : List (Str × NameKind)} (sub : ∀ x ∈ vs, x ∈ scope.names) (ce : Env) :
    ∀ x ∈ vs, x.2 = .local → (blkEnv scope env ce).kindOf x.1 = some .local := fun x hx hl => lookup_relabel_local (c5 x (sub x hx) hl)
theorem compr_x {e : Expr} {scope : Scope} {pos : Pos} {newAcc first : Sem Value} {g : Comprehension} {gs : List Comprehension} {cl : List (Str × Addr)} {use : Option (Value → Sem Unit)} {Q : Value → Shared → Prop} {R : Value → Env → Result → Shared → Prop}
    (c1 : clausesOf e = g :: gs) (c2 : ∀ x, foldedSetIterable g.iter env x = pure x) (c3 : closureFor scope env = pure cl) (c4 : scope.kind = .function) (c5 : ∀ x ∈ scope.names, x.2 = .local → scope.names.lookup x.1 = some .local)
    (ok : ∀ acc ce f s', R acc ce (.ok f) s' → compPost M A E use Q acc ce.locals (.ok f) s')
    (er : ∀ acc ce x s', R acc ce (.error x) s' → ∃ m, s'.heap.Ns ce.locals m ∧ ∀ h', Heap.SameBut ce.locals s'.heap h' → wpAny M A (passOn "comprehension.variables-let-go" x ce : Sem Value) (fun _ _ => False) E { s' with heap := h' })
    (h : wpAny M A first (fun x s1 => wpAny M A (pyIter x) (fun it s2 => wpAny M A newAcc (fun acc s3 => wpAny M A (newFunctionEnv scope env.globals cl [] env.qual none .none (some env)) (fun ce s4 =>
      codeAny M A (.compStart e 0 it acc (blkEnv scope env ce)) (R acc (blkEnv scope env ce)) s4) E s3) E s2) E s1) E s) :
    wpAny M A (comprehension e scope env pos newAcc false first use) Q E s := by
  have id2 : ∀ (x : Value) (t : Shared), E x t → E x t := fun _ _ z => z
  have mem1 : ∀ x ∈ (scope.names.filter fun x => (x.2 == .local || x.2 == .cell) && x.1 != (".0" : Str)).reverse, x ∈ scope.names := fun x hx => (List.mem_filter.mp (List.mem_reverse.mp hx)).1
  have mem2 : ∀ x ∈ (scope.names.filter fun x => (x.2 == .local || x.2 == .cell) && x.1 != (".0" : Str)).reverse.drop 1 ++ (scope.names.filter fun x => (x.2 == .local || x.2 == .cell) && x.1 != (".0" : Str)).reverse.take 1, x ∈ scope.names := fun x hx =>
    (List.mem_append.mp hx).elim (fun z => mem1 x (List.mem_of_mem_drop z)) fun z => mem1 x (List.mem_of_mem_take z)
  unfold comprehension
  rw [c3, c1]
  apply wpAny_bind
  refine wpAny_mono h (fun x s1 k1 => ?_) id2
  apply wpAny_bind
  apply wpAny_standAt
  apply wpAny_bind
  refine wpAny_of_eq (c2 x) ?_
  apply wpAny_bind
  apply wpAny_holding
  refine wpAny_mono k1 (fun it s2 k2 => ?_) id2
  apply wpAny_standIf
  apply wpAny_bind
  refine wpAny_mono k2 (fun acc s3 k3 => ?_) id2
  apply wpAny_bind
  apply wpAny_pure
  apply wpAny_bind
  refine wpAny_mono k3 (fun ce s4 k4 => ?_) id2
  dsimp only
  apply wpAny_holding
  apply wpAny_bind
  apply wpAny_attempt
  apply wpAny_holding
  refine wpAny_run (codeAny_mono k4 fun r s5 hr => ?_)
  cases r with
  | error x =>
    obtain ⟨m, ns, hr⟩ := er _ _ _ _ hr
    apply wpAny_bind
    apply wpAny_holding
    exact wpAny_comp_letGo (cenv := blkEnv scope env ce) c4 _ s5 m (kinds_of c5 mem1 ce) ns fun h' _ _ sb => wpAny_mono (hr h' sb) (fun _ _ z => False.elim z) id2
  | ok f =>
    have hr := ok _ _ _ _ hr
    cases use with
    | none =>
      obtain ⟨m, ns, hr⟩ := hr
      apply wpAny_bind
      apply wpAny_holding
      exact wpAny_comp_letGo (cenv := blkEnv scope env ce) c4 _ s5 m (kinds_of c5 mem1 ce) ns fun h' _ _ sb => wpAny_pure (hr h' sb)
    | some u =>
      apply wpAny_bind
      apply wpAny_rule
      apply wpAny_bind
      apply wpAny_holding
      refine wpAny_mono hr (fun _ s6 ⟨m, ns, hr⟩ => ?_) id2
      apply wpAny_bind
      exact wpAny_comp_letGo (cenv := blkEnv scope env ce) c4 _ s6 m (kinds_of c5 mem2 ce) ns fun h' _ _ sb => wpAny_pure (hr h' sb)
end
theorem note_eq {e : Value} {c c' : Env} (h : c.frame = c'.frame) : noteFrame e c = noteFrame e c' := by
  unfold noteFrame PySem.frameOf
  rw [h]
theorem noted_at {M : Model} {A : Around} {E : Value → Shared → Prop} {s : Shared} {env : Env} {outer : List Env} {L a : Addr} {B : Heap} {Z : Obj → Prop} {Q : Unit → Shared → Prop} (hZ : PXN.Steady1 Z) (hfr : A.frames = some (env :: outer)) (hf : env.frame = some L)
    (x : Sky B (env :: outer) a Z L s.heap) (q : ∀ h1, HandSPX.HeldZ B (env :: outer) a Z L h1 → s.heap.UpToSlots h1 → Q () { s with heap := h1 }) : wpAny M A (noteFrame (.ref a) env) Q E s := by
  rcases x with ⟨x1, x2, x3, oe, vs, x4, x5, x6, x7⟩ | x | x
  · exact PXN.look_newZ hZ hfr x3 hf x4 x1 x2 x6 x7 x5 q
  · exact PXN.looks_onZ hZ hfr hf x q
  · exact HandSPX.againZ hf x.2.2.2 (q s.heap x (Heap.UpToSlots.refl _))
theorem frames_at {B B' h h' : Heap} : ∀ {l : List Env}, h.FunFrames B l → (∀ b, B.get? b = none → B'.get? b = none) → (∀ b ∈ frs l, h'.get? b = h.get? b) → h'.FunFrames B' l
  | [], _, _, _ => trivial
  | env :: l, ⟨k1, ⟨L, o, k2, k3, k4, k5⟩, k6⟩, hb, he => ⟨k1, ⟨L, o, k2, hb L k3, (he L (List.mem_filterMap.mpr ⟨env, List.mem_cons_self, k2⟩)).trans k4, k5⟩,
    frames_at k6 hb fun b m => he b (by obtain ⟨e, e1, e2⟩ := List.mem_filterMap.mp m; exact List.mem_filterMap.mpr ⟨e, List.mem_cons_of_mem _ e1, e2⟩)⟩
/-- an exception of the block's element -/
def xeB (Y : Cx) (Eb : XK) (u : Value) (s' : Shared) : Prop := ∃ (pins : List (Addr × Obj)) (σ : L2.St) (H : Hp) (s : Shared), Inv Y pins σ H s ∧ L2N.CX Y.prog Y.w Y.stack H s Eb u s'
/-- what the block's end wants of it -/
def errEnd (X : Cx) (ce : Env) (x : Value) (s' : Shared) : Prop := ∃ m, s'.heap.Ns ce.locals m ∧ ∀ h', Heap.SameBut ce.locals s'.heap h' → wpAny (model X.prog X.w) X.A (passOn "comprehension.variables-let-go" x ce : Sem Value) (fun _ _ => False) X.xe { s' with heap := h' }
section
variable {X : Cx} {W : WX} {pins : List (Addr × Obj)} {σ : L2.St} {H3 : Hp} {s3 : Shared} {ce : Env} {fp : List Addr} {scope : Scope} {Eb : XK}
theorem blk_err (hs : X.stack = X.env :: X.outer) (hf : X.env.frame = some X.env.locals) (tk : L2N.Takes X W) (hE : ∀ cls d σ' H', σ'.length = X.N.length → Eb cls d H' → W cls d σ' H')
    (I3 : Inv X pins σ H3 s3) (cf : ce.frame = X.env.frame) (cL : ce.locals = s3.heap.objs.size) (ff : ∀ b ∈ fp, FpOk X pins H3 b) {u : Value} {s' : Shared} (x : xeB (X.blk s3 H3 scope ce fp) Eb u s') :
    notedBy (model X.prog X.w) X.A ce (fun e s'' => errEnd X ce e s'') u s' := by
  obtain ⟨pins', σ', H', s, Ib, cx⟩ := x
  have I7 : Inv X pins σ H' s := Inv.call' (ch := fp) I3 Ib.os Ib.base Ib.hok Ib.bare fun b hb => let z := ff b hb; ⟨z.2.2.2.1, z.2.1, z.2.2.2.2.1, z.2.2.2.2.2⟩
  obtain ⟨mC, hnC, _⟩ := Ib.loc
  have hnC : s.heap.Ns ce.locals mC := hnC
  have nC : H' ce.locals = none := Ib.free
  have hfr : X.A.frames = some (X.env :: X.outer) := I3.ok.frames.trans (congrArg some hs)
  have inS : ∀ b ∈ frs X.stack, b < s3.heap.objs.size := fun b hb => by
    obtain ⟨_, o, e, _⟩ := I3.stack.mem hb
    exact Heap.lt_size e
  have fr : ce.locals ∉ frs X.stack := fun hm => Nat.lt_irrefl _ (cL ▸ inS _ hm)
  obtain ⟨oC, esC, epC, hoC, hdC, hrC⟩ := id hnC
  have nsC : s'.heap.Ns ce.locals mC := by
    obtain ⟨a, B, H'', cls, d, e, fl, hok, ub, _⟩ := id cx
    exact ⟨oC, esC, epC, fl.1 _ _ (ub.keep _ _ hoC nC fr), hdC, hrC⟩
  have cx' : L2N.CX X.prog X.w X.stack H' s (fun c d H => Eb c d H ∧ H ce.locals = none) u s' := by
    obtain ⟨a, B, H'', cls, d, e, fl, hok, ub, na, os, ag, he⟩ := id cx
    exact ⟨a, B, H'', cls, d, e, fl, hok, ub, na, os, ag, he, ub.free _ _ hoC nC⟩
  obtain ⟨a, B, sI, pins2, σ2, H2, cls, d, rfl, I, nb, up, sky, na, os, ag, w1, w2⟩ := L2N.XE.of_call (W := fun c d _ H => Eb c d H ∧ H ce.locals = none) I7 (fun _ _ _ z => z) cx'
  rw [hs] at sky
  show wpAny _ X.A (noteFrame (.ref a) ce) _ _ _
  rw [note_eq cf]
  refine noted_at L2N.Zn.steady hfr hf sky fun h1 held up1 => ?_
  refine ⟨mC, up1.ns nsC, fun h' sb => ?_⟩
  obtain ⟨k1, k2, k3, oe, vs, T, oT, ts, he, hz, hd, g1, nT, Te, hT, hdT, g3⟩ := held
  obtain ⟨oc, es, ep, hoc, hdc, _⟩ := up1.ns nsC
  have ane : a ≠ ce.locals := fun z => by
    rw [z, hoc] at he
    cases he
    rw [hdc] at hd
    cases hd
  have Tne : T ≠ ce.locals := fun z => by
    rw [z, hoc] at hT
    cases hT
    rw [hdc] at hdT
    cases hdT
  have hid : ∀ {G : Heap} {b : Addr} {o : Obj}, (PySem.W.hideAll G [ce.locals]).get? b = some o → b ≠ ce.locals ∧ G.get? b = some o := fun {G b o} e => by
    refine ⟨fun z => ?_, PySem.W.of_hideAll _ e⟩
    rw [z, PySem.W.hideAll_none _ List.mem_cons_self] at e
    cases e
  have hidN : ∀ {G : Heap} {b : Addr}, G.get? b = none → (PySem.W.hideAll G [ce.locals]).get? b = none := fun {G b} e => by
    cases q : (PySem.W.hideAll G [ce.locals]).get? b with
    | none => rfl
    | some o => rw [(hid q).2] at e; cases e
  have st' : (PySem.W.hideAll B [ce.locals]).StaysIn h' := fun b o e => (sb.2 b (hid e).1).trans (k1 b o (hid e).2)
  have fr' : h'.FunFrames (PySem.W.hideAll B [ce.locals]) (X.env :: X.outer) := frames_at k3 (fun b e => hidN e) fun b hb => sb.2 b fun z => fr (by rw [hs, ← z]; exact hb)
  have I' : Inv X [] σ2 H2 { sI with heap := PySem.W.hideAll sI.heap [ce.locals], toks := sI.toks } := by
    refine Inv.turned (it := ce.locals) (Inv.unpinned (pins := []) (by simpa using I)) (fun b o hb e => PySem.W.hideAll_get _ e (by simpa using hb)) w2 ?_ (.inr ?_) (fun y c e => ?_) fun p hp => ?_
    · rw [cL]
      exact Nat.ne_of_gt I3.lt
    · rw [cL]
      exact I3.sz
    · obtain ⟨v, o, e1, _⟩ := I3.cell y c e
      rw [cL]
      exact Nat.ne_of_lt (Heap.lt_size e1)
    · have z := (I3.pin p (List.mem_append_left _ (by simpa using hp))).1
      rw [cL]
      exact Nat.ne_of_lt (Heap.lt_size z)
  unfold PySem.passOn
  refine wpAny_bind (wpAny_field ((sb.2 a ane).trans he) hd g1 ?_)
  rw [if_neg (show ¬ ((Value.ref T == Value.none) = true) from by simp)]
  have fin : wpAny (model X.prog X.w) X.A (setFlight (.ref a) ce.frame) (fun _ s4 => wpAny (model X.prog X.w) X.A (throw (.ref a) : Sem Value) (fun _ _ => False) X.xe s4) X.xe { s' with heap := h' } := by
    rw [cf, hf]
    refine HandSPX.setFlight_anyZ (base := PySem.W.hideAll B [ce.locals]) (Z := L2N.Zn cls d) (l := X.env :: X.outer) st' fr' ⟨oe, vs, T, oT, ts, (sb.2 a ane).trans he, hz, hd, g1, hidN nT, Te, (sb.2 T Tne).trans hT, hdT, g3⟩ fun h4 a1 a2 a3 a4 => wpAny_throw (tk _ _ ?_)
    refine ⟨a, PySem.W.hideAll B [ce.locals], _, [], σ2, H2, cls, d, rfl, I', fun b o e hb => PySem.W.hideAll_get _ (nb b o (hid e).2 hb) (by simpa using (hid e).1), fun b o e hn => ?_, .inr (.inr ⟨?_, hidN k2, ?_, a3⟩), na, os, ag, hE _ _ _ _ I'.len w1⟩
    · obtain ⟨sl1, e1⟩ := up b o (hid e).2 hn
      obtain ⟨sl2, e2⟩ := up1 b _ e1 hn
      have e3 : h'.get? b = some { o with slots := sl2 } := (sb.2 b (hid e).1).trans e2
      obtain ⟨sl3, e4⟩ := a4 b _ e3 hn
      exact ⟨sl3, e4⟩
    · exact a1
    · rw [hs]
      exact a2
  first
    | exact wpAny_bind (wpAny_pure (wpAny_bind fin))
    | exact wpAny_bind fin

/-- [elt for tg in iter] whose element may raise -/
theorem lcx_core {s : Shared} {H : Hp} {Q : VK} {elt tg iter : Expr} {own : List (Str × Nat)} {pos pos' : Pos} {wi : TI} {g : TG} {te : TE} {use : Option (Value → Sem Unit)} {Qf : Value → Shared → Prop}
    (hs : X.stack = X.env :: X.outer) (hf : X.env.frame = some X.env.locals) (tk : L2N.Takes X W) (hE : ∀ cls d σ' H', σ'.length = X.N.length → Eb cls d H' → W cls d σ' H')
    (hc : X.calm = true) (hN : X.N.Nodup) (I : Inv X pins σ H s) (hi : PI X tg iter wi) (ok : BlkOk X.N X.env.scope scope own)
    (hg : ∀ (s : Shared) (H : Hp) (C : Addr) (cl : List (Str × Addr)) (fp : List Addr), PG (X.blk s H scope (compEnvC scope cl C X.env) fp) tg g)
    (he : ∀ (s : Shared) (H : Hp) (C : Addr) (cl : List (Str × Addr)) (fp : List Addr), PE ((X.blk s H scope (compEnvC scope cl C X.env) fp).wish (xeB (X.blk s H scope (compEnvC scope cl C X.env) fp) Eb)) elt te)
    (hi2 : ∀ x, foldedSetIterable iter X.env x = pure x) (h : tLc wi g tYes te (own.map (·.2)) σ H Q)
    (hRR : ∀ D C s' m H', Inv X pins σ H' s' → Q (.ref D) H' → s'.heap.Ns C m → FpOk X pins H' C → compPost (model X.prog X.w) X.A X.xe use Qf (.ref D) C (.ok .next) s') :
    wpAny (model X.prog X.w) X.A (comprehension (.ListComp elt [⟨tg, iter, [], 0⟩] scope pos) scope X.env pos' (newList []) false (eval iter X.env) use) Qf X.xe s := by
  have free : ∀ y ∈ scope.names, y.2 = .free → ∃ c, X.env.cells.lookup y.1 = some c := fun y hy e => I.ok.has _ (ok.free y hy e)
  refine compr_x (use := use) (R := fun acc ce r t => (∀ f, r = .ok f → compPost (model X.prog X.w) X.A X.xe use Qf acc ce.locals (.ok f) t) ∧ ∀ u, r = .error u → errEnd X ce u t) rfl hi2 (closure_ok free) ok.kind (fun y hy e => by rw [ok.uniq y hy, e])
    (fun acc ce f t z => z.1 f rfl) (fun acc ce u t z => z.2 u rfl) (thn (hi.run pins s σ H _ I h) fun xv s1 q1 => thn q1 fun iv s2 q2 => ?_)
  obtain ⟨it, fp, tn, J, H2, rfl, I2, T, st2, f2, q⟩ := q2
  refine wpAny_newObj_type (newEnv_comp ?blk) (show 0 ≤ sizeLine by decide)
  have nD : H2 s2.heap.objs.size = none := I2.hok.fresh (Nat.le_refl _)
  obtain ⟨V, ⟨m0, v0⟩, turn⟩ := q s2.heap.objs.size nD
  generalize eD : s2.heap.objs.size = D at nD v0 turn ⊢
  generalize e3 : ({ s2 with heap := s2.heap.push { cls := .type "list", data := .seq ([] : List Value).toArray } } : Shared) = s3
  have p3 : s3.heap = s2.heap.push { cls := .type "list", data := .seq ([] : List Value).toArray } := by rw [← e3]
  have I3 : Inv X pins σ (upd H2 D (.lst [])) s3 := by
    subst e3
    refine Inv.laid (t' := s2.toks) I2 (fun b o e => Heap.get?_push_of_some _ e) (Nat.le_of_eq eD) ⟨Nat.zero_le _, [], 0, .nil, ?_⟩
    subst eD
    exact Heap.get?_push_size _ rfl
  have lt2 : ∀ b ∈ fp, b < s2.heap.objs.size := fun b hb => let ⟨o, e, _⟩ := T.obj _ _ st2 b hb; Heap.lt_size e
  have neD : ∀ b ∈ fp, b ≠ D := fun b hb => by rw [← eD]; exact Nat.ne_of_lt (lt2 b hb)
  have f3 : ∀ b ∈ fp, FpOk X pins (upd H2 D (.lst [])) b ∧ b < s3.heap.objs.size := fun b hb =>
    ⟨⟨(upd_ne (neD b hb)).trans (f2 b hb).1, (f2 b hb).2⟩, by rw [p3, Heap.size_push]; exact Nat.lt_succ_of_lt (lt2 b hb)⟩
  have st3 : tn 0 s3.heap := T.keep _ _ _ st2 fun b _ o e => by rw [p3]; exact Heap.get?_push_of_some _ e
  have I4 := block_start I3 ok hN f3
  have pg := hg s3 (upd H2 D (.lst [])) s3.heap.objs.size (cellsFrom (s3.heap.objs.size + 1) scope.names (cloFrom X.env.cells scope.names [])) fp
  have pe := he s3 (upd H2 D (.lst [])) s3.heap.objs.size (cellsFrom (s3.heap.objs.size + 1) scope.names (cloFrom X.env.cells scope.names [])) fp
  have err := fun {u : Value} {s' : Shared} (x : xeB (X.blk s3 (upd H2 D (.lst [])) scope (compEnvC scope (cellsFrom (s3.heap.objs.size + 1) scope.names (cloFrom X.env.cells scope.names [])) s3.heap.objs.size X.env) fp) Eb u s') =>
    (show notedBy _ _ (compEnvC scope (cellsFrom (s3.heap.objs.size + 1) scope.names (cloFrom X.env.cells scope.names [])) s3.heap.objs.size X.env) _ u s' from by refine blk_err hs hf tk hE I3 ?_ ?_ (fun b hb => (f3 b hb).1) x <;> rfl)
  show codeAny _ _ (.compStart (.ListComp elt [⟨tg, iter, [], 0⟩] scope pos) 0 (.ref it) (.ref D) (compEnvC scope (cellsFrom (s3.heap.objs.size + 1) scope.names (cloFrom X.env.cells scope.names [])) s3.heap.objs.size X.env))
    (fun r t => (∀ f, r = .ok f → compPost (model X.prog X.w) X.A X.xe use Qf (.ref D) s3.heap.objs.size (.ok f) t) ∧ ∀ u, r = .error u → errEnd X (compEnvC scope (cellsFrom (s3.heap.objs.size + 1) scope.names (cloFrom X.env.cells scope.names [])) s3.heap.objs.size X.env) u t)
    { s3 with heap := pushCells (s3.heap.push { cls := .type "dict", data := .dict #[] }) scope.names }
  have n3 : ∀ b ∈ fp, (upd H2 D (.lst [])) b = none := fun b hb => (f3 b hb).1.1
  generalize ec : compEnvC scope (cellsFrom (s3.heap.objs.size + 1) scope.names (cloFrom X.env.cells scope.names [])) s3.heap.objs.size X.env = ce at I4 pg pe err ⊢
  have eL : ce.locals = s3.heap.objs.size := by rw [← ec]; rfl
  generalize eH : upd H2 D (.lst []) = H3 at I3 I4 pg pe err v0 n3 f3
  generalize e4 : ({ s3 with heap := pushCells (s3.heap.push { cls := .type "dict", data := .dict #[] }) scope.names } : Shared) = s4 at I4 ⊢
  have st4 : tn 0 s4.heap := T.keep _ _ _ st3 fun b _ o e => by rw [← e4]; exact pushCells_keeps _ _ _ _ (Heap.get?_push_of_some _ e)
  have still : ∀ {σ' : L2.St} {H' : Hp} {s' : Shared}, Inv (X.blk s3 H3 scope ce fp) [] σ' H' s' → (∀ b ∈ fp, H' b = none) → ∀ b ∈ fp, FpOk (X.blk s3 H3 scope ce fp) [] H' b := fun {σ' H' s'} I' hn b hb =>
    ⟨hn b hb, (I'.ok.exf b hb).1, I'.ok.exfs b hb, .inl hb, fun y c e => (I'.ok.exf b hb).2 y c e, fun p hp => by cases hp⟩
  have loop : codeAny (model X.prog X.w) X.A (.compLoop (.ListComp elt [⟨tg, iter, [], 0⟩] scope pos) 0 (.ref it) (.ref D) ce)
      (fun r t => (∀ f, r = .ok f → compPost (model X.prog X.w) X.A X.xe use Qf (.ref D) s3.heap.objs.size (.ok f) t) ∧ ∀ u, r = .error u → errEnd X ce u t) s4 := by
    refine compLoop_any (fun n t => ∃ i H', Inv (X.blk s3 H3 scope ce fp) [] (wipe σ (own.map (·.2))) H' t ∧ tn i t.heap ∧ (∀ b ∈ fp, H' b = none) ∧ V i n H') ?_ m0 ⟨0, H3, I4, st4, n3, v0⟩
    rintro n s5 ⟨i, H5, I5, st5, n5, v5⟩
    rcases turn i n H5 v5 with ⟨stop, qq⟩ | ⟨go, Nx, hNx, step⟩
    · refine thnF (T.done (X.blk s3 H3 scope ce fp) rfl rfl rfl hc i [] s5 _ H5 (fun _ _ => False) I5 (still I5 n5) st5 stop) fun r s6 ⟨hr, I6⟩ => ?_
      subst hr
      have I7 : Inv X pins σ H5 s6 := Inv.call' (ch := fp) I3 I6.os I6.base I6.hok I6.bare fun b hb => let z := (f3 b hb).1; ⟨z.2.2.2.1, z.2.1, z.2.2.2.2.1, z.2.2.2.2.2⟩
      have nC : H5 s3.heap.objs.size = none := by rw [← eL]; exact I6.free
      obtain ⟨m, hn, _⟩ := I6.loc
      have hn : s6.heap.Ns ce.locals m := hn
      rw [eL] at hn
      exact ⟨fun f z => by cases z; exact hRR D s3.heap.objs.size s6 m H5 I7 qq hn (I3.fpOk (Nat.le_refl _) nC), fun u z => by cases z⟩
    · refine thnF (T.item (X.blk s3 H3 scope ce fp) rfl rfl rfl hc i [] s5 _ H5 (fun _ _ => False) I5 (still I5 n5) st5 go) fun r s6 ⟨u, hr, h6⟩ => ?_
      subst hr
      refine thnF h6 fun _ s7 ⟨x, H7, I7, r7, y7, st7, n7⟩ => ?_
      refine thnF (pg.run _ s7 _ H7 x u _ (I7.pinned (still I7 n7) (T.obj _ _ st7)) r7 (step x H7 y7)) fun _ s8 ⟨σ8, H8, I8, hw8, q8⟩ => ?_
      refine thnF ((pts_nil (X := X.blk s3 H3 scope ce fp)).run _ s8 σ8 H8 _ I8 q8) fun b s9 ⟨H9, I9, q9⟩ => ?_
      have fin : ∀ {s' : Shared} {H' : Hp}, Inv (X.blk s3 H3 scope ce fp) ([] ++ pinsAt fp s7.heap) σ8 H' s' → Nx H' → ∃ m, m < n ∧ ∃ i H', Inv (X.blk s3 H3 scope ce fp) [] (wipe σ (own.map (·.2))) H' s' ∧ tn i s'.heap ∧ (∀ b ∈ fp, H' b = none) ∧ V i m H' := fun {s' H'} I' nx => by
        obtain ⟨m', lt', v'⟩ := hNx H' nx
        have pin' : ∀ b ∈ fp, ∀ o, s7.heap.get? b = some o → s'.heap.get? b = some o ∧ H' b = none := fun b hb o e => by
          obtain ⟨z1, z2, _⟩ := I'.pin (b, o) (List.mem_append_right _ (List.mem_append_right _ (mem_pinsAt hb e)))
          exact ⟨z1, z2⟩
        refine ⟨m', lt', i + 1, H', Inv.weak (I'.unpinned (pins := [])) (by rw [← hw8]; exact wipe_length _ _) (fun j v e => ?_), T.keep _ _ _ st7 fun b hb o e => (pin' b hb o e).1, fun b hb => ?_, v'⟩
        · rw [← hw8] at e
          exact (wipe_some e).1
        · obtain ⟨o, e, _⟩ := T.obj _ _ st7 b hb
          exact (pin' b hb o e).2
      cases b with
      | false => exact fin I9 q9
      | true =>
        refine wpAny_mono (pe.run _ s9 σ8 H9 _ (I9.wish _) q9) (fun z s10 ⟨yv, H10, I10, r10, acc, hD10, hz10, nx⟩ => ?_) (fun u s10 x => ?_)
        · exact app_ok (X := X.blk s3 H3 scope ce fp) I10.unwish hD10 hz10 r10 fun s11 I11 => fin I11 nx
        · refine wpAny_mono (err x) (fun _ s11 z => ?_) (fun _ s11 z => ?_)
          · exact ⟨fun f q => (nomatch q), fun u' q => by cases q; exact z⟩
          · exact ⟨fun f q => (nomatch q), fun u' q => by cases q; exact z⟩
  exact codeAny_compStart_list loop (T.self X.A 0 _ _ _ st4 loop)
end
end J

namespace J
open PySem PySem.Spec L2 PyProof.Rows
/-! ### exceptions whose context is None, or one whose own context is None -/
/-- class, dict, context -/
def Zq (v : Value) (cls : Value) (d : Option Addr) : Obj → Prop := fun o => o.cls = cls ∧ o.dict = d ∧ ∀ vs : Array Value, o.data = .fields vs → vs[2]? = some v
theorem Zq.steady {v cls : Value} {d : Option Addr} : PXN.Steady1 (Zq v cls d) := fun o w h => by
  refine ⟨PXN.steady_cls o w h.1, PXN.steady_dict o w h.2.1, ?_⟩
  have h3 := h.2.2
  obtain ⟨c, e, dt, sl⟩ := o
  cases dt with
  | fields vs0 =>
    intro vs q
    have q2 : vs0.setIfInBounds 1 w = vs := Data.fields.inj q
    rw [← q2, Array.getElem?_setIfInBounds_ne (by decide)]
    exact h3 vs0 rfl
  | _ =>
    intro vs q
    cases q
/-- what is known of a context -/
def Past (B : Heap) (H : Hp) (a : Addr) (v : Value) : Prop := v = .none ∨ ∃ (x : Addr) (o : Obj) (vs : Array Value), v = .ref x ∧ x ≠ a ∧ B.get? x = some o ∧ o.data = .fields vs ∧ vs[2]? = some .none ∧ H x = none
def XEq (X : Cx) (W : WX) (u : Value) (s' : Shared) : Prop :=
  ∃ (a : Addr) (B : Heap) (sI : Shared) (pins : List (Addr × Obj)) (σ : L2.St) (H : Hp) (cls : Value) (d : Option Addr) (v : Value),
    u = .ref a ∧ Inv X pins σ H sI ∧ (∀ b o, sI.heap.get? b = some o → b ∉ frs X.stack → B.get? b = some o) ∧ sI.heap.UpToSlots s'.heap ∧
      Sky B X.stack a (Zq v cls d) X.env.locals s'.heap ∧ H a = none ∧ s'.os = sI.os ∧ AllBare s'.gens ∧ Past B H a v ∧ W cls d σ H
def Takesq (X : Cx) (W : WX) : Prop := ∀ u s', XEq X W u s' → X.xe u s'
def CXq (P : Program) (w : World) (outer : List Env) (H : Hp) (s : Shared) (E : XK) (u : Value) (s' : Shared) : Prop :=
  ∃ (a : Addr) (B : Heap) (H' : Hp) (cls : Value) (d : Option Addr) (v : Value), u = .ref a ∧ HandSPX.FlyingZ B outer a (Zq v cls d) s'.heap ∧ HOk P w H' B ∧ UB (frs outer) H H' s.heap B s'.heap ∧ H' a = none ∧ s'.os = s.os ∧ AllBare s'.gens ∧ Past B H' a v ∧ E cls d H'
section
variable {X : Cx} {W : WX} {E : XK} {pins : List (Addr × Obj)} {σ : L2.St} {H : Hp} {s s' : Shared}
/-- one whose context is None -/
theorem q_ofN {u : Value} (x : L2N.XE X W u s') : XEq X W u s' := by
  obtain ⟨a, B, sI, pins, σ, H, cls, d, e, I, nb, up, sky, na, os, ag, w⟩ := x
  exact ⟨a, B, sI, pins, σ, H, cls, d, .none, e, I, nb, up, sky, na, os, ag, .inl rfl, w⟩
theorem takesN (tk : Takesq X W) : L2N.Takes X W := fun u s' x => tk u s' (q_ofN x)
theorem q_leave (hs : X.stack = X.env :: X.outer) (hf : X.env.frame = some X.env.locals) (hex : X.ex = []) {E1 : Value → Shared → Prop} (hW : ∀ cls d σ H, W cls d σ H → E cls d H) {u : Value} (x : XEq X W u s') :
    wpAny (model X.prog X.w) X.A (leaving X.env u) (fun _ s'' => CXq X.prog X.w X.outer X.H_0 X.s_0 E u s'') E1 s' := by
  obtain ⟨a, B, sI, pins, σ, H, cls, d, v, rfl, I, nb, up, sky, na, os, ag, pa, w⟩ := x
  have hfr : X.A.frames = some (X.env :: X.outer) := I.ok.frames.trans (congrArg some hs)
  have old : ∀ b o, X.s_0.heap.get? b = some o → b ∉ X.fs → b ∉ frs X.stack := fun b o e hb hm => by
    rcases List.mem_cons.mp (I.stkSub b hm) with z | z
    · subst z
      exact Nat.lt_irrefl _ (Nat.lt_of_lt_of_le (Heap.lt_size e) I.ok.above)
    · exact hb z
  have nex : ∀ b, b ∉ X.ex := fun b hb => by rw [hex] at hb; cases hb
  have fin : ∀ h1, HandSPX.FlyingZ B X.outer a (Zq v cls d) h1 → s'.heap.UpToSlots h1 → CXq X.prog X.w X.outer X.H_0 X.s_0 E (.ref a) { s' with heap := h1 } := fun h1 fl up1 => by
    refine ⟨a, B, H, cls, d, v, rfl, fl, I.inGround nb, ⟨fun b o e n hb => ?_, fun b o e hb => ?_, fun b o e n => I.base.free b o e n (nex b), fun b o e hb => ?_, I.base.tups, I.base.frzs, I.base.tbls⟩, na, os.trans I.os, ag, pa, hW _ _ _ _ w⟩
    · exact nb b o (I.base.keep b o e n hb (nex b)) (old b o e hb)
    · obtain ⟨_, o0, e0, hnf⟩ := I.ok.funs.mem hb
      rw [e] at e0
      cases e0
      obtain ⟨l1, e1⟩ := I.base.slot b o e (I.ok.frf b hb) hb (nex b)
      obtain ⟨l2, e2⟩ := up b _ e1 hnf
      obtain ⟨l3, e3⟩ := up1 b _ e2 hnf
      exact ⟨l3, e3⟩
    · obtain ⟨o', e1⟩ := I.base.there b o e (nex b)
      exact ⟨o', nb b o' e1 (old b o e hb)⟩
  rw [hs] at sky
  rcases sky with ⟨x1, x2, x3, oe, vs, x4, x5, x6, x7⟩ | x | x
  · exact PXN.leaving_firstZ Zq.steady hfr x3 hf x4 x1 x2 x6 x7 x5 fin
  · exact PXN.leaves_onZ Zq.steady hfr hf x fin
  · exact HandSPX.leaves_heldZ hf x fin
theorem takesq_of (hs : X.stack = X.env :: X.outer) (hf : X.env.frame = some X.env.locals) (hex : X.ex = []) {E1 : Value → Shared → Prop}
    (hx : X.xe = fun e s' => wpAny (model X.prog X.w) X.A (leaving X.env e) (fun _ s'' => CXq X.prog X.w X.outer X.H_0 X.s_0 E e s'') E1 s') : Takesq X (fun cls d _ H => E cls d H) := fun u s' x => by
  rw [hx]
  exact q_leave (W := fun cls d _ H => E cls d H) hs hf hex (fun _ _ _ _ h => h) x
/-- a call's exception -/
theorem q_of_call (I : Inv X pins σ H s) (hW : ∀ cls d H', E cls d H' → W cls d σ H') {u : Value} (c : CXq X.prog X.w X.stack H s E u s') : XEq X W u s' := by
  obtain ⟨a, B, H', cls, d, v, rfl, fl, hok, ub, na, os, ag, pa, he⟩ := c
  obtain ⟨G, g1, g2⟩ := restrict s'.heap fun b => (B.get? b).isSome || decide (b ∈ frs X.stack)
  have st : B.StaysIn s'.heap := fl.1
  have inB : ∀ b o, B.get? b = some o → G.get? b = some o := fun b o e => (g1 b (by simp [e])).trans (st b o e)
  have inF : ∀ b, b ∈ frs X.stack → G.get? b = s'.heap.get? b := fun b hb => g1 b (by simp [hb])
  have of : ∀ b o, G.get? b = some o → s'.heap.get? b = some o ∧ ((B.get? b).isSome = true ∨ b ∈ frs X.stack) := fun b o e => by
    by_cases q : ((B.get? b).isSome || decide (b ∈ frs X.stack)) = true
    · rw [g1 b q] at e
      exact ⟨e, by simpa [Bool.or_eq_true] using q⟩
    · rw [g2 b (by simpa using q)] at e
      cases e
  refine ⟨a, B, { s with heap := G, gens := s'.gens, drawn := s'.drawn, toks := s'.toks }, pins, σ, H', cls, d, v, rfl, ?_, fun b o e hb => ?_, Heap.UpToSlots.of_keeps fun b o e => (of b o e).1, .inr (.inl fl), na, os, ag, pa, hW _ _ _ he⟩
  · refine Inv.call (ch := []) I ⟨fun b o e n hb _ => inB b o (ub.keep b o e n hb), fun b o e n hb _ => ?_, fun b o e n _ => ub.free b o e n, fun b o e _ => ?_, ub.tups, ub.frzs, ub.tbls⟩ (hok.kept inB) ag (fun _ z => nomatch z)
    · obtain ⟨sl, q⟩ := ub.slot b o e hb
      exact ⟨sl, (inF b hb).trans q⟩
    · by_cases hb : b ∈ frs X.stack
      · obtain ⟨sl, q⟩ := ub.slot b o e hb
        exact ⟨_, (inF b hb).trans q⟩
      · obtain ⟨o', q⟩ := ub.there b o e hb
        exact ⟨o', inB b o' q⟩
  · obtain ⟨e1, h | h⟩ := of b o e
    · obtain ⟨o', q⟩ := Option.isSome_iff_exists.mp h
      rw [st b o' q] at e1
      cases e1
      exact q
    · exact absurd h hb
/-- raise where an exception is handled whose context is None -/
theorem ps_raiseQ {e : Expr} {t : L2.St → Hp → XK → Prop} {pos : Pos} (hc : L2H.HotC X) (tk : Takesq X W) (he : L2N.PMk X e t) : PS X (.Raise (some e) none pos) (fun _ σ H => t σ H fun cls d H' => W cls d σ H') := by
  constructor
  intro pins s σ H D I h
  obtain ⟨p, ⟨hh, v1, d1, c1⟩, hp⟩ := hc
  show wpAny _ _ (do standAt pos; raiseStmt X.env (some (do let v ← eval e X.env; standAt pos; pure v)) none) _ _ _
  apply wpAny_bind
  apply wpAny_standAt
  refine HotX.raise_made_hot (x1 := p.1) ?_
  apply wpAny_bind
  refine wpAny_mono (he pins s σ H _ I h) (fun u s1 hu => ?_) fun _ _ x => x
  apply wpAny_bind
  apply wpAny_standAt
  apply wpAny_pure
  obtain ⟨a, oe, vs, sI, H', cls, d, rfl, J, k, hne, ha, hz, hd, h1, na, os, ag, r, q⟩ := hu
  obtain ⟨r1, r2⟩ := r (model X.prog X.w) s1.heap (J.kIn.keeps k)
  obtain ⟨P1, P2, P3, P4, _⟩ := J.pin p (List.mem_append_left _ hp)
  have ne : p.1 ≠ a := fun z => by
    rw [z, hne] at P1
    cases P1
  have lt2 : 2 < vs.size := (Array.getElem?_eq_some_iff.mp (hz.2.2 vs hd)).1
  have g1 : (vs.setIfInBounds 2 (Value.ref p.1))[1]? = some Value.none := (Array.getElem?_setIfInBounds_ne (by decide)).trans h1
  have nfr : p.1 ∉ frs X.stack := fun hm => (List.mem_cons.mp (J.stkSub _ hm)).elim P3 P4
  have at_ : (s1.heap.update a (Obj.mapFields (·.setIfInBounds 2 (.ref p.1)))).get? a = some (oe.mapFields (·.setIfInBounds 2 (.ref p.1))) := Heap.get?_update_self _ ha (Obj.isFreed_of_fields (Obj.data_mapFields hd _))
  have kp : ∀ b o, sI.heap.get? b = some o → (s1.heap.update a (Obj.mapFields (·.setIfInBounds 2 (.ref p.1)))).get? b = some o := fun b o e => by
    rw [Heap.get?_update_other _ _ (fun z => by rw [← z, hne] at e; cases e)]
    exact k b o e
  have nB : (PySem.W.hideAll sI.heap (frs X.stack)).get? a = none := by
    cases q : (PySem.W.hideAll sI.heap (frs X.stack)).get? a with
    | none => rfl
    | some o => rw [PySem.W.of_hideAll _ q] at hne; cases hne
  refine ⟨a, oe, vs, cls, rfl, ha, hz.1, hd, h1, lt2, ne, ⟨hh, p.2, v1, k _ _ P1, d1, c1⟩, r1, r2, tk _ _ ⟨a, PySem.W.hideAll sI.heap (frs X.stack), sI, pins, σ, H', cls, d, .ref p.1, rfl, J, fun b o e hb => PySem.W.hideAll_get _ e hb, Heap.UpToSlots.of_keeps kp, .inl ⟨fun b o e => kp b o (PySem.W.of_hideAll _ e), nB, ?_, _, _, at_, ⟨(Obj.cls_mapFields ..).trans hz.1, (HandSPX.dict_mapFields ..).trans hz.2.1, fun ws e => ?_⟩, Obj.data_mapFields hd _, g1⟩, na, os, ag, .inr ⟨p.1, p.2, v1, rfl, ne, PySem.W.hideAll_get _ P1 nfr, d1, c1, ?_⟩, q⟩⟩
  · exact Heap.FunFrames.of_keeps (fun b o e _ => ⟨o, kp b o e, rfl⟩) (funFrames_none J.stack fun b hb => PySem.W.hideAll_none _ hb)
  · rw [Obj.data_mapFields hd] at e
    cases e
    rw [Array.getElem?_setIfInBounds_self_of_lt lt2]
  · exact P2
/-- a def's own contexts -/
theorem tk_ofQ {P : Program} {w : World} {K : PySem.W.Frag} {mg : Str → Option Value} {base : Heap} {N : List Str} {q : Str} {sc : Scope} {f : Addr} {cd : Value} {A : Around} {outer : List Env} {s : Shared} {H : Hp} :
    Takesq (cxOf (CXq P w) P w K mg base N q sc f cd A outer s H E) (fun c d _ H => E c d H) := takesq_of rfl rfl rfl rfl
theorem px_ofQ {P : Program} {w : World} {K : PySem.W.Frag} {mg : Str → Option Value} {base : Heap} {N : List Str} {q : Str} {sc : Scope} {f : Addr} {cd : Value} {A : Around} {outer : List Env} {s : Shared} {H : Hp} :
    Passes (CXJ P w) (cxOf (CXq P w) P w K mg base N q sc f cd A outer s H E) E := L2N.passes_call (takesN tk_ofQ) fun _ _ _ _ h => h
/-- a callee that lets nothing out -/
theorem px_none {CX : CXT} {X : Cx} (h : ∀ l H s u s', ¬ CX l H s (fun _ _ _ => False) u s') : Passes CX X (fun _ _ _ => False) := fun _ _ _ _ _ _ _ z => (h _ _ _ _ _ z).elim
theorem cxq_no {P : Program} {w : World} {l : List Env} {H : Hp} {s : Shared} {u : Value} {s' : Shared} : ¬ CXq P w l H s (fun _ _ _ => False) u s' := fun ⟨_, _, _, _, _, _, _, _, _, _, _, _, _, _, z⟩ => z
theorem cxn_no {P : Program} {w : World} {l : List Env} {H : Hp} {s : Shared} {u : Value} {s' : Shared} : ¬ CXJ P w l H s (fun _ _ _ => False) u s' := fun ⟨_, _, _, _, _, _, _, _, _, _, _, _, z⟩ => z
/-- a call in the body of a try, a comprehension's element: the wish for all slots of that length -/
abbrev allS (n : Nat) (W : WX) : XK := fun c d H => ∀ σ : L2.St, σ.length = n → W c d σ H
theorem px_trN {X : Cx} {W : WX} (tk : L2N.Takes X W) : Passes (CXJ X.prog X.w) X (allS X.N.length W) := fun pins σ H s u s' I c => tk u s' (L2N.XE.of_call (W := W) I (fun _ _ _ h => h σ I.len) c)
theorem px_trQ {X : Cx} {W : WX} (tk : Takesq X W) : Passes (CXq X.prog X.w) X (allS X.N.length W) := fun pins σ H s u s' I c => tk u s' (q_of_call (W := W) I (fun _ _ _ h => h σ I.len) c)
/-- the element of a comprehension -/
theorem px_blk {X : Cx} {Eb : XK} : Passes (CXJ X.prog X.w) (X.wish (xeB X Eb)) Eb := fun pins σ H s u s' I c => ⟨pins, σ, H, s, I.unwish, c⟩
end
end J

namespace J
open PySem PySem.Spec L2 PyProof.Rows
section
variable {X : Cx} {W : WX} {scope : Scope} {Eb : XK}
/-- name = [.. for .. in ..] whose element may raise -/
theorem ps_setLcX {i : Nat} {y : Str} {py : Pos} {elt tg iter : Expr} {own : List (Str × Nat)} {pos spos : Pos} {wi : TI} {g : TG} {te : TE}
    (hs : X.stack = X.env :: X.outer) (hf : X.env.frame = some X.env.locals) (tk : L2N.Takes X W) (hE : ∀ cls d σ' H', σ'.length = X.N.length → Eb cls d H' → W cls d σ' H')
    (hc : X.calm = true) (hN : X.N.Nodup) (at_ : X.N[i]? = some y) (loc : X.env.scope.names.lookup y = some .local)
    (sw : swapsWith (.ListComp elt [⟨tg, iter, [], 0⟩] scope pos) (some (.Name y py)) spos.line X.env = pure true) (hi : PI X tg iter wi) (ok : BlkOk X.N X.env.scope scope own)
    (hg : ∀ (s : Shared) (H : Hp) (C : Addr) (cl : List (Str × Addr)) (fp : List Addr), PG (X.blk s H scope (compEnvC scope cl C X.env) fp) tg g)
    (he : ∀ (s : Shared) (H : Hp) (C : Addr) (cl : List (Str × Addr)) (fp : List Addr), PE ((X.blk s H scope (compEnvC scope cl C X.env) fp).wish (xeB (X.blk s H scope (compEnvC scope cl C X.env) fp) Eb)) elt te)
    (hi2 : ∀ x, foldedSetIterable iter X.env x = pure x := by intro _; rfl) :
    PS X (.Assign [.Name y py] (.ListComp elt [⟨tg, iter, [], 0⟩] scope pos) spos) (tAsg (tLc wi g tYes te (own.map (·.2))) (gName i)) := by
  constructor
  intro pins s σ H D I h
  rw [exec_Assign_Name_used _ _ _ _ sw]
  apply wpAny_bind
  apply wpAny_standAt
  apply wpAny_bind
  show wpAny _ X.A (do let _ ← comprehension (.ListComp elt [⟨tg, iter, [], 0⟩] scope pos) scope X.env (firstIterPos [⟨tg, iter, [], 0⟩] pos) (newList []) false (eval iter X.env) (some (assign (.Name y py) X.env))) _ _ s
  have h : tLc wi g tYes te (own.map (·.2)) σ H (fun x H1 => gName i x σ H1 D.nx) := h
  apply wpAny_bind
  refine thn (lcx_core (Qf := fun _ t => SP X pins D .next t) hs hf tk hE hc hN I hi ok hg he hi2 h fun D' C t m H' I' q ns fp => ?_) fun _ t z => wpAny_pure (wpAny_pure z)
  obtain ⟨f0, f1, _, f3, f4, f5⟩ := fp
  show wpAny _ _ (assign (.Name y py) X.env (.ref D')) _ _ _
  refine wpAny_assign_Name (store_ok2 (v := V.ref D') I' hN at_ (.inl loc) rfl (fun t2 I2 ⟨b, sb, hb⟩ => ?_) (.inr loc))
  have ne : C ≠ b := hb.elim (fun z => by rw [z]; exact f1) fun z e => f4 y b z e.symm
  exact ⟨m, ns.sameBut sb ne, fun h3 sb3 => ⟨_, H', Inv.turned (t' := t2.toks) I2 (fun b' o hb' e => (sb3.2 b' hb').trans e) f0 f1 f3 f4 f5, q⟩⟩
end
/-! ### try: body / except X: raise ..  / else: -/
section
variable {X : Cx} {x : Str} {C : Addr} {body suite orelse : List Stmt} {b₀ : Stmt} {np pos pos' : Pos} {tb : WX → TS} {ts : Addr → Value → Option Addr → TS} {Wout : WX} {u : TS}
theorem ps_tryXE (ho : PSs X orelse u) (hs : X.stack = X.env :: X.outer) (hf : X.env.frame = some X.env.locals) (gl : Gl X x) (hm : X.mg x = some (.ref C)) (hpa : ∀ hd : Option Value, PassesOwnAt (model X.prog X.w) (X.A.mark hd) X.A X.env X.xe) (tk : Takesq X Wout)
    (hb : ∀ (W : WX) (pn : List (Addr × Obj)) (xe : Value → Shared → Prop), L2N.Takes (X.tr pn xe) W → PSs (X.tr pn xe) body (tb W))
    (hsu : ∀ (a : Addr) (oe : Obj) (cls : Value) (d : Option Addr) (pn : List (Addr × Obj)), L2N.Zn cls d oe → Takesq (L2H.suiteX X a ((a, oe) :: pn)) Wout → L2H.HotC (L2H.suiteX X a ((a, oe) :: pn)) → PSs (L2H.suiteX X a ((a, oe) :: pn)) (b₀ :: suite) (ts a cls d))
    (hdb : (x == ("__debug__" : Str)) = false := by decide) :
    PS X (.Try body [.ExceptHandler (some (.Name x np)) none (b₀ :: suite) pos'] orelse [] pos) (fun D σ H => tb (wOnly X.K (.ref C) ts Wout D) { D with nx := u D } σ H) := by
  constructor
  intro pins s σ H D I h
  have ok := I.ok
  have hfr : X.A.frames = some (X.env :: X.outer) := ok.frames.trans (congrArg some hs)
  refine wpAny_Try_except (wpAny_mono ((hb (wOnly X.K (.ref C) ts Wout D) (X.pn ++ pins) (fun e t1 => wpAny (model X.prog X.w) X.A (noteFrame e X.env) (fun _ t2 => wpAny (model X.prog X.w) X.A (setFlight e none) (fun _ t3 =>
    wpAny (model X.prog X.w) X.A (handleBy e X.env [.ExceptHandler (some (.Name x np)) none (b₀ :: suite) pos']) (SP X pins D) X.xe t3) X.xe t2) X.xe t1) (fun v t' xx => ?_)).run [] s σ H { D with nx := u D } (I.toTry _) h) (fun f t q => ?_) (fun e t z => z))
  · obtain ⟨a, B, sI, pins1, σ1, H1, cls, d, rfl, I1, nb, up, sky, na, os, ag, b, hb1, yes, no⟩ := xx
    have J0 : Inv X pins σ1 H1 sI := I1.ofTry ok
    have sky1 : Sky B (X.env :: X.outer) a (L2N.Zn cls d) X.env.locals t'.heap := by rw [← hs]; exact sky
    show wpAny _ X.A (noteFrame (.ref a) X.env) _ _ _
    refine L2N.Sky.land L2N.Zn.steady hfr hf sky1 fun h1 fl1 up1 => ?_
    have J1 : Inv X pins σ1 H1 { t' with heap := h1 } := J0.landed nb fl1.1 (up.trans up1) os ag
    obtain ⟨o1, vs1, at1, z1, d1⟩ := fl1.there
    have nfr : a ∉ frs (X.env :: X.outer) := fun hm' => by
      obtain ⟨_, o', e', hnf⟩ := fl1.2.2.1.mem hm'
      rw [at1] at e'
      cases e'
      exact hnf _ d1
    have nL : a ≠ X.env.locals := fun z => nfr (List.mem_filterMap.mpr ⟨X.env, List.mem_cons_self, by rw [hf, z]⟩)
    have nF : a ∉ X.fs := fun hm' => by
      obtain ⟨e, he, q⟩ := List.mem_filterMap.mp hm'
      exact nfr (List.mem_filterMap.mpr ⟨e, List.mem_cons_of_mem _ he, q⟩)
    have S1 := J1.suite at1 d1 na nL nF
    refine wpAny_handleBy_cons (codeAny_handlers_test ?_) (by intro q; cases q)
    have ty : PySem.W.Looks (model X.prog X.w) h1 (typeOf (.ref a)) cls := fun A Q E s k q => wpAny_typeOf_ref (k _ _ at1) (by rw [z1.1]; exact q)
    have mt := PySem.W.exm_one (M := model X.prog X.w) (J1.kIn) ty hb1
    refine ld_glob (X := X.suite a ((a, o1) :: (X.pn ++ pins))) S1 gl hm ?_ hdb
    refine mt.here ?_
    cases b with
    | true =>
      apply codeAny_handlers_suite
      refine HandSPX.lands_againZ fl1 fun h2 fl2 up2 => ?_
      have J2 : Inv X pins σ1 H1 { t' with heap := h2 } := J0.landed nb fl2.1 ((up.trans up1).trans up2) os ag
      obtain ⟨o2, vs2, at2, z2, d2⟩ := fl2.there
      have S2 := J2.suite at2 d2 na nL nF
      have tkS : Takesq (L2H.suiteX X a ((a, o2) :: (X.pn ++ pins))) Wout := fun v2 s2 x2 => by
        obtain ⟨a3, B3, s3, pn3, σ3, H3, cls3, d3, c3, e3, I3, y⟩ := x2
        exact tk v2 s2 ⟨a3, B3, s3, pins, σ3, H3, cls3, d3, c3, e3, L2H.unsuiteX I3 ok, y⟩
      have hot : L2H.HotC (L2H.suiteX X a ((a, o2) :: (X.pn ++ pins))) := ⟨(a, o2), ⟨rfl, vs2, d2, z2.2.2 vs2 d2⟩, List.mem_cons_self⟩
      refine wpAny_mono ((hsu a o2 cls d (X.pn ++ pins) z2 tkS hot).run [] _ _ H1 _ (L2H.suiteX_of S2) (yes rfl a na)) (fun f t6 q => ?_) (fun e6 t6 z => hpa (some (.ref a)) e6 t6 z)
      cases f with
      | next => obtain ⟨σ6, H6, S6, q6⟩ := q; exact ⟨_, _, L2H.unsuiteX S6 ok, q6⟩
      | brk => obtain ⟨σ6, H6, S6, q6⟩ := q; exact ⟨_, _, L2H.unsuiteX S6 ok, q6⟩
      | cont => obtain ⟨σ6, H6, S6, q6⟩ := q; exact ⟨_, _, L2H.unsuiteX S6 ok, q6⟩
      | ret v => obtain ⟨v6, σ6, H6, S6, r6, q6⟩ := q; exact ⟨_, _, _, L2H.unsuiteX S6 ok, r6, q6⟩
    | false =>
      show wpAny _ X.A (handleBy (.ref a) X.env []) _ _ _
      apply wpAny_handleBy_nil
      obtain ⟨k1, k2, k3, oe, vs, T, oT, ts', he, hz, hd, g1, hr⟩ := id fl1
      unfold PySem.passOn
      refine wpAny_bind (wpAny_field he hd g1 ?_)
      rw [if_neg (show ¬ ((Value.ref T == Value.none) = true) from by simp)]
      have fin : wpAny (model X.prog X.w) X.A (setFlight (.ref a) X.env.frame) (fun _ s4 => wpAny (model X.prog X.w) X.A (throw (.ref a) : Sem Flow) (SP X pins D) X.xe s4) X.xe { t' with heap := h1 } := by
        rw [hf]
        refine HandSPX.setFlight_upZ (Z := Zq .none cls d) fl1 fun h4 hh4 up4 => wpAny_throw (tk _ _ ?_)
        exact ⟨a, B, sI, pins, σ1, H1, cls, d, .none, rfl, J0, nb, (up.trans up1).trans up4, .inr (.inr (by rw [hs]; exact hh4)), na, os, ag, .inl rfl, no rfl⟩
      first
        | exact wpAny_bind (wpAny_pure (wpAny_bind fin))
        | exact wpAny_bind fin
  · cases f with
    | next => obtain ⟨σ1, H1, J1, q1⟩ := q; exact ho.run pins t σ1 H1 D (J1.ofTry ok) q1
    | brk => obtain ⟨σ1, H1, J1, q1⟩ := q; exact ⟨σ1, H1, J1.ofTry ok, q1⟩
    | cont => obtain ⟨σ1, H1, J1, q1⟩ := q; exact ⟨σ1, H1, J1.ofTry ok, q1⟩
    | ret v => obtain ⟨v1, σ1, H1, J1, r1, q1⟩ := q; exact ⟨v1, σ1, H1, J1.ofTry ok, r1, q1⟩
end
end J

namespace J
open PySem PySem.Spec L2 PyProof.Rows HotX
/-! ### a built-in's own end (StopIteration) where an exception is handled -/
/-- the handled exception: its context is None, or an exception whose context is None -/
def HotH (A : Around) (x1 : Addr) (h : Heap) : Prop := A.handled = some (.ref x1) ∧ ∃ (o : Obj) (vs : Array Value) (v : Value), h.get? x1 = some o ∧ o.data = .fields vs ∧ vs[2]? = some v ∧
  (v = .none ∨ ∃ (x2 : Addr) (o2 : Obj) (vs2 : Array Value), v = .ref x2 ∧ x2 ≠ x1 ∧ h.get? x2 = some o2 ∧ o2.data = .fields vs2 ∧ vs2[2]? = some .none)
theorem HotH.keeps {A : Around} {x1 : Addr} {h h' : Heap} (z : HotH A x1 h) (k : ∀ b o, h.get? b = some o → (∃ vs, o.data = .fields vs ∧ 2 < vs.size) → h'.get? b = some o) : HotH A x1 h' := by
  obtain ⟨z1, o, vs, v, z2, z3, z4, z5⟩ := z
  refine ⟨z1, o, vs, v, k _ _ z2 ⟨vs, z3, (Array.getElem?_eq_some_iff.mp z4).1⟩, z3, z4, z5.imp id ?_⟩
  rintro ⟨x2, o2, vs2, y1, y2, y3, y4, y5⟩
  exact ⟨x2, o2, vs2, y1, y2, k _ _ y3 ⟨vs2, y4, (Array.getElem?_eq_some_iff.mp y5).1⟩, y4, y5⟩
section
variable {prog : Program} {w : World} {A : Around} {E : Value → Shared → Prop} {s : Shared}
theorem plain_unchain : plainId "proto.unchain" = true := by decide +kernel
theorem unchainQ {x1 a : Addr} {h0 : Heap} {Q : Value → Shared → Prop} (z : HotH A x1 h0) (k : ∀ b o, h0.get? b = some o → s.heap.get? b = some o) (na : h0.get? a = none) (q : Q .none s) :
    wpAny (model prog w) A (holding [Value.ref a] (runValue (.builtin "proto.unchain" ⟨[.ref a, .ref x1, .ref x1, .bool false], []⟩))) Q E s := by
  obtain ⟨hh, o, vs, v, g1, g2, g3, g4⟩ := z
  rcases g4 with rfl | ⟨x2, o2, vs2, rfl, n21, y1, y2, y3⟩
  · exact unchained (k _ _ g1) g2 g3 q
  · have n2a : x2 ≠ a := fun e => by rw [e, na] at y1; cases y1
    refine wpAny_holding (wpAny_runValue (codeAny_builtin entry_unchain ?_))
    show wpAny _ _ (field (.ref x1) 2 >>= _) _ _ s
    refine wpAny_bind (wpAny_field (k _ _ g1) g2 g3 ?_)
    rw [if_neg (show ¬ (Value.ref x2 == Value.none) = true from by simp)]
    rw [if_neg (show ¬ (Value.ref x2 == Value.ref a) = true from by simpa using n2a)]
    rw [if_neg (show ¬ (Value.ref x2 == Value.ref x1) = true from by simpa using n21)]
    refine wpAny_bind (wpAny_pure ?_)
    refine wpAny_pure ⟨plainId_quiet plain_unchain _, codeAny_builtin entry_unchain ?_⟩
    show wpAny _ _ (field (.ref x2) 2 >>= _) _ _ s
    refine wpAny_bind (wpAny_field (k _ _ y1) y2 y3 ?_)
    rw [if_pos (show (Value.none == Value.none) = true from rfl)]
    first
    | exact wpAny_bind (wpAny_pure (wpAny_pure q))
    | exact wpAny_pure q
theorem raiseNewQ {α : Type} {a x1 : Addr} {h0 : Heap} {oe : Obj} {vs : Array Value} {Q : α → Shared → Prop} (z : HotH A x1 h0) (k : ∀ b o, h0.get? b = some o → s.heap.get? b = some o) (na : h0.get? a = none) (ha : s.heap.get? a = some oe) (da : oe.data = .fields vs) (hi : 2 < vs.size)
    (hE : E (.ref a) { s with heap := s.heap.update a (Obj.mapFields (·.setIfInBounds 2 (.ref x1))) }) : wpAny (model prog w) A (raiseNew (.ref a) : Sem α) Q E s := by
  have ne : x1 ≠ a := fun e => by
    obtain ⟨_, o, vs, v, g1, _⟩ := z
    rw [e, na] at g1
    cases g1
  have hb : (Value.ref x1 != Value.ref a) = true := ref_bne ne
  unfold raiseNew
  refine wpAny_bind (wpAny_handled ?_)
  rw [z.1]
  show wpAny _ _ (if (Value.ref x1 != Value.ref a) = true then _ else _) _ _ _
  rw [if_pos hb]
  first
  | exact wpAny_bind (unchainQ z k na (wpAny_bind (chained ha da hi (wpAny_throw hE))))
  | exact wpAny_bind (wpAny_bind (unchainQ z k na (chained ha da hi (wpAny_throw hE))))
theorem list_endQ {it l x1 : Addr} {i : Nat} {items : Array Value} {Q : Option Value → Shared → Prop} (z : HotH A x1 s.heap) (n1 : ∀ o vs, s.heap.get? it = some o → o.data = .fields vs → vs.size ≤ 2)
    (hit : s.heap.IsListIter it l i) (hl : s.heap.IsList l items) (hx : items[i]? = none)
    (hQ : ∀ h1, Heap.ExtBut it s.heap h1 → Q none { s with heap := h1 }) : wpAny (model prog w) A (pyNext (.ref it)) Q E s := by
  obtain ⟨o, ho, hc, hd⟩ := id hit
  obtain ⟨ol, hol, _, nl, hdl⟩ := hl
  unfold pyNext
  apply wpAny_bind
  apply wpAny_attempt
  refine wpAny_callSpecial?_slot (name := Str.ofString "__next__") hit.typeIs slot_listiter_next (wpAny_call_entry slot_listiter_next hit.typeIs entry_listiter_next ?_ (args_listiter_next _))
  show wpAny _ _ (field (.ref it) 0 >>= _) _ _ s
  refine wpAny_bind (wpAny_field ho hd (x := .ref l) rfl ?_)
  show wpAny _ _ (if (Value.ref l == Value.none) = true then _ else _) _ _ s
  rw [if_neg (by simp)]
  show wpAny _ _ (field (.ref it) 1 >>= _) _ _ s
  refine wpAny_bind (wpAny_field ho hd (x := .int i 0) rfl ?_)
  show wpAny _ _ (seqItems? (.ref l) >>= _) _ _ s
  apply wpAny_bind
  refine wpAny_seqItems hol hdl ?_
  simp only [Int.toNat_natCast, hx]
  apply wpAny_bind
  apply wpAny_rule
  apply wpAny_bind
  refine wpAny_setField ho hd (by simp) ?_
  have zA : HotH A.in1 x1 (s.heap.update it (Obj.mapFields (·.setIfInBounds 0 Value.none))) := (show HotH A.in1 x1 s.heap from z).keeps fun b ob e ⟨ws, e2, e3⟩ => by
    rw [Heap.get?_update_other _ _ (fun q => by rw [← q] at e; exact absurd (n1 _ _ e e2) (Nat.not_le.mpr e3))]
    exact e
  show wpAny _ _ (newExc (.type "StopIteration") [] >>= _) _ _ _
  apply wpAny_bind
  simp only [newExc, newTuple]
  apply wpAny_bind
  refine wpAny_newObj_type ?_ (by size_fits)
  apply wpAny_bind (m := firstArgMember _ _)
  refine wpAny_of_eq (a := Value.none) (by first | rfl | (simp only [firstArgMember]; rfl)) ?_
  refine wpAny_newObj_type ?_ (by size_fits)
  refine raiseNewQ zA (fun b ob e => Heap.get?_push_of_some _ (Heap.get?_push_of_some _ e)) ?_ (Heap.get?_push_size _ rfl) rfl (by first | (simp; done) | (simp; omega) | (simp only [Array.size_append]; simp; omega)) ?_
  · cases q : (s.heap.update it (Obj.mapFields (·.setIfInBounds 0 Value.none))).get? _ with
    | none => rfl
    | some o1 => exact absurd (Heap.lt_size q) (by simp [Heap.size_push])
  refine wpAny_bind (wpAny_isInstance (T := "StopIteration") (b := true) ⟨_, Heap.get?_update_self _ (Heap.get?_push_size _ rfl) rfl, rfl⟩ isSubtype_stop ?_)
  refine wpAny_pure (hQ _ fun b ob nb e => ?_)
  have e1 : (s.heap.update it (Obj.mapFields (·.setIfInBounds 0 Value.none))).get? b = some ob := (Heap.get?_update_other _ _ (fun q => nb q.symm)).trans e
  have e2 := Heap.get?_push_of_some { cls := .type "tuple", dict := none, data := .seq #[] } e1
  rw [Heap.get?_update_other _ _ (Nat.ne_of_gt (Heap.lt_size (Heap.get?_push_of_some _ e1)))]
  exact Heap.get?_push_of_some _ (Heap.get?_push_of_some _ e1)
end
/-- the same by pins -/
def HotP (A : Around) (x1 : Addr) (ps : List (Addr × Obj)) : Prop := A.handled = some (.ref x1) ∧ ∃ (o : Obj) (vs : Array Value) (v : Value), (x1, o) ∈ ps ∧ o.data = .fields vs ∧ vs[2]? = some v ∧
  (v = .none ∨ ∃ (x2 : Addr) (o2 : Obj) (vs2 : Array Value), v = .ref x2 ∧ x2 ≠ x1 ∧ (x2, o2) ∈ ps ∧ o2.data = .fields vs2 ∧ vs2[2]? = some .none)
theorem HotP.at {A : Around} {x1 : Addr} {ps : List (Addr × Obj)} {h : Heap} (z : HotP A x1 ps) (k : ∀ p ∈ ps, h.get? p.1 = some p.2) : HotH A x1 h := by
  obtain ⟨z1, o, vs, v, z2, z3, z4, z5⟩ := z
  refine ⟨z1, o, vs, v, k _ z2, z3, z4, z5.imp id ?_⟩
  rintro ⟨x2, o2, vs2, y1, y2, y3, y4, y5⟩
  exact ⟨x2, o2, vs2, y1, y2, k _ y3, y4, y5⟩
theorem walksQ {prog : Program} {w : World} {A : Around} {x1 : Addr} {ps : List (Addr × Obj)} (z : HotP A x1 ps) (I ax : Addr) (ne : ax ≠ I) (nps : ∀ p ∈ ps, p.1 ≠ I) (items : Array Value) :
    Walks prog w A I (I :: ax :: ps.map (·.1)) [I] items.size (fun i v => items[i]? = some v) (fun i h => h.IsListIter I ax i ∧ h.IsList ax items ∧ ∀ p ∈ ps, h.get? p.1 = some p.2) where
  sub := fun b hb => by rw [List.mem_singleton.mp hb]; exact List.mem_cons_self
  frame := fun _ _ _ st hk => ⟨st.1.at fun o e => hk I List.mem_cons_self o e, st.2.1.at fun o e => hk ax (List.mem_cons_of_mem _ List.mem_cons_self) o e, fun p hp => hk p.1 (List.mem_cons_of_mem _ (List.mem_cons_of_mem _ (List.mem_map_of_mem hp))) p.2 (st.2.2 p hp)⟩
  item := fun i s Q E hi st hQ => by
    refine wpAny_pyNext_list_item st.1 st.2.1 (x := items[i]) (by simp [hi]) fun h1 it1 sb => ?_
    exact hQ _ h1 s.toks (by simp [hi]) ⟨it1, st.2.1.extBut sb.extBut ne, fun p hp => (sb.2 p.1 (nps p hp)).trans (st.2.2 p hp)⟩ fun b o hb e => sb.extBut b o (fun q => hb (by simp [q])) e
  done := fun s Q E st hQ => by
    refine list_endQ (z.at st.2.2) (fun o vs e d => ?_) st.1 st.2.1 (by simp) fun h1 k1 => hQ h1 s.toks fun b o hb e => k1 b o (fun q => hb (by simp [q])) e
    obtain ⟨o', e', _, d'⟩ := st.1
    rw [e] at e'
    cases e'
    rw [d] at d'
    cases d'
    exact Nat.le_refl 2
  self := fun _ _ _ _ st hQ => wpAny_pyIter_listiter st.1 hQ
theorem cr_anyQ {X : Cx} (hc : ∃ x1, HotP X.A x1 X.pn) : CallR X (.builtin "any") (rAny X.K) := by
  intro pins s σ H vs us Q I r h
  obtain ⟨a, bs, rfl, hs, q⟩ := h
  obtain ⟨its, rv, hl, _⟩ := I.list hs
  obtain ⟨x1, z⟩ := hc
  have z : HotP X.A.in1 x1 X.pn := z
  have hb := rv.bls
  rw [Vals.ref1 r]
  have pin : ∀ p ∈ X.pn, s.heap.get? p.1 = some p.2 := fun p hp => (I.pin p (List.mem_append_left _ hp)).1
  refine call_any_walk (iter_any hl.isList fun s2 e2 st ne => ?_)
  subst e2
  refine ⟨_, _, _, _, _, _, _, rfl, walksQ z _ a ne (fun p hp => Nat.ne_of_lt (Heap.lt_size (pin p hp))) its.toArray, ⟨st.1, st.2, fun p hp => Heap.get?_push_of_some _ (pin p hp)⟩, truth_bools hb, fun h1 tk k1 => ?_⟩
  refine ⟨.bl _, H, I.kept fun b o e => k1 b o (fun hm => ?_) (Heap.get?_push_of_some _ e), ?_, q⟩
  · rw [List.mem_singleton.mp hm] at e
    exact Nat.lt_irrefl _ (Heap.lt_size e)
  · show Value.bool _ = Value.bool _
    rw [← L2.any_range, hb, List.size_toArray, List.length_map]
/-! ### try: body / except X as e: suite -/
theorem suite_drop {X : Cx} {a : Addr} {L pins pn' : List (Addr × Obj)} {σ : L2.St} {H : Hp} {s : Shared} (I : Inv (X.suite a L) pn' σ H s) (sub : ∀ p ∈ X.pn ++ pins, p ∈ L) (ok : X.Ok) : Inv X pins σ H s :=
  ⟨ok, I.os, I.bare, I.base, I.loc, I.cell, I.free, I.freeC, fun p hp => I.pin p (List.mem_append_left _ (sub p hp)), I.hok, I.len⟩
theorem suite_up {X : Cx} {a : Addr} {L pins : List (Addr × Obj)} {σ : L2.St} {H : Hp} {s : Shared} (I : Inv X pins σ H s) (pin : ∀ p ∈ L, s.heap.get? p.1 = some p.2 ∧ H p.1 = none ∧ p.1 ≠ X.env.locals ∧ p.1 ∉ X.fs ∧ ∀ v, p.2.data ≠ .cell v) : Inv (X.suite a L) [] σ H s :=
  ⟨I.ok.suite _ _, I.os, I.bare, I.base, I.loc, I.cell, I.free, I.freeC, fun p hp => pin p (by rw [List.append_nil] at hp; exact hp), I.hok, I.len⟩
section
variable {X : Cx} {x n : Str} {C : Addr} {i : Nat} {body suite : List Stmt} {b₀ : Stmt} {np pos pos' : Pos} {tb : WX → TS} {ts : Addr → Value → Option Addr → TS}
theorem ps_try_asQ (hs : X.stack = X.env :: X.outer) (hf : X.env.frame = some X.env.locals) (hN : X.N.Nodup) (hi : X.N[i]? = some n) (hln : X.env.kindOf n = some .local) (gl : Gl X x) (hm : X.mg x = some (.ref C))
    (hb : ∀ (W : WX) (pn : List (Addr × Obj)) (xe : Value → Shared → Prop), Takesq (X.tr pn xe) W → PSs (X.tr pn xe) body (tb W))
    (hsu : ∀ (a : Addr) (oe : Obj) (cls : Value) (d : Option Addr) (pn : List (Addr × Obj)), Zc cls d oe → (∃ vs, oe.data = .fields vs) → (∃ x1, HotP (X.suite a ((a, oe) :: pn)).A x1 ((a, oe) :: pn)) → PSs (X.suite a ((a, oe) :: pn)) (b₀ :: suite) (ts a cls d))
    (hdb : (x == ("__debug__" : Str)) = false := by decide) :
    PS X (.Try body [.ExceptHandler (some (.Name x np)) (some n) (b₀ :: suite) pos'] [] [] pos) (fun D σ H => tb (wAs X.K (.ref C) i ts (fun _ _ _ _ => False) D) D σ H) := by
  constructor
  intro pins s σ H D I h
  have ok := I.ok
  have hfr : X.A.frames = some (X.env :: X.outer) := ok.frames.trans (congrArg some hs)
  refine wpAny_Try_except (wpAny_mono ((hb (wAs X.K (.ref C) i ts (fun _ _ _ _ => False) D) (X.pn ++ pins) (fun e t1 => wpAny (model X.prog X.w) X.A (noteFrame e X.env) (fun _ t2 => wpAny (model X.prog X.w) X.A (setFlight e none) (fun _ t3 =>
    wpAny (model X.prog X.w) X.A (handleBy e X.env [.ExceptHandler (some (.Name x np)) (some n) (b₀ :: suite) pos']) (SP X pins D) X.xe t3) X.xe t2) X.xe t1) (fun v t' xx => ?_)).run [] s σ H D (I.toTry _) h) (fun f t q => ?_) (fun e t z => z))
  · obtain ⟨a, B, sI, pins1, σ1, H1, cls, d, v, rfl, I1, nb, up, sky, na, os, ag, past, b, hb1, yes, no⟩ := xx
    have J0 : Inv X pins σ1 H1 sI := I1.ofTry ok
    have sky1 : Sky B (X.env :: X.outer) a (Zq v cls d) X.env.locals t'.heap := by rw [← hs]; exact sky
    show wpAny _ X.A (noteFrame (.ref a) X.env) _ _ _
    refine L2N.Sky.land Zq.steady hfr hf sky1 fun h1 fl1 up1 => ?_
    have J1 : Inv X pins σ1 H1 { t' with heap := h1 } := J0.landed nb fl1.1 (up.trans up1) os ag
    obtain ⟨o1, vs1, at1, z1, d1⟩ := fl1.there
    have far : ∀ {h : Heap} {c : Addr} {oc : Obj} {vs : Array Value}, h.FunFrames B (X.env :: X.outer) → h.get? c = some oc → oc.data = .fields vs → c ≠ X.env.locals ∧ c ∉ X.fs := fun {h c oc vs} ff e dd => by
      have nfr : c ∉ frs (X.env :: X.outer) := fun hm' => by
        obtain ⟨_, o', e', hnf⟩ := ff.mem hm'
        rw [e] at e'
        cases e'
        exact hnf _ dd
      refine ⟨fun z => nfr (List.mem_filterMap.mpr ⟨X.env, List.mem_cons_self, by rw [hf, z]⟩), fun hm' => ?_⟩
      obtain ⟨e, he, q⟩ := List.mem_filterMap.mp hm'
      exact nfr (List.mem_filterMap.mpr ⟨e, List.mem_cons_of_mem _ he, q⟩)
    have far1 := far fl1.2.2.1 at1 d1
    have S1 := J1.suite at1 d1 na far1.1 far1.2
    refine wpAny_handleBy_cons (codeAny_handlers_test ?_) (by intro q; cases q)
    have ty : PySem.W.Looks (model X.prog X.w) h1 (typeOf (.ref a)) cls := fun A Q E s k q => wpAny_typeOf_ref (k _ _ at1) (by rw [z1.1]; exact q)
    have mt := PySem.W.exm_one (M := model X.prog X.w) (J1.kIn) ty hb1
    refine ld_glob (X := X.suite a ((a, o1) :: (X.pn ++ pins))) S1 gl hm ?_ hdb
    refine mt.here ?_
    cases b with
    | false => exact (no rfl).elim
    | true =>
      apply codeAny_handlers_suite_as
      refine HandSPX.lands_againZ fl1 fun h2 fl2 up2 => ?_
      have J2 : Inv X pins σ1 H1 { t' with heap := h2 } := J0.landed nb fl2.1 ((up.trans up1).trans up2) os ag
      obtain ⟨o2, vs2, at2, z2, d2⟩ := fl2.there
      have far2 := far fl2.2.2.1 at2 d2
      have key : ∃ L : List (Addr × Obj), (∀ p ∈ X.pn ++ pins, p ∈ (a, o2) :: L) ∧ (∃ x1, HotP (X.suite a ((a, o2) :: L)).A x1 ((a, o2) :: L)) ∧ Inv (X.suite a ((a, o2) :: L)) [] σ1 H1 { t' with heap := h2 } := by
        rcases past with rfl | ⟨x2, oc, vsc, rfl, nxa, gx, dx, cx, hx⟩
        · exact ⟨X.pn ++ pins, fun p hp => List.mem_cons_of_mem _ hp, ⟨a, rfl, o2, vs2, .none, List.mem_cons_self, d2, z2.2.2 vs2 d2, .inl rfl⟩, J2.suite at2 d2 na far2.1 far2.2⟩
        · have far3 := far fl2.2.2.1 (fl2.1 _ _ gx) dx
          refine ⟨(x2, oc) :: (X.pn ++ pins), fun p hp => List.mem_cons_of_mem _ (List.mem_cons_of_mem _ hp), ⟨a, rfl, o2, vs2, .ref x2, List.mem_cons_self, d2, z2.2.2 vs2 d2, .inr ⟨x2, oc, vsc, rfl, nxa, List.mem_cons_of_mem _ List.mem_cons_self, dx, cx⟩⟩, suite_up J2 fun p hp => ?_⟩
          rcases List.mem_cons.mp hp with rfl | hp
          · exact ⟨at2, na, far2.1, far2.2, fun w z => by rw [show o2.data = _ from z] at d2; cases d2⟩
          rcases List.mem_cons.mp hp with rfl | hp
          · exact ⟨fl2.1 _ _ gx, hx, far3.1, far3.2, fun w z => by rw [show oc.data = _ from z] at dx; cases dx⟩
          · exact J2.pin p hp
      obtain ⟨L, sub, hot, S2⟩ := key
      refine store_ok (X := X.suite a ((a, o2) :: L)) (v := .ref a) S2 hN hi (.inl hln) rfl (fun s5 S5 => ?_) (.inr hln)
      refine wpAny_mono ((hsu a o2 cls d L ⟨z2.1, z2.2.1⟩ ⟨_, d2⟩ hot).run [] s5 _ H1 _ S5 (yes rfl a na)) (fun f t6 q => ?_) (fun _ _ z => False.elim z)
      have back : ∀ {σ6 : L2.St} {H6 : Hp} {R : Shared → Prop}, Inv (X.suite a ((a, o2) :: L)) [] σ6 H6 t6 → (∀ t7, Inv X pins (σ6.set i none) H6 t7 → R t7) →
          wpAny (model X.prog X.w) X.A (do bindName X.env n .none; unbindBehindTheSuite X.env n pos') (fun _ t7 => R t7) X.xe t6 := fun {σ6 H6 R} S6 hq => gone_ok (suite_drop S6 sub ok) hN hi hln hq
      cases f with
      | next => obtain ⟨σ6, H6, S6, q6⟩ := q; exact back S6 fun t7 J7 => ⟨_, _, J7, q6⟩
      | brk => obtain ⟨σ6, H6, S6, q6⟩ := q; exact back S6 fun t7 J7 => ⟨_, _, J7, q6⟩
      | cont => obtain ⟨σ6, H6, S6, q6⟩ := q; exact back S6 fun t7 J7 => ⟨_, _, J7, q6⟩
      | ret v => obtain ⟨v6, σ6, H6, S6, r6, q6⟩ := q; exact back S6 fun t7 J7 => ⟨_, _, _, J7, r6, q6⟩
  · cases f with
    | next => obtain ⟨σ1, H1, J1, q1⟩ := q; exact wpAny_execs_nil ⟨σ1, H1, J1.ofTry ok, q1⟩
    | brk => obtain ⟨σ1, H1, J1, q1⟩ := q; exact ⟨σ1, H1, J1.ofTry ok, q1⟩
    | cont => obtain ⟨σ1, H1, J1, q1⟩ := q; exact ⟨σ1, H1, J1.ofTry ok, q1⟩
    | ret v => obtain ⟨v1, σ1, H1, J1, r1, q1⟩ := q; exact ⟨v1, σ1, H1, J1.ofTry ok, r1, q1⟩
/-- what is asked only where p holds -/
theorem pss_if {X : Cx} {p : Prop} {b : List Stmt} {t : TS} (h : p → PSs X b t) : PSs X b (fun D σ H => p ∧ t D σ H) := ⟨fun pins s σ H D I z => (h z.1).run pins s σ H D I z.2⟩
end
end J

namespace J
open PySem PySem.Spec L2 PyProof.Rows
section
variable {K : PySem.W.Frag} {F0 H0 F H : Hp} {σ : L2.St} {δ es : List Ent} {te ta tb to : TE} {tl th : TO} {tz : TS} {D : Ends} {i j : Nat} {S T : Slot} {e e1 e2 : Ent} {c : Addr} {E : XK} {ss : List Slot}
/-! ### a comprehension's element that raises -/
theorem lc_fail {Dl : Addr} {H1 : Hp} {x : V} {H' : Hp} {Nx : Hp → Prop} (s : St F0 H0 F H σ δ) (px : ∀ F', Grow F H F' H' → T.P F' x) (p : LcI F H Dl ss H') (he : EvX te (δ.set j (.v T)) E c) (k : ∀ F' H', Grow F H F' H' → E (.ref c) none H') :
    tYes ((L2.wipe σ [j]).set j (some x)) H' fun b H3 => if b = true then te ((L2.wipe σ [j]).set j (some x)) H3 fun y H4 => ∃ acc, H4 Dl = some (.lst acc) ∧ acc.length < sizeLine ∧ Nx (upd H4 Dl (.lst (acc ++ [y]))) else Nx H3 := by
  obtain ⟨F', acc, g, hf, hp, pa⟩ := p
  have s' : St F0 H0 F' H' ((L2.wipe σ [j]).set j (some x)) (δ.set j (.v T)) := by
    have z := ((s.wipe j).grow g).set_v (i := j) (px F' g)
    rw [set_set_e] at z
    exact z
  show te _ H' _
  exact he F0 H0 F' H' _ s' (fun F3 H3 g3 => k F3 H3 (g.trans g3)) _
theorem ex_lcM {α : Type} (ex : α → Slot) (xs : List α) (f : α → Slot) (n : Nat) (a : α) (h : EvE ta δ e1) (hr : IsR e1 (lstO (xs.map ex))) (hz : xs.length ≤ 40000) (ha : xs[n]? = some a) (he : ∀ x ∈ xs.take n, EvE te (δ.set j (.v (ex x))) (.v (f x)))
    (hx : EvX te (δ.set j (.v (ex a))) E c) : EvX (tLc (iAny K ta) (gName j) tYes te [j]) δ E c := fun F0 H0 F H σ s k Q => by
  refine .inl (h F0 H0 F H σ s _ fun v F1 H1 g1 a1 => ?_)
  obtain ⟨p, ho, rfl, hp, vs, rfl, pv⟩ := hr.get a1 g1.fh
  have s1 := s.grow g1
  have hlen : vs.length = xs.length := by rw [pv.length, List.length_map]
  have hn : n < xs.length := (List.getElem?_eq_some_iff.mp ha).1
  refine ⟨p, rfl, ⟨vs, SqL.of hp⟩, fun Dl hD => lc_list (xs := vs) (fun i H' => i ≤ n ∧ LcI F1 H1 Dl ((xs.take i).map f) H') ⟨Nat.zero_le _, LcI.start g1.fh hD⟩ ?_ ?_ ?_⟩
  · rintro i H' _ ⟨_, F', acc, g, _⟩
    exact SqL.of (g.hh p _ hp)
  · rintro i x H' hi ⟨hin, hI⟩
    have hil : i < xs.length := by
      rw [← hlen]
      exact (List.getElem?_eq_some_iff.mp hi).1
    have hxi : xs[i]? = some xs[i] := List.getElem?_eq_getElem hil
    have px : (ex xs[i]).P F1 x := by
      obtain ⟨w, hw, z⟩ := PairS.get (i := i) (S := ex xs[i]) pv (by rw [List.getElem?_map, hxi]; rfl)
      rw [hi] at hw
      cases hw
      exact z
    by_cases hlt : i < n
    · have hm : xs[i] ∈ xs.take n := by
        rw [List.mem_take_iff_getElem]
        exact ⟨i, by omega, rfl⟩
      refine ⟨wipe1, lc_turn (b := true) (T := ex xs[i]) (S := f xs[i]) (ss := (xs.take i).map f) s1 hD (by rw [List.length_map, List.length_take]; omega) (fun F' g => (ex xs[i]).mono g.ff px) hI et_yes (fun _ => he _ hm) fun H' z => ⟨by omega, ?_⟩⟩
      rw [List.take_add_one, hxi, List.map_append]
      exact z
    · have e : i = n := by omega
      subst e
      have ea : xs[i] = a := by
        rw [hxi] at ha
        exact Option.some.inj ha
      rw [ea] at px
      exact ⟨wipe1, lc_fail (T := ex a) s1 (H1 := H1) (fun F' g => (ex a).mono g.ff px) hI hx fun F' H' g => k F' H' (g1.trans g)⟩
  · rintro H' ⟨hc, _⟩
    omega
/-! ### a store of which nothing is known -/
theorem St.blank {n : Nat} (g : Grow F0 H0 F H) (tt : TupIn F H) (hl : σ.length = n) : St F0 H0 F H σ (List.replicate n .un) := by
  have no : ∀ {k : Nat} {x : Ent}, (List.replicate n Ent.un)[k]? = some x → x = .un := fun {k x} h => by
    rw [List.getElem?_replicate] at h
    split at h
    · exact (Option.some.inj h).symm
    · cases h
  exact ⟨g, by rw [hl, List.length_replicate], fun _ _ h => (nomatch no h), fun _ _ h => (nomatch no h), fun _ _ h => (nomatch no h), fun _ _ _ _ _ _ h _ _ _ => (nomatch no h), tt, fun _ _ _ h => (nomatch no h), fun _ _ _ _ _ _ h _ _ _ => (nomatch no h)⟩
/-! ### texts -/
theorem ev_slS {z : Str} {lo hi : Option Int} (h : EvE te δ (.v (sS z))) (h1 : EvPO tl δ lo) (h2 : EvPO th δ hi) (hz : z.length ≤ 100000) : EvE (tSl (rSlJ K) te tl th) δ (.v (sS (Txt.slice z lo hi))) := fun F0 H0 F H σ s Q q =>
  h F0 H0 F H σ s _ fun x F1 H1 g1 a1 => h1 F0 H0 F1 H1 σ (s.grow g1) _ fun F2 H2 g2 => h2 F0 H0 F2 H2 σ ((s.grow g1).grow g2) _ fun F3 H3 g3 => by
    cases a1
    exact .inr (.inr ⟨z, rfl, size_ok hz, q _ F3 H3 ((g1.trans g2).trans g3) rfl⟩)
theorem jx_c {z : Str} {k : Nat} (hz : z.length ≤ 100000) (hk : k < z.length) : OpE (rIx K) (.v (sS z)) (.v (iS (k : Int))) (.v (sS ⟨#[(TL.tl z).getD k 0]⟩)) := fun F H x y s a b Q q => by
  cases a
  cases b
  refine .inr (.inr ⟨z, k, (TL.tl z).getD k 0, rfl, rfl, size_ok hz, ?_, q _ F H (Grow.refl s) rfl⟩)
  have hk2 : k < z.cps.toList.length := by rw [TL.len_tl] at hk; exact hk
  unfold atI
  rw [ixN_nat hk2]
  show z.cps.toList[k]? = some (z.cps.toList.getD k 0)
  rw [List.getD_eq_getElem?_getD, List.getElem?_eq_getElem hk2]
  rfl
theorem atI_last {α : Type} {xs : List α} {a : α} (h : xs.getLast? = some a) : atI xs (-1) = some a := by
  have hn : xs ≠ [] := fun e => by rw [e] at h; cases h
  have hl := List.length_pos_iff.mpr hn
  unfold atI ixN
  rw [if_neg (by omega), if_pos (by omega)]
  rw [List.getLast?_eq_getElem?] at h
  show xs[_]? = some a
  rw [← h]
  congr 1
  omega
theorem PairS.last {vs : List V} (h : PairS F vs ss) (hx : ss.getLast? = some S) : ∃ v, vs.getLast? = some v ∧ S.P F v := by
  rw [List.getLast?_eq_getElem?] at hx
  obtain ⟨v, hv, z⟩ := PairS.get h hx
  rw [← h.length] at hv
  exact ⟨v, by rw [List.getLast?_eq_getElem?]; exact hv, z⟩
theorem jx_last (h : IsR e1 (lstO ss)) (hx : ss.getLast? = some S) : OpE (rIx K) e1 (.v (iS (-1))) (.v S) := fun F H x y s a b Q q => by
  cases b
  obtain ⟨p, ho, rfl, hp, vs, rfl, pv⟩ := h.get a s
  obtain ⟨v, hv, z⟩ := pv.last hx
  exact .inl ⟨p, vs, -1, v, rfl, rfl, SqL.of hp, atI_last hv, q v F H (Grow.refl s) z⟩
theorem cut_init : cutS' ss none (some (-1)) = ss.dropLast := by
  unfold cutS'
  rw [HT.sIx_none, List.drop_zero, Nat.sub_zero, List.dropLast_eq_take]
  have e : HT.sIx ss.length ss.length (some (-1)) = ss.length - 1 := by
    show (if (-1 : Int) < 0 then ((-1 : Int) + (ss.length : Int)).toNat else min (-1 : Int).toNat ss.length) = _
    rw [if_pos (by decide)]
    omega
  rw [e]
def rStripC : V → List V → Hp → VK → Prop := fun x xs H Q => ∃ a b, x = .str a ∧ xs = [.str b] ∧ a.length ≤ sizeLine ∧ Q (.str (Txt.stripChars a b)) H
theorem mt_stripC {X : Cx} : MtR X "str.strip" rStripC := mt_stripChars
theorem ev_stripC {a b : Str} (h1 : EvE to δ (.v (sS a))) (h2 : EvE te δ (.v (sS b))) (ha : a.length ≤ 100000) : EvE (tBM K "str" rStripC to (tCons te tNil)) δ (.v (sS (Txt.stripChars a b))) := fun F0 H0 F H σ s Q q =>
  h1 F0 H0 F H σ s _ fun x F1 H1 g1 a1 => by
    cases a1
    refine ⟨rfl, h2 F0 H0 F1 H1 σ (s.grow g1) _ fun y F2 H2 g2 a2 => ?_⟩
    cases a2
    exact ⟨a, b, rfl, rfl, size_ok ha, q _ F2 H2 (g1.trans g2) rfl⟩
/-- a text times an int -/
def rMulT : R2 := fun x y H Q => ∃ (z : Str) (k : Nat), x = .str z ∧ y = .int (k : Int) ∧ z.length ≤ 16 ∧ k ≤ 1048576 ∧ Q (.str (Txt.mul z k)) H
theorem jo_muls {X : Cx} : OpR X (binaryOp .Mult) rMulT := by
  intro pins s σ H x y v u Q I rx ry h
  obtain ⟨z, k, rfl, rfl, h1, h2, q⟩ := h
  obtain ⟨t, rfl⟩ := rx
  obtain ⟨t2, rfl⟩ := ry
  exact PySem.W.KXi.mul (n := z.length) rfl h1 (by omega) (by omega) fun t' k' _ _ => ⟨.str _, H, I.tok _, ⟨_, rfl⟩, q⟩
theorem jv_muls {z : Str} {k : Nat} (h1 : z.length ≤ 16) (h2 : k ≤ 1048576) : OpE rMulT (.v (sS z)) (.v (iS (k : Int))) (.v (sS (Txt.mul z k))) := op_k fun _ _ q => ⟨z, k, rfl, rfl, h1, h2, q⟩
theorem jv_inS {z : Str} {xs : List Str} (h : IsR e1 (tupO (xs.map sS))) : OpE (rIn K false) (.v (sS z)) e1 (.v (bS (decide (z ∈ xs)))) := fun F H x y s a b Q q => by
  cases a
  obtain ⟨p, rfl, hp⟩ := IsR.kt (K := K) (f := V.str) h b s
  have fl : (xs.map V.str).all flatV = true := by
    rw [List.all_map, List.all_eq_true]
    intro x _
    rfl
  have key : ∀ l : List Str, inV (V.str z) (l.map V.str) = decide (z ∈ l) := fun l => by
    induction l with
    | nil => rfl
    | cons y l ih =>
      have e : inV (V.str z) ((y :: l).map V.str) = (decide (y = z) || inV (V.str z) (l.map V.str)) := by
        first
          | rfl
          | simp [inV, eqV]
      rw [e, ih]
      by_cases h : y = z
      · subst h
        rw [decide_eq_true rfl, Bool.true_or, decide_eq_true List.mem_cons_self]
      · rw [decide_eq_false h, Bool.false_or]
        congr 1
        rw [List.mem_cons]
        exact propext ⟨.inr, fun q => q.elim (fun q => absurd q.symm h) id⟩
  exact ⟨p, _, rfl, .inr hp, rfl, fl, q _ F H (Grow.refl s) (by rw [if_neg Bool.false_ne_true, key]; rfl)⟩
theorem ev_inS {z : Str} {xs : List Str} (ha : EvE ta δ (.v (sS z))) (hb : EvE tb δ e1) (h : IsR e1 (tupO (xs.map sS))) : EvE (tInJ K ta tb) δ (.v (bS (decide (z ∈ xs)))) := fun F0 H0 F H σ s Q q => .inl (ev_op ha hb (jv_inS h) F0 H0 F H σ s Q q)
/-! ### is None, isinstance -/
theorem op_isNn : OpE (fun x y H Q => y = V.non ∧ Q (.bl (decide (x = .non))) H) (.v nS) (.v nS) (.v (bS true)) := op_k fun _ _ q => ⟨rfl, q⟩
theorem op_isNt : OpE (fun x y H Q => y = V.non ∧ Q (.bl (decide (x = .non))) H) (.v (tupS ss)) (.v nS) (.v (bS false)) := fun F H x y s a b Q q => by
  cases b
  obtain ⟨p, ho, rfl, _⟩ := a
  exact ⟨rfl, q _ F H (Grow.refl s) rfl⟩
theorem kt_ns {K : PySem.W.Frag} : PySem.W.kitOne K (.type "NoneType") (.type "str") = some false := kit_ty (by decide +kernel)
theorem kt_is {K : PySem.W.Frag} : PySem.W.kitOne K (.type "int") (.type "str") = some false := kit_ty (by decide +kernel)
theorem kt_ls {K : PySem.W.Frag} : PySem.W.kitOne K (.type "list") (.type "str") = some false := kit_ty (by decide +kernel)
theorem kt_bs {K : PySem.W.Frag} : PySem.W.kitOne K (.type "bool") (.type "str") = some false := kit_ty (by decide +kernel)
theorem cb_isE {Da a C : Addr} {b : Bool} (hb : PySem.W.kitOne K (.ref Da) (.ref C) = some b) : CbE (rIsE K Da a) [.v (kS (.ref a)), .v (kS (.ref C))] (.v (bS b)) := fun F H xs s h Q q => by
  obtain ⟨x, y, rfl, a1, a2⟩ := two h
  cases a1
  cases a2
  exact ⟨.ref C, .ref C, b, rfl, fun u r => by cases r; rfl, hb, q _ F H (Grow.refl s) rfl⟩
theorem cb_isEt {Da a : Addr} {t : String} {b : Bool} (hb : PySem.W.kitOne K (.ref Da) (.type t) = some b) : CbE (rIsE K Da a) [.v (kS (.ref a)), .v (kS (.ty t))] (.v (bS b)) := fun F H xs s h Q q => by
  obtain ⟨x, y, rfl, a1, a2⟩ := two h
  cases a1
  cases a2
  exact ⟨.ty t, .type t, b, rfl, fun u r => by cases r; rfl, hb, q _ F H (Grow.refl s) rfl⟩
/-! ### a callee that stands in a slot -/
theorem ex_callL {R : Rel} {i : Nat} {f : Addr} {ta : TA} (hi : δ[i]? = some (.v (kS (.ref f)))) (h : EvAs ta δ es) (hR : R es (.x c)) : EvX (tCallL i f (SpOf R) [] E ta) δ E c := fun F0 H0 F H σ s q Q => by
  obtain ⟨v, e, z⟩ := s.at_ i _ hi
  cases z
  exact ⟨e, ex_call h hR F0 H0 F H σ s q Q⟩
theorem ev_callL {R : Rel} {i : Nat} {f : Addr} {ta : TA} (hi : δ[i]? = some (.v (kS (.ref f)))) (h : EvAs ta δ es) (hR : R es (.v S)) : EvE (tCallL i f (SpOf R) [] E ta) δ (.v S) := fun F0 H0 F H σ s Q q => by
  obtain ⟨v, e, z⟩ := s.at_ i _ hi
  cases z
  exact ⟨e, ev_call h hR F0 H0 F H σ s Q q⟩
/-! ### the place of a tuple in a list -/
theorem ev_indexL {x : List Int} {L : List (List Int)} {n : Nat} (ha : EvE ta δ e1) (hr : IsR e1 (lstO (L.map tpS))) (hb : EvE tb δ (.v (tpS x))) (hn : L[n]? = some x) (h1 : ∀ m < n, L[m]? ≠ some x) :
    EvE (tBM K "list" (rIndexD K) ta (tCons tb tNil)) δ (.v (iS (n : Int))) := fun F0 H0 F H σ s Q q =>
  ha F0 H0 F H σ s _ fun v F1 H1 g1 a1 => by
    obtain ⟨p, ho, rfl, hp, vs, rfl, pv⟩ := hr.get a1 g1.fh
    refine ⟨.inl ⟨rfl, vs, SqL.of hp⟩, hb F0 H0 F1 H1 σ (s.grow g1) _ fun y F2 H2 g2 a2 => ?_⟩
    have d1 := dat_ltp (K := K) hr
    have d2 := dat_tp (K := K) (x := x) (e := .v (tpS x)) isR_v
    refine ⟨p, y, tpD x, L.map tpD, n, tpD x, rfl, rfl, d1.to F2 H2 _ g2.fh (a1.grow g2), d2.to F2 H2 _ g2.fh a2, d1.sh, d2.sh, by rw [List.getElem?_map, hn]; rfl, by rw [eqv_tp]; exact decide_eq_true rfl, fun m z hm hz => ?_, q _ F2 H2 (g1.trans g2) rfl⟩
    rw [List.getElem?_map] at hz
    cases e : L[m]? with
    | none => rw [e] at hz; cases hz
    | some w =>
      rw [e] at hz
      cases hz
      rw [eqv_tp]
      exact decide_eq_false fun z => h1 m hm (by rw [e, z])
end
end J

namespace J
open PySem PySem.Spec L2 PyProof.Rows
/-! ### defs whose exceptions may have a context -/
structure CalQ (P : Program) (w : World) (K : PySem.W.Frag) (mg : Str → Option Value) (base : Heap) (k : Nat) (x : Str) (sp : Sp) : Prop where
  ex : ∃ (f : Addr) (fd : FuncData) (ps : List Str), FnOk P w K mg base (CXq P w) k f fd ps sp ∧ mg x = some (.ref f) ∧ PySem.W.keepIn K (.ref f) = true ∧ Binds K fd ps []
section
variable {X : Cx} {k j i : Nat} {C f : Addr} {x y : Str} {sp : Sp} {p pos : Pos} {e : Expr} {es : List Expr} {t : TA} {E : XK} {W : WX} {K : PySem.W.Frag}
/-- a call that lets nothing out -/
theorem pe_cQ (c : CalQ X.prog X.w X.K X.mg X.base k x sp) (hr : Room j X.A) (hk : k ≤ j) (hg : Gl X x) (ha : PA X (e :: es) t)
    (hdb : (x == ("__debug__" : Str)) = false := by decide) (he : starEach (e :: es) X.env = (false, eval e X.env) :: starEach es X.env := by rfl) (hpl : (backTo pos (starEach es X.env)).any (·.1) = false := by rfl) :
    PE X (.Call (.Name x p) (e :: es) [] pos) (tCall sp [] (fun _ _ _ => False) t) := by
  obtain ⟨f, fd, ps, F, hm, kp, b⟩ := c.ex
  exact pe_call F (hr.mono hk) hg hm kp b .nil (px_none fun _ _ _ _ _ => cxq_no) ha hdb he hpl
/-- the callee stands in a slot -/
theorem pe_callLQ (c : CalQ X.prog X.w X.K X.mg X.base k x sp) (v : ∃ u, X.mg x = some u ∧ RelV (.ref f) u) (hr : Room j X.A) (hk : k ≤ j) (hN : X.N[i]? = some y) (hv : Vis X.env.scope y) (hx : Passes (CXq X.prog X.w) X E) (ha : PA X (e :: es) t)
    (hdb : (y == ("__debug__" : Str)) = false := by decide) (hcd : (y == ("__classdict__" : Str)) = false := by decide)
    (he : starEach (e :: es) X.env = (false, eval e X.env) :: starEach es X.env := by rfl) (hpl : (backTo pos (starEach es X.env)).any (·.1) = false := by rfl) :
    PE X (.Call (.Name y p) (e :: es) [] pos) (tCallL i f sp [] E t) := by
  obtain ⟨f', fd, ps, F, hm, kp, b⟩ := c.ex
  obtain ⟨u, hu, r⟩ := v
  have eu : f' = f := by
    rw [hm] at hu
    have e1 := Option.some.inj hu
    have r : u = Value.ref f := r
    rw [r] at e1
    cases e1
    rfl
  subst eu
  exact pe_callL F (hr.mono hk) hN hv kp b .nil hx ha hdb hcd he hpl
theorem passN : Passes (CXJ X.prog X.w) X (fun _ _ _ => False) := px_none fun _ _ _ _ _ => cxn_no
theorem jv_nes {a b : Str} : OpE (rNeJ K) (.v (sS a)) (.v (sS b)) (.v (bS (!decide (a = b)))) := by
  have z : OpE (rNeJ K) (.v (sS a)) (.v (sS b)) (.v (bS (!decide (V.str a = V.str b)))) := OpE.inl (op_Ne rfl)
  have e : decide (V.str a = V.str b) = decide (a = b) := by
    by_cases h : a = b
    · rw [h, decide_eq_true rfl, decide_eq_true rfl]
    · rw [decide_eq_false h, decide_eq_false fun q => h (V.str.inj q)]
  rw [e] at z
  exact z
theorem ke_index {o : Expr} {to te : TE} {apos cpos : Pos} (hK : X.K = K) (hr : Room k X.A) (ho : PE X o to) (he : PE X e te) (hbase : attributeBase o "index" X.env (eval o X.env) = eval o X.env := by rfl)
    (hfew : ((backTo cpos (starEach [e] X.env)).all (fun x => !x.1) && (backToKw cpos (keywordEach [] X.env)).all (fun x => x.1.isSome) && decide ([e].length + ([] : List Keyword).length + (if ([] : List Keyword).isEmpty then 0 else 1) < 30)) = true := by rfl)
    (hline : (apos.endLine == cpos.line) = true := by rfl) (hs : starEach [e] X.env = (false, eval e X.env) :: starEach [] X.env := by rfl) :
    PE X (.Call (.Attribute o "index" apos) [e] [] cpos) (tBM K "list" (rIndexD K) to (tCons te tNil)) := by
  subst hK
  exact pe_bm PySem.F.plainAttrs_list PySem.F.slot_list_index PySem.F.type_list_index (mt_indexD (Room.u65 hr)) ho (pa_cons he pa_nil hs) hbase hfew hline hs rfl
theorem px_trN2 {n : Nat} (hn : X.N.length = n) (tk : L2N.Takes X W) : Passes (CXJ X.prog X.w) X (allS n W) := by
  subst hn
  exact px_trN tk
theorem px_trQ2 {n : Nat} (hn : X.N.length = n) (tk : Takesq X W) : Passes (CXq X.prog X.w) X (allS n W) := by
  subst hn
  exact px_trQ tk
theorem kc_anyQ (hK : X.K = K) (hc : ∃ x1, HotP X.A x1 X.pn) : CallR X (.builtin "any") (rAny K) := by subst hK; exact cr_anyQ hc
/-- the class of an exception, by its name -/
theorem exk {mg : Str → Option Value} (h : ExcK K mg x C) : ∃ u, mg x = some u ∧ RelV (.ref C) u := ⟨_, h.g, rfl⟩
end
/-! ### try statements, by name -/
def tTryX (K : PySem.W.Frag) (C : Addr) (ts : Addr → Value → Option Addr → TS) (Wout : WX) (tb : WX → TS) (u : TS) : TS := fun D σ H => tb (wOnly K (.ref C) ts Wout D) { D with nx := u D } σ H
def tTryA (K : PySem.W.Frag) (C : Addr) (i : Nat) (ts : Addr → Value → Option Addr → TS) (tb : WX → TS) : TS := fun D σ H => tb (wAs K (.ref C) i ts (fun _ _ _ _ => False) D) D σ H
section
variable {X : Cx} {x n : Str} {C : Addr} {i : Nat} {body suite orelse : List Stmt} {b₀ : Stmt} {np pos pos' : Pos} {tb : WX → TS} {ts : Addr → Value → Option Addr → TS} {Wout : WX} {u : TS} {K : PySem.W.Frag}
theorem ps_tX (hK : X.K = K) (ho : PSs X orelse u) (hs : X.stack = X.env :: X.outer) (hf : X.env.frame = some X.env.locals) (gl : Gl X x) (hm : X.mg x = some (.ref C)) (hpa : ∀ hd : Option Value, PassesOwnAt (model X.prog X.w) (X.A.mark hd) X.A X.env X.xe) (tk : Takesq X Wout)
    (hb : ∀ (W : WX) (pn : List (Addr × Obj)) (xe : Value → Shared → Prop), L2N.Takes (X.tr pn xe) W → PSs (X.tr pn xe) body (tb W))
    (hsu : ∀ (a : Addr) (oe : Obj) (cls : Value) (d : Option Addr) (pn : List (Addr × Obj)), L2N.Zn cls d oe → Takesq (L2H.suiteX X a ((a, oe) :: pn)) Wout → L2H.HotC (L2H.suiteX X a ((a, oe) :: pn)) → PSs (L2H.suiteX X a ((a, oe) :: pn)) (b₀ :: suite) (ts a cls d))
    (hdb : (x == ("__debug__" : Str)) = false := by decide) : PS X (.Try body [.ExceptHandler (some (.Name x np)) none (b₀ :: suite) pos'] orelse [] pos) (tTryX K C ts Wout tb u) := by
  subst hK
  exact ps_tryXE ho hs hf gl hm hpa tk hb hsu hdb
theorem ps_tA (hK : X.K = K) (hs : X.stack = X.env :: X.outer) (hf : X.env.frame = some X.env.locals) (hN : X.N.Nodup) (hi : X.N[i]? = some n) (hln : X.env.kindOf n = some .local) (gl : Gl X x) (hm : X.mg x = some (.ref C))
    (hb : ∀ (W : WX) (pn : List (Addr × Obj)) (xe : Value → Shared → Prop), Takesq (X.tr pn xe) W → PSs (X.tr pn xe) body (tb W))
    (hsu : ∀ (a : Addr) (oe : Obj) (cls : Value) (d : Option Addr) (pn : List (Addr × Obj)), Zc cls d oe → (∃ vs, oe.data = .fields vs) → (∃ x1, HotP (X.suite a ((a, oe) :: pn)).A x1 ((a, oe) :: pn)) → PSs (X.suite a ((a, oe) :: pn)) (b₀ :: suite) (ts a cls d))
    (hdb : (x == ("__debug__" : Str)) = false := by decide) : PS X (.Try body [.ExceptHandler (some (.Name x np)) (some n) (b₀ :: suite) pos'] [] [] pos) (tTryA K C i ts tb) := by
  subst hK
  exact ps_try_asQ hs hf hN hi hln gl hm hb hsu hdb
variable {tz : TS} {D : Ends} {σ : L2.St} {H : Hp}
theorem q_tX (h : tb (wOnly K (.ref C) ts Wout { D with nx := tz D }) { D with nx := u { D with nx := tz D } } σ H) : tSeq (tTryX K C ts Wout tb u) tz D σ H := h
theorem q_tA (h : tb (wAs K (.ref C) i ts (fun _ _ _ _ => False) { D with nx := tz D }) { D with nx := tz D } σ H) : tSeq (tTryA K C i ts tb) tz D σ H := h
end
section
variable {F0 H0 F H : Hp} {σ : L2.St} {δ δ' : List Ent} {tt : TT} {tu tz : TS} {D : Ends}
/-- if .., the ways come together -/
theorem q_join {b : Bool} (s : St F0 H0 F H σ δ) (h : EvT tt δ b) (h1 : b = true → ∀ σ' F' H', (∀ σ2 F2 H2, St F0 H0 F2 H2 σ2 δ' → tz D σ2 H2) → St F0 H0 F' H' σ' δ → tu { D with nx := tz D } σ' H') (h2 : b = false → δ = δ')
    (k : ∀ σ' F' H', St F0 H0 F' H' σ' δ' → tz D σ' H') : tSeq (tIfS tt tu tNext) tz D σ H :=
  q_when s h (fun hb σ F H s => h1 hb σ F H k s) fun hb σ F H s => k σ F H (h2 hb ▸ s)
end
theorem ex_orl {t u : TE} {δ : List Ent} {E : XK} {c : Addr} (h : EvX t δ E c) : EvX (fun σ H Q => t σ H Q ∨ u σ H Q) δ E c := fun F0 H0 F H σ s q Q => .inl (h F0 H0 F H σ s q Q)
theorem ex_orr {t u : TE} {δ : List Ent} {E : XK} {c : Addr} (h : EvX u δ E c) : EvX (fun σ H Q => t σ H Q ∨ u σ H Q) δ E c := fun F0 H0 F H σ s q Q => .inr (h F0 H0 F H σ s q Q)
end J

namespace Jug
open PySem PySem.Spec L2 PyProof.Rows J
def top (i : Nat) : Stmt := PySem.Challenge.pw_jughouse_k07_written.main.body.getD i (.Pass ⟨0, 0, 0, 0⟩)
structure Cs where
  Move : Addr
  Pour : Addr
  Fill : Addr
  Empty : Addr
  House : Addr
  JugError : Addr
  BadHouse : Addr
  BadState : Addr
  BadMove : Addr
  BadGoal : Addr
  BadText : Addr
  vhouse_of : Addr
  vroutine_of : Addr
structure Top (K : PySem.W.Frag) (mg : Str → Option Value) (C : Cs) : Prop where
  k_Move : ∃ u, mg "Move" = some u ∧ RelV (.ref C.Move) u
  k_Pour : ∃ u, mg "Pour" = some u ∧ RelV (.ref C.Pour) u
  ik_Pour : InsK K C.Pour
  f_Pour_one : FldOk K C.Pour "one"
  f_Pour_other : FldOk K C.Pour "other"
  i_Pour : IniT K mg "Pour" C.Pour "Pour.__init__" (inClass (top 13) 0) ["self", "one", "other"]
  is_Pour_Move : PySem.W.kitOne K (.ref C.Pour) (.ref C.Move) = some true
  is_Pour_Pour : PySem.W.kitOne K (.ref C.Pour) (.ref C.Pour) = some true
  k_Fill : ∃ u, mg "Fill" = some u ∧ RelV (.ref C.Fill) u
  ik_Fill : InsK K C.Fill
  f_Fill_jug : FldOk K C.Fill "jug"
  i_Fill : IniT K mg "Fill" C.Fill "Fill.__init__" (inClass (top 14) 0) ["self", "jug"]
  is_Fill_Move : PySem.W.kitOne K (.ref C.Fill) (.ref C.Move) = some true
  is_Fill_Pour : PySem.W.kitOne K (.ref C.Fill) (.ref C.Pour) = some false
  is_Fill_Fill : PySem.W.kitOne K (.ref C.Fill) (.ref C.Fill) = some true
  ik_Empty : InsK K C.Empty
  f_Empty_jug : FldOk K C.Empty "jug"
  i_Empty : IniT K mg "Empty" C.Empty "Empty.__init__" (inClass (top 15) 0) ["self", "jug"]
  is_Empty_Move : PySem.W.kitOne K (.ref C.Empty) (.ref C.Move) = some true
  is_Empty_Pour : PySem.W.kitOne K (.ref C.Empty) (.ref C.Pour) = some false
  is_Empty_Fill : PySem.W.kitOne K (.ref C.Empty) (.ref C.Fill) = some false
  f_House_told : FldOk K C.House "told"
  f_House_tap : FldOk K C.House "tap"
  i_House : IniT K mg "House" C.House "House.__init__" (inClass (top 20) 0) ["self", "sizes", "tap"]
  m_House_sizes : MetT K C.House "sizes" "House.sizes" (inClass (top 20) 1) ["self"]
  m_House_moves : MetT K C.House "moves" "House.moves" (inClass (top 20) 3) ["self"]
  x_JugError : ExcK K mg "JugError" C.JugError
  x_BadHouse : ExcK K mg "BadHouse" C.BadHouse
  x_BadState : ExcK K mg "BadState" C.BadState
  x_BadMove : ExcK K mg "BadMove" C.BadMove
  x_BadGoal : ExcK K mg "BadGoal" C.BadGoal
  x_BadText : ExcK K mg "BadText" C.BadText
  em_BadHouse_BadHouse : PySem.W.exmOne K (.ref C.BadHouse) (.ref C.BadHouse) = some true
  em_BadMove_BadMove : PySem.W.exmOne K (.ref C.BadMove) (.ref C.BadMove) = some true
  ec_BadText : ExcC K C.BadText
  em_BadText_JugError : PySem.W.exmOne K (.ref C.BadText) (.ref C.JugError) = some true
  isx_BadText_BadHouse : PySem.W.kitOne K (.ref C.BadText) (.ref C.BadHouse) = some false
  isx_BadText_BadState : PySem.W.kitOne K (.ref C.BadText) (.ref C.BadState) = some false
  isx_BadText_BadMove : PySem.W.kitOne K (.ref C.BadText) (.ref C.BadMove) = some false
  em_BadText_BadMove : PySem.W.exmOne K (.ref C.BadText) (.ref C.BadMove) = some false
  isx_BadText_BadGoal : PySem.W.kitOne K (.ref C.BadText) (.ref C.BadGoal) = some false
  isx_BadText_BadText : PySem.W.kitOne K (.ref C.BadText) (.ref C.BadText) = some true
  isxv_BadText : PySem.W.kitOne K (.ref C.BadText) (.type "ValueError") = some true
  g_MOST_JUGS : ∃ u, mg "MOST_JUGS" = some u ∧ RelV (.int 4) u
  g_GREATEST : ∃ u, mg "GREATEST" = some u ∧ RelV (.int 60) u
  g_MOST_STATES : ∃ u, mg "MOST_STATES" = some u ∧ RelV (.int 2000) u
  g_FIGURES : ∃ u, mg "FIGURES" = some u ∧ RelV (.str "0123456789") u
  d_within : DefT K mg "within" (top 10) ["number", "low", "high"]
  d_check_jug : DefT K mg "check_jug" (top 11) ["jug"]
  d_check_moves : DefT K mg "check_moves" (top 16) ["moves"]
  d_house_text : DefT K mg "house_text" (top 23) ["house"]
  d_move_text : DefT K mg "move_text" (top 24) ["move"]
  d_routine_text : DefT K mg "routine_text" (top 25) ["moves"]
  d_number_in : DefT K mg "number_in" (top 26) ["word"]
  d_house_of : DefT K mg "house_of" (top 27) ["text"]
  d_move_of : DefT K mg "move_of" (top 28) ["text"]
  d_routine_of : DefT K mg "routine_of" (top 29) ["text"]
  d__law_cell_at : DefT K mg "_law_cell_at" (top 31) ["_law_script", "_law_k"]
  d__law_draw : DefT K mg "_law_draw" (top 32) ["_law_cell", "_law_k", "_law_many"]
  d__law_sizes : DefT K mg "_law_sizes" (top 33) ["_law_cell"]
  d__law_all_moves : DefT K mg "_law_all_moves" (top 35) ["_law_sizes_here", "_law_tap"]
  d__law_move_text : DefT K mg "_law_move_text" (top 36) ["_law_told"]
  d__law_number : DefT K mg "_law_number" (top 37) ["_law_text", "_law_most"]
  d__law_house_in : DefT K mg "_law_house_in" (top 38) ["_law_text"]
  d__law_writes : DefT K mg "_law_writes" (top 39) ["_law_text"]
  d__law_refused : DefT K mg "_law_refused" (top 40) ["_law_ask", "_law_text"]
  d__law_right : DefT K mg "_law_right" (top 41) ["_law_text"]
  d__law_few : DefT K mg "_law_few" (top 42) []
  d_law : DefT K mg "law" (top 43) ["_law_script"]
  v_house_of : ∃ u, mg "house_of" = some u ∧ RelV (.ref C.vhouse_of) u
  v_routine_of : ∃ u, mg "routine_of" = some u ∧ RelV (.ref C.vroutine_of) u
  n_ValueError : mg "ValueError" = none
  n_all : mg "all" = none
  n_any : mg "any" = none
  n_bool : mg "bool" = none
  n_int : mg "int" = none
  n_isinstance : mg "isinstance" = none
  n_len : mg "len" = none
  n_list : mg "list" = none
  n_min : mg "min" = none
  n_range : mg "range" = none
  n_str : mg "str" = none

inductive Mv where
  | pour (i j : Nat)
  | fill (i : Nat)
  | empty (i : Nat)
  deriving DecidableEq
abbrev pourF (i j : Nat) : List (Str × Slot) := [("one", iS (i : Int)), ("other", iS (j : Int))]
abbrev jugF (i : Nat) : List (Str × Slot) := [("jug", iS (i : Int))]
def moveS (C : Cs) : Mv → Slot
  | .pour i j => objS C.Pour (pourF i j)
  | .fill i => objS C.Fill (jugF i)
  | .empty i => objS C.Empty (jugF i)

/-! ### the data -/
abbrev intsS (x : List Int) : Slot := lstS (x.map iS)
abbrev stS (x : List Int) : Slot := tupS (x.map iS)
abbrev hoF (z : List Int) (t : Bool) : List (Str × Slot) := [("told", intsS z), ("tap", bS t)]
abbrev houseS (C : Cs) (z : List Int) (t : Bool) : Slot := objS C.House (hoF z t)
def prodTo (z : List Int) (n : Nat) : Int := ((z.take n).map (· + 1)).foldl (· * ·) 1
structure HouseOk (z : List Int) : Prop where
  l1 : 1 ≤ z.length
  l4 : z.length ≤ 4
  sz : ∀ x ∈ z, 1 ≤ x ∧ x ≤ 60
  pr : prodTo z z.length ≤ 2000
structure StOk (z x : List Int) : Prop where
  len : x.length = z.length
  bd : ∀ (i : Nat) (a b : Int), x[i]? = some a → z[i]? = some b → 0 ≤ a ∧ a ≤ b
theorem prodTo_succ {z : List Int} {n : Nat} {a : Int} (h : z[n]? = some a) : prodTo z (n + 1) = prodTo z n * (a + 1) := by
  unfold prodTo
  rw [List.take_add_one, h, List.map_append, List.foldl_append]
  rfl
/-- the amount in a jug -/
def am (x : List Int) (i : Nat) : Int := x.getD i 0
theorem am_get {x : List Int} {i : Nat} (h : i < x.length) : x[i]? = some (am x i) := by
  unfold am
  rw [List.getD_eq_getElem?_getD, List.getElem?_eq_getElem h]
  rfl
theorem am_set {x : List Int} {i j : Nat} {a : Int} (hi : i < x.length) : am (x.set i a) j = if j = i then a else am x j := by
  unfold am
  rw [List.getD_eq_getElem?_getD, List.getD_eq_getElem?_getD]
  by_cases h : j = i
  · subst h
    rw [if_pos rfl, List.getElem?_set_self hi]
    rfl
  · rw [if_neg h, List.getElem?_set_ne (fun z => h z.symm)]
theorem stOk_iff {z x : List Int} : StOk z x ↔ x.length = z.length ∧ ∀ i, i < z.length → 0 ≤ am x i ∧ am x i ≤ am z i := by
  constructor
  · intro h
    exact ⟨h.len, fun i hi => h.bd i _ _ (am_get (by rw [h.len]; exact hi)) (am_get hi)⟩
  · rintro ⟨h1, h2⟩
    refine ⟨h1, fun i a b ha hb => ?_⟩
    have hi : i < z.length := (List.getElem?_eq_some_iff.mp hb).1
    have e1 := am_get (x := x) (i := i) (by omega)
    have e2 := am_get (x := z) (i := i) hi
    rw [ha] at e1
    rw [hb] at e2
    have := h2 i hi
    rw [← Option.some.inj e1, ← Option.some.inj e2] at this
    exact this
theorem mapGet {α : Type} {f : α → Slot} {l : List α} {n : Nat} {T : Slot} (h : (l.map f)[n]? = some T) : ∃ a, l[n]? = some a ∧ T = f a := by
  rw [List.getElem?_map] at h
  cases q : l[n]? with
  | none => rw [q] at h; cases h
  | some a => rw [q] at h; exact ⟨a, rfl, (Option.some.inj h).symm⟩
theorem prodTo_pos {z : List Int} (h : ∀ x ∈ z, 1 ≤ x ∧ x ≤ 60) : ∀ n, n ≤ z.length → 1 ≤ prodTo z n
  | 0, _ => by unfold prodTo; simp
  | n + 1, hn => by
    have hx : z[n]? = some z[n] := List.getElem?_eq_getElem (by omega)
    rw [prodTo_succ hx]
    have h1 := prodTo_pos h n (by omega)
    have h2 := (h z[n] (List.getElem_mem _)).1
    have h3 : 0 ≤ (prodTo z n - 1) * (z[n] + 1) := Int.mul_nonneg (by omega) (by omega)
    rw [Int.sub_mul] at h3
    omega
theorem set_am {x : List Int} {i : Nat} (h : i < x.length) : x.set i (am x i) = x := by
  apply List.ext_getElem?
  intro k
  by_cases e : k = i
  · subst e
    rw [List.getElem?_set_self h, am_get h]
  · rw [List.getElem?_set_ne (fun q => e q.symm)]

open TL in
theorem joinL_cons {S p : List Nat} {X : List (List Nat)} (h : X ≠ []) : joinL S (p :: X) = p ++ (S ++ joinL S X) := by
  cases X with
  | nil => exact absurd rfl h
  | cons q r => rfl
open TL in
theorem spl_ne (S : List Nat) : ∀ (l acc : List Nat) (k : Nat), spl S k acc l ≠ []
  | [], acc, k => by rw [spl_nil]; simp
  | c :: r, acc, 0 => by
    cases h : pre S (c :: r) with
    | true => rw [spl_hit h]; simp
    | false => rw [spl_miss h]; exact spl_ne S r _ 0
  | c :: r, acc, k + 1 => spl_ne S r acc k
open TL in
theorem joinL_spl {S : List Nat} (hS : S ≠ []) : ∀ (n : Nat) (l acc : List Nat), l.length ≤ n → joinL S (spl S 0 acc l) = acc ++ l
  | _, [], acc, _ => by rw [spl_nil, List.append_nil]; rfl
  | 0, c :: r, acc, h => by simp at h
  | n + 1, c :: r, acc, h => by
    cases q : pre S (c :: r) with
    | true =>
      obtain ⟨s, S', rfl⟩ := List.exists_cons_of_ne_nil hS
      rw [spl_hit q, joinL_cons (spl_ne _ _ _ _), spl_pass]
      have e : (c :: r).take (s :: S').length = s :: S' := by simpa [pre] using q
      have ih := joinL_spl hS n (r.drop ((s :: S').length - 1)) [] (by simp at h ⊢; omega)
      rw [ih, List.nil_append]
      congr 1
      have e2 := List.take_append_drop (s :: S').length (c :: r)
      rw [e] at e2
      rw [← e2]
      simp
    | false =>
      rw [spl_miss q, joinL_spl hS n r (acc ++ [c]) (by simp at h; omega)]
      simp
open TL in
theorem join_split {x y : Str} (hy : tl y ≠ []) (hk : y.cps.all (· < 256) = true) : Txt.join y (Txt.split x y) = x := by
  refine ext_tl ?_
  rw [join_eq, tl_join, split_spl x y hy (kind_ok hk), joinL_spl hy _ _ _ (Nat.le_refl _), List.nil_append]
theorem split_ne {x y : Str} (hy : TL.tl y ≠ []) (hk : y.cps.all (· < 256) = true) : Txt.split x y ≠ [] := by
  intro e
  have z := TL.split_spl x y hy (TL.kind_ok hk)
  rw [e] at z
  exact spl_ne _ _ _ _ z.symm
def sE : Str := Str.ofString ""
theorem sE_tl : TL.tl sE = [] := by decide +kernel
def FIG : Str := Str.ofString "0123456789"
theorem strip1 {p : Nat → Bool} {c : Nat} (h : Txt.stripBy p true true ⟨#[c]⟩ = sE) : p c = true := by
  cases q : p c with
  | true => rfl
  | false =>
    have e : Txt.stripBy p true true ⟨#[c]⟩ = ⟨#[c]⟩ := by
      unfold Txt.stripBy
      refine if_pos ?_
      simp [PySem.stripSame, PySem.stripLo, PySem.stripHi, q, Str.length]
    rw [e] at h
    have z := congrArg TL.tl h
    rw [sE_tl] at z
    cases z
theorem strip2 {p : Nat → Bool} {c d : Nat} (h : Txt.stripBy p true true ⟨#[c, d]⟩ = sE) : p c = true ∧ p d = true := by
  cases q : p c with
  | true =>
    refine ⟨rfl, ?_⟩
    cases q2 : p d with
    | true => rfl
    | false =>
      have e : TL.tl (Txt.stripBy p true true ⟨#[c, d]⟩) = [d] := by
        unfold Txt.stripBy
        rw [if_neg (by simp [PySem.stripSame, PySem.stripLo, PySem.stripHi, q, q2, Str.length])]
        unfold PySem.stripped
        rw [TL.tl_strSub]
        simp [PySem.stripLo, PySem.stripHi, q, q2, Str.length]
        rfl
      rw [h, sE_tl] at e
      cases e
  | false =>
    have e : ∃ l, TL.tl (Txt.stripBy p true true ⟨#[c, d]⟩) = c :: l := by
      unfold Txt.stripBy
      split
      · exact ⟨[d], rfl⟩
      · unfold PySem.stripped
        rw [TL.tl_strSub]
        cases q2 : p d <;> simp [PySem.stripLo, PySem.stripHi, q, q2, Str.length] <;> exact ⟨_, rfl⟩
    obtain ⟨l, e⟩ := e
    rw [h, sE_tl] at e
    cases e
def ch0 (w : Str) : Str := ⟨#[(TL.tl w).headD 0]⟩
def s0 : Str := Str.ofString "0"
/-- figures that tell a number -/
def isNum (w : Str) : Bool := decide (1 ≤ w.length ∧ w.length ≤ 2) && decide (Txt.stripChars w FIG = sE) && !(decide (ch0 w = s0) && !decide (w = s0))
def num (w : Str) : Int := (PySem.intText? w).getD 0
theorem fig_mem {c : Nat} (h : FIG.cps.contains c = true) : 48 ≤ c ∧ c ≤ 57 := by
  have e : FIG.cps = #[48, 49, 50, 51, 52, 53, 54, 55, 56, 57] := by decide +kernel
  rw [e] at h
  simp at h
  omega
def GoodN (w : Str) : Prop := ∃ n : Nat, n ≤ 99 ∧ PySem.intText? w = some (n : Int) ∧ strI (n : Int) = w
theorem good1 : ∀ c < 10, PySem.intText? ⟨#[48 + c]⟩ = some ((c : Nat) : Int) ∧ strI ((c : Nat) : Int) = ⟨#[48 + c]⟩ := by decide +kernel
theorem good2 : ∀ c < 10, ∀ d < 10, c ≠ 0 → PySem.intText? ⟨#[48 + c, 48 + d]⟩ = some ((10 * c + d : Nat) : Int) ∧ strI ((10 * c + d : Nat) : Int) = ⟨#[48 + c, 48 + d]⟩ := by decide +kernel
theorem s0_eq : s0 = ⟨#[48]⟩ := by decide +kernel
theorem num_ok {w : Str} (h : isNum w = true) : GoodN w := by
  unfold isNum at h
  simp only [Bool.and_eq_true, decide_eq_true_eq, Bool.not_eq_true', Bool.and_eq_false_iff, decide_eq_false_iff_not, Bool.not_eq_false'] at h
  obtain ⟨⟨⟨h1, h2⟩, h3⟩, h4⟩ := h
  rw [TL.len_tl] at h1 h2
  have ew := TL.mk_tl w
  unfold Txt.stripChars at h3
  match q : TL.tl w with
  | [] => rw [q] at h1; simp at h1
  | [c] =>
    rw [q] at ew
    rw [← ew] at h3
    have hc := fig_mem (strip1 h3)
    obtain ⟨g1, g2⟩ := good1 (c - 48) (by omega)
    have e : 48 + (c - 48) = c := by omega
    rw [e] at g1 g2
    exact ⟨c - 48, by omega, by rw [← ew]; exact g1, by rw [← ew]; exact g2⟩
  | [c, d] =>
    rw [q] at ew
    rw [← ew] at h3
    obtain ⟨p1, p2⟩ := strip2 h3
    have hc := fig_mem p1
    have hd := fig_mem p2
    have hn : c ≠ 48 := by
      rintro rfl
      rcases h4 with h4 | h4
      · apply h4
        unfold ch0
        rw [q, s0_eq]
        rfl
      · rw [h4, s0_eq] at q
        cases q
    obtain ⟨g1, g2⟩ := good2 (c - 48) (by omega) (d - 48) (by omega) (by omega)
    have e1 : 48 + (c - 48) = c := by omega
    have e2 : 48 + (d - 48) = d := by omega
    rw [e1, e2] at g1 g2
    exact ⟨10 * (c - 48) + (d - 48), by omega, by rw [← ew]; exact g1, by rw [← ew]; exact g2⟩
  | _ :: _ :: _ :: _ => rw [q] at h2; simp at h2
theorem num_bd {w : Str} (h : isNum w = true) : 0 ≤ num w ∧ num w ≤ 99 ∧ PySem.intText? w = some (num w) ∧ strI (num w) = w := by
  obtain ⟨n, h1, h2, h3⟩ := num_ok h
  unfold num
  rw [h2]
  exact ⟨by show (0 : Int) ≤ (n : Int); omega, by show (n : Int) ≤ 99; omega, rfl, h3⟩
/-! ### houses -/
def spS : Str := Str.ofString " "
def scS : Str := Str.ofString "; "
def jugsS : Str := Str.ofString "jugs"
def tapS : Str := Str.ofString "tap"
def wds (w : Str) : List Str := Txt.split w spS
theorem sp_ok : TL.tl spS ≠ [] ∧ spS.cps.all (· < 256) = true := by decide +kernel
theorem sc_ok : TL.tl scS ≠ [] ∧ scS.cps.all (· < 256) = true := by decide +kernel
theorem wds_ne (w : Str) : wds w ≠ [] := split_ne sp_ok.1 sp_ok.2
theorem wds_join (w : Str) : Txt.join spS (wds w) = w := join_split sp_ok.1 sp_ok.2
theorem wds_cons (w : Str) : ∃ x l, wds w = x :: l := List.exists_cons_of_ne_nil (wds_ne w)
def lastW (w : Str) : Str := (wds w).getLastD sE
def tapOf (w : Str) : Bool := decide (lastW w = tapS)
def wtap (w : Str) : List Str := if tapOf w = true then (wds w).dropLast else wds w
def restW (w : Str) : List Str := (wtap w).drop 1
def houseOkB (z : List Int) : Bool := decide (1 ≤ z.length ∧ z.length ≤ 4) && z.all (fun a => decide (1 ≤ a ∧ a ≤ 60)) && decide (prodTo z z.length ≤ 2000)
theorem houseOkB_iff {z : List Int} : houseOkB z = true ↔ HouseOk z := by
  unfold houseOkB
  simp only [Bool.and_eq_true, decide_eq_true_eq, List.all_eq_true]
  exact ⟨fun ⟨⟨⟨a, b⟩, c⟩, d⟩ => ⟨a, b, c, d⟩, fun h => ⟨⟨⟨h.l1, h.l4⟩, h.sz⟩, h.pr⟩⟩
def houseIn (w : Str) : Option (List Int × Bool) :=
  if (wds w).headD sE = jugsS ∧ (restW w).all isNum = true ∧ houseOkB ((restW w).map num) = true then some ((restW w).map num, tapOf w) else none
def lawNum (m : Int) (w : Str) : Int := if isNum w = true then (if num w ≤ m then num w else -1) else -1
theorem lawNum_bd (m : Int) (w : Str) : -1 ≤ lawNum m w := by
  unfold lawNum
  split
  · rename_i h
    have := (num_bd h).1
    split <;> omega
  · omega
theorem lawNum_pos {m : Int} {w : Str} (h : 0 ≤ lawNum m w) : isNum w = true ∧ num w ≤ m ∧ lawNum m w = num w := by
  unfold lawNum at h ⊢
  split at h
  · rename_i h1
    split at h
    · rename_i h2
      exact ⟨h1, h2, by rw [if_pos h1, if_pos h2]⟩
    · omega
  · omega
theorem lawNum_of {m : Int} {w : Str} (h : isNum w = true) (h2 : num w ≤ m) : lawNum m w = num w := by
  unfold lawNum
  rw [if_pos h, if_pos h2]
def lsz (w : Str) : List Int := (restW w).map (lawNum 60)
theorem head_tap {w : Str} (h : 1 ≤ (restW w).length) : (wtap w).take 1 = [(wds w).headD sE] := by
  obtain ⟨x, l, e⟩ := wds_cons w
  unfold restW at h
  unfold wtap at h ⊢
  rw [e] at h ⊢
  split at h
  · rename_i ht
    rw [if_pos ht]
    cases l with
    | nil => simp at h
    | cons y l => rfl
  · rename_i ht
    rw [if_neg ht]
    rfl
theorem houseIn_law (w : Str) : houseIn w = if (wtap w).take 1 = [jugsS] ∧ (1 ≤ (lsz w).length ∧ (lsz w).length ≤ 4) ∧ (∀ a ∈ lsz w, 1 ≤ a) ∧ prodTo (lsz w) (lsz w).length ≤ 2000 then some (lsz w, tapOf w) else none := by
  unfold houseIn
  by_cases c : (wtap w).take 1 = [jugsS] ∧ (1 ≤ (lsz w).length ∧ (lsz w).length ≤ 4) ∧ (∀ a ∈ lsz w, 1 ≤ a) ∧ prodTo (lsz w) (lsz w).length ≤ 2000
  · rw [if_pos c]
    obtain ⟨c1, c2, c3, c4⟩ := c
    have hl : (lsz w).length = (restW w).length := List.length_map _
    rw [head_tap (by omega)] at c1
    have al : ∀ x ∈ restW w, isNum x = true ∧ num x ≤ 60 ∧ lawNum 60 x = num x := fun x hx => lawNum_pos (by have := c3 (lawNum 60 x) (List.mem_map_of_mem hx); omega)
    have e : lsz w = (restW w).map num := List.map_congr_left fun x hx => (al x hx).2.2
    rw [← e]
    refine if_pos ⟨by simpa using c1, List.all_eq_true.mpr fun x hx => (al x hx).1, houseOkB_iff.mpr ⟨c2.1, c2.2, fun a ha => ⟨c3 a ha, ?_⟩, c4⟩⟩
    rw [e] at ha
    obtain ⟨x, hx, rfl⟩ := List.mem_map.mp ha
    exact (al x hx).2.1
  · rw [if_neg c]
    refine if_neg fun ⟨d1, d2, d3⟩ => c ?_
    have hz := houseOkB_iff.mp d3
    have e : lsz w = (restW w).map num := List.map_congr_left fun x hx => lawNum_of (List.all_eq_true.mp d2 x hx) (hz.sz _ (List.mem_map_of_mem hx)).2
    have hl : 1 ≤ (restW w).length := by have := hz.l1; rw [List.length_map] at this; exact this
    rw [head_tap hl, d1, e]
    exact ⟨rfl, ⟨hz.l1, hz.l4⟩, fun a ha => (hz.sz a ha).1, hz.pr⟩
def htext (z : List Int) (t : Bool) : Str := Txt.join spS (([jugsS] ++ z.map strI) ++ (if t = true then [tapS] else []))
theorem dropLast_last {w : Str} (h : tapOf w = true) : (wds w).dropLast ++ [tapS] = wds w := by
  have e := of_decide_eq_true h
  unfold lastW at e
  have z := List.dropLast_concat_getLast (wds_ne w)
  rw [List.getLastD_eq_getLast?, List.getLast?_eq_some_getLast (wds_ne w)] at e
  have e : (wds w).getLast (wds_ne w) = tapS := e
  rw [e] at z
  exact z
theorem house_back {w : Str} {z : List Int} {t : Bool} (h : houseIn w = some (z, t)) : HouseOk z ∧ t = tapOf w ∧ htext z t = w := by
  unfold houseIn at h
  split at h
  · rename_i c
    obtain ⟨c1, c2, c3⟩ := c
    have e := Option.some.inj h
    have e1 : (restW w).map num = z := congrArg Prod.fst e
    have e2 : tapOf w = t := congrArg Prod.snd e
    subst e1 e2
    have hz := houseOkB_iff.mp c3
    refine ⟨hz, rfl, ?_⟩
    have hl : 1 ≤ (restW w).length := by have := hz.l1; rw [List.length_map] at this; exact this
    have ht := head_tap hl
    rw [c1] at ht
    have ew : wtap w = [jugsS] ++ restW w := by
      have := List.take_append_drop 1 (wtap w)
      rw [ht] at this
      exact this.symm
    have er : ((restW w).map num).map strI = restW w := by
      rw [List.map_map]
      conv => rhs; rw [← List.map_id (restW w)]
      exact List.map_congr_left fun x hx => (num_bd (List.all_eq_true.mp c2 x hx)).2.2.2
    unfold htext
    rw [er, ← ew]
    have key : wtap w ++ (if tapOf w = true then [tapS] else []) = wds w := by
      unfold wtap
      by_cases ht : tapOf w = true
      · rw [if_pos ht, if_pos ht]
        exact dropLast_last ht
      · rw [if_neg ht, if_neg ht, List.append_nil]
    rw [key]
    exact wds_join w
  · cases h
/-! ### routines -/
def pourS : Str := Str.ofString "pour"
def fillS : Str := Str.ofString "fill"
def emptyS : Str := Str.ofString "empty"
theorem heads_ne : pourS ≠ fillS ∧ pourS ≠ emptyS ∧ fillS ≠ emptyS := by decide +kernel
def mtext : Mv → Str
  | .pour i j => Str.ofString "pour " ++ J.strI (i : Int) ++ Str.ofString " " ++ J.strI (j : Int)
  | .fill i => Str.ofString "fill " ++ J.strI (i : Int)
  | .empty i => Str.ofString "empty " ++ J.strI (i : Int)
def small : Mv → Prop
  | .pour i j => i < 4 ∧ j < 4
  | .fill i => i < 4
  | .empty i => i < 4
def rtext (ms : List Mv) : Str := Txt.join (Str.ofString "; ") (ms.map mtext)
/-- what a word list tells: a move; false: a move that is none, true: no move at all -/
def moveOf (h : Str) (ns : List Int) : Except Bool Mv :=
  if h = pourS ∧ ns.length = 2 then (if am ns 0 ≤ 3 ∧ am ns 1 ≤ 3 ∧ am ns 0 ≠ am ns 1 then .ok (.pour (am ns 0).toNat (am ns 1).toNat) else .error false)
  else if h = fillS ∧ ns.length = 1 then (if am ns 0 ≤ 3 then .ok (.fill (am ns 0).toNat) else .error false)
  else if h = emptyS ∧ ns.length = 1 then (if am ns 0 ≤ 3 then .ok (.empty (am ns 0).toNat) else .error false)
  else .error true
def argsW (o : Str) : List Str := (wds o).drop 1
def moveRes (o : Str) : Except Bool Mv := if (argsW o).all isNum = true then moveOf ((wds o).headD sE) ((argsW o).map num) else .error true
def isOk : Except Bool Mv → Bool
  | .ok _ => true
  | .error _ => false
theorem wds_head (o : Str) : wds o = (wds o).headD sE :: argsW o := by
  obtain ⟨x, l, e⟩ := wds_cons o
  unfold argsW
  rw [e]
  rfl
theorem nums_of {l : List Str} (h : l.all isNum = true) : (l.map num).map J.strI = l := by
  rw [List.map_map]
  conv => rhs; rw [← List.map_id l]
  exact List.map_congr_left fun x hx => (num_bd (List.all_eq_true.mp h x hx)).2.2.2
theorem join2 (a b : Str) : Txt.join spS [a, b] = a ++ spS ++ b := by rw [TL.join_eq]; rfl
theorem join3 (a b c : Str) : Txt.join spS [a, b, c] = a ++ spS ++ (b ++ spS ++ c) := by rw [TL.join_eq]; rfl
theorem app_assoc (a b c : Str) : a ++ b ++ c = a ++ (b ++ c) := TL.ext_tl (by simp only [TL.tl_append, List.append_assoc])
theorem heads_sp : Str.ofString "pour " = pourS ++ spS ∧ Str.ofString "fill " = fillS ++ spS ∧ Str.ofString "empty " = emptyS ++ spS := by decide +kernel
theorem am0 {a : Int} {l : List Int} : am (a :: l) 0 = a := rfl
theorem am1 {a b : Int} {l : List Int} : am (a :: b :: l) 1 = b := rfl
theorem nat_strI {i : Int} (h : 0 ≤ i) : J.strI ((i.toNat : Nat) : Int) = J.strI i := by rw [Int.toNat_of_nonneg h]
theorem move_back {o : Str} {m : Mv} (h : moveRes o = .ok m) : small m ∧ mtext m = o := by
  unfold moveRes at h
  split at h
  · rename_i al
    have hb : ∀ x ∈ (argsW o).map num, 0 ≤ x := fun x hx => by
      obtain ⟨y, hy, rfl⟩ := List.mem_map.mp hx
      exact (num_bd (List.all_eq_true.mp al y hy)).1
    have back := nums_of al
    have hw := wds_join o
    rw [wds_head o, ← back] at hw
    unfold moveOf at h
    split at h
    · rename_i c
      obtain ⟨c1, c2⟩ := c
      split at h
      · rename_i d
        cases h
        match q : (argsW o).map num with
        | [a, b] =>
          rw [q] at hw d hb
          rw [am0, am1] at d
          have ha := hb a (by simp)
          have hb' := hb b (by simp)
          refine ⟨⟨by rw [am0]; omega, by rw [am1]; omega⟩, ?_⟩
          show Str.ofString "pour " ++ J.strI _ ++ Str.ofString " " ++ J.strI _ = o
          rw [am0, am1, nat_strI ha, nat_strI hb', heads_sp.1, ← hw, c1]
          show _ = Txt.join spS [pourS, J.strI a, J.strI b]
          rw [join3]
          simp only [app_assoc]
          rfl
        | [] => rw [q] at c2; simp at c2
        | [a] => rw [q] at c2; simp at c2
        | _ :: _ :: _ :: _ => rw [q] at c2; simp at c2
      · cases h
    · split at h
      · rename_i c
        obtain ⟨c1, c2⟩ := c
        split at h
        · rename_i d
          cases h
          match q : (argsW o).map num with
          | [a] =>
            rw [q] at hw d hb
            rw [am0] at d
            have ha := hb a (by simp)
            refine ⟨by show _ < 4; rw [am0]; omega, ?_⟩
            show Str.ofString "fill " ++ J.strI _ = o
            rw [am0, nat_strI ha, heads_sp.2.1, ← hw, c1]
            show _ = Txt.join spS [fillS, J.strI a]
            rw [join2]
          | [] => rw [q] at c2; simp at c2
          | _ :: _ :: _ => rw [q] at c2; simp at c2
        · cases h
      · split at h
        · rename_i c
          obtain ⟨c1, c2⟩ := c
          split at h
          · rename_i d
            cases h
            match q : (argsW o).map num with
            | [a] =>
              rw [q] at hw d hb
              rw [am0] at d
              have ha := hb a (by simp)
              refine ⟨by show _ < 4; rw [am0]; omega, ?_⟩
              show Str.ofString "empty " ++ J.strI _ = o
              rw [am0, nat_strI ha, heads_sp.2.2, ← hw, c1]
              show _ = Txt.join spS [emptyS, J.strI a]
              rw [join2]
            | [] => rw [q] at c2; simp at c2
            | _ :: _ :: _ => rw [q] at c2; simp at c2
          · cases h
        · cases h
  · cases h
/-! ### as the law reads them -/
def lns (o : Str) : List Int := (argsW o).map (lawNum 3)
/-- what the law says of one part -/
def rightL (o : Str) : Bool :=
  if ((wds o).headD sE = fillS ∨ (wds o).headD sE = emptyS) ∧ (lns o).length = 1 then decide (0 ≤ am (lns o) 0)
  else decide ((wds o).headD sE = pourS ∧ (lns o).length = 2 ∧ 0 ≤ am (lns o) 0 ∧ 0 ≤ am (lns o) 1 ∧ am (lns o) 0 ≠ am (lns o) 1)
theorem rightL_eq (o : Str) : rightL o = isOk (moveRes o) := by
  have hn := heads_ne
  have l1 : (lns o).length = (argsW o).length := List.length_map _
  unfold rightL moveRes
  by_cases hp : (wds o).headD sE = pourS ∧ (argsW o).length = 2
  · obtain ⟨h1, h2⟩ := hp
    rw [if_neg (fun z => by rw [l1] at z; omega)]
    match q : argsW o with
    | [a, b] =>
      have e : lns o = [lawNum 3 a, lawNum 3 b] := by unfold lns; rw [q]; rfl
      rw [e]
      show decide ((wds o).headD sE = pourS ∧ 2 = 2 ∧ 0 ≤ lawNum 3 a ∧ 0 ≤ lawNum 3 b ∧ lawNum 3 a ≠ lawNum 3 b) = _
      by_cases ha : isNum a = true
      · by_cases hb : isNum b = true
        · rw [if_pos (by simp [ha, hb])]
          unfold moveOf
          rw [if_pos ⟨h1, rfl⟩]
          have b1 := num_bd ha
          have b2 := num_bd hb
          show _ = isOk (if num a ≤ 3 ∧ num b ≤ 3 ∧ num a ≠ num b then _ else _)
          by_cases c : num a ≤ 3 ∧ num b ≤ 3 ∧ num a ≠ num b
          · rw [if_pos c, lawNum_of ha c.1, lawNum_of hb c.2.1]
            exact decide_eq_true ⟨h1, rfl, b1.1, b2.1, c.2.2⟩
          · rw [if_neg c]
            refine decide_eq_false fun ⟨_, _, z1, z2, z3⟩ => c ?_
            obtain ⟨_, y1, y2⟩ := lawNum_pos z1
            obtain ⟨_, y3, y4⟩ := lawNum_pos z2
            rw [y2, y4] at z3
            exact ⟨y1, y3, z3⟩
        · rw [if_neg (by simp [hb])]
          exact decide_eq_false fun ⟨_, _, z1, z2, z3⟩ => hb (lawNum_pos z2).1
      · rw [if_neg (by simp [ha])]
        exact decide_eq_false fun ⟨_, _, z1, z2, z3⟩ => ha (lawNum_pos z1).1
    | [] => rw [q] at h2; simp at h2
    | [a] => rw [q] at h2; simp at h2
    | _ :: _ :: _ :: _ => rw [q] at h2; simp at h2
  · by_cases hf : ((wds o).headD sE = fillS ∨ (wds o).headD sE = emptyS) ∧ (argsW o).length = 1
    · obtain ⟨h1, h2⟩ := hf
      rw [if_pos ⟨h1, by rw [l1]; exact h2⟩]
      match q : argsW o with
      | [a] =>
        have e : lns o = [lawNum 3 a] := by unfold lns; rw [q]; rfl
        rw [e]
        show decide (0 ≤ lawNum 3 a) = _
        by_cases ha : isNum a = true
        · rw [if_pos (by simp [ha])]
          have b1 := num_bd ha
          have key : isOk (moveOf ((wds o).headD sE) ([a].map num)) = decide (num a ≤ 3) := by
            unfold moveOf
            rcases h1 with h1 | h1
            · rw [if_neg (fun z => hn.1 (z.1.symm.trans h1)), if_pos ⟨h1, rfl⟩]
              show isOk (if num a ≤ 3 then _ else _) = _
              split
              · rename_i c; exact (decide_eq_true c).symm
              · rename_i c; exact (decide_eq_false c).symm
            · rw [if_neg (fun z => hn.2.1 (z.1.symm.trans h1)), if_neg (fun z => hn.2.2 (z.1.symm.trans h1)), if_pos ⟨h1, rfl⟩]
              show isOk (if num a ≤ 3 then _ else _) = _
              split
              · rename_i c; exact (decide_eq_true c).symm
              · rename_i c; exact (decide_eq_false c).symm
          rw [key]
          by_cases c : num a ≤ 3
          · rw [lawNum_of ha c, decide_eq_true c, decide_eq_true b1.1]
          · rw [decide_eq_false c]
            exact decide_eq_false fun z => c (lawNum_pos z).2.1
        · rw [if_neg (by simp [ha])]
          exact decide_eq_false fun z => ha (lawNum_pos z).1
      | [] => rw [q] at h2; simp at h2
      | _ :: _ :: _ => rw [q] at h2; simp at h2
    · rw [if_neg (fun z => hf ⟨z.1, by rw [← l1]; exact z.2⟩), decide_eq_false (fun z => hp ⟨z.1, by rw [← l1]; exact z.2.1⟩)]
      split
      · unfold moveOf
        rw [if_neg (fun z => hp ⟨z.1, by have := z.2; rwa [List.length_map] at this⟩), if_neg (fun z => hf ⟨.inl z.1, by have := z.2; rwa [List.length_map] at this⟩), if_neg (fun z => hf ⟨.inr z.1, by have := z.2; rwa [List.length_map] at this⟩)]
        rfl
      · rfl
def partsW (w : Str) : List Str := Txt.split w scS
def writesB (w : Str) : Bool := decide (w = sE) || (partsW w).all rightL
def getM : Except Bool Mv → Mv
  | .ok m => m
  | .error _ => .fill 0
def movesW (w : Str) : List Mv := if w = sE then [] else (partsW w).map fun o => getM (moveRes o)
theorem isOk_get {o : Str} (h : isOk (moveRes o) = true) : moveRes o = .ok (getM (moveRes o)) := by
  cases q : moveRes o with
  | ok m => rfl
  | error b => rw [q] at h; cases h
theorem routine_back {w : Str} (h : writesB w = true) : (∀ m ∈ movesW w, small m) ∧ rtext (movesW w) = w := by
  unfold movesW
  by_cases e : w = sE
  · rw [if_pos e, e]
    exact ⟨fun m hm => (by cases hm), by unfold rtext; rw [TL.join_eq]; decide +kernel⟩
  · rw [if_neg e]
    unfold writesB at h
    rw [decide_eq_false e, Bool.false_or] at h
    have key : ∀ o ∈ partsW w, small (getM (moveRes o)) ∧ mtext (getM (moveRes o)) = o := fun o ho =>
      move_back (isOk_get (by rw [← rightL_eq]; exact List.all_eq_true.mp h o ho))
    refine ⟨fun m hm => ?_, ?_⟩
    · obtain ⟨o, ho, rfl⟩ := List.mem_map.mp hm
      exact (key o ho).1
    · unfold rtext
      rw [List.map_map]
      have e2 : (partsW w).map (mtext ∘ fun o => getM (moveRes o)) = partsW w := by
        conv => rhs; rw [← List.map_id (partsW w)]
        exact List.map_congr_left fun o ho => (key o ho).2
      rw [e2]
      exact join_split sc_ok.1 sc_ok.2

end Jug
local macro_rules | `(tactic| walk_at "fok") => `(tactic| (first | with_reducible exact Jug.Top.f_Pour_one (by assumption) | with_reducible exact Jug.Top.f_Pour_other (by assumption) | with_reducible exact Jug.Top.f_Fill_jug (by assumption) | with_reducible exact Jug.Top.f_Empty_jug (by assumption) | with_reducible exact Jug.Top.f_House_told (by assumption) | with_reducible exact Jug.Top.f_House_tap (by assumption) ))

local macro_rules | `(tactic| walk_at "isr") => `(tactic| (first | with_reducible exact J.isR_b | with_reducible exact J.isR_v | exact Or.inl rfl | exact Or.inr rfl))
local macro_rules | `(tactic| walk_at "side") => `(tactic| (first | rfl | assumption | omega | decide | (simp; done) | (simp; omega)))
local macro_rules | `(tactic| walk_at "op") => `(tactic| (first
  | with_reducible exact J.jv_add | with_reducible exact J.jv_eqi | with_reducible exact J.jv_nei | with_reducible exact J.op_I0 | with_reducible exact J.jv_eqb | with_reducible exact J.jv_neb
  | (((with_reducible apply J.jx_l)); (walk_at "isr"); (walk_at "side"); (walk_at "side"))
  | (((with_reducible apply J.jx_t)); (walk_at "isr"); (walk_at "side"); (walk_at "side"))
  | with_reducible exact J.jv_eqs
  | ((with_reducible apply J.op_I); (first | exact Or.inr ⟨by omega, by omega⟩ | exact Or.inl ⟨by omega, by omega⟩ | walk_at "side"))))
local macro_rules | `(tactic| walk_at "cb") => `(tactic| (first
  | ((with_reducible apply J.cb_lenM); walk_at "isr") | ((with_reducible apply J.cb_lentM); walk_at "isr")
  | with_reducible exact J.kb_max2 | with_reducible exact J.kb_min2
  | (((with_reducible apply J.cb_isi J.ty_int (L2.ClsV.ty _))); first | exact J.kt_ii | exact J.kt_ib)
  | (((with_reducible apply J.cb_isi J.ty_bl (L2.ClsV.ty _))); first | exact J.kt_bb | exact J.kt_bi)
  | ((with_reducible apply J.cb_lens); assumption)
  | ((with_reducible apply J.cb_isl); walk_at "isr")
  | ((with_reducible apply J.cb_ist); walk_at "isr")
  | ((with_reducible apply J.kb_tuple); walk_at "isr")))
local macro_rules | `(tactic| walk_at "args") => `(tactic| (first
  | with_reducible exact J.ea_nil
  | (((with_reducible apply J.ea_cons)); (walk_at "ev"); (walk_at "args"))))
local macro_rules | `(tactic| walk_at "ev") => `(tactic| (first
  | with_reducible exact J.ev_c
  | (((with_reducible apply J.ev_v)); exact rfl) | (((with_reducible apply J.ev_bo)); exact rfl) | (((with_reducible apply J.ev_ow)); exact rfl)
  | (((with_reducible apply J.ev_op)); (walk_at "ev"); (walk_at "ev"); (walk_at "op"))
  | (((with_reducible apply J.ev_ix)); (walk_at "ev"); (walk_at "ev"); (walk_at "op"))
  | (((with_reducible apply J.ev_cb)); (walk_at "args"); (walk_at "cb"))
  | (((with_reducible apply J.ev_fld)); (walk_at "ev"); (walk_at "isr"); (walk_at "fok"); (walk_at "lk"))
  | (((with_reducible apply J.ev_slt)); (walk_at "ev"); (walk_at "po"); (walk_at "po"))
  | (((with_reducible apply J.ev_tupN)); (walk_at "argsV"); (first | exact Nat.le_of_ble_eq_true rfl | simp))
  | (((with_reducible apply J.ev_chain)); (walk_at "ev"); (walk_at "ev"); (intro _; walk_at "ev"); (walk_at "op"); (intro _; walk_at "op"))
  | (((with_reducible apply J.ev_and)); (walk_at "ev"); (intro _; walk_at "ev"))
  | (((with_reducible apply J.ev_or)); (walk_at "ev"); (intro _; walk_at "ev"))
  | (((with_reducible apply J.ev_not)); (walk_at "ev"))
  | (((with_reducible apply J.ev_un)); (walk_at "ev"); with_reducible exact J.un_I)))
local macro_rules | `(tactic| walk_at "et") => `(tactic| (first
  | with_reducible exact J.et_yes
  | (((with_reducible apply J.et_not)); (walk_at "et"))
  | (((with_reducible apply J.et_and)); (walk_at "et"); (intro _; walk_at "et"))
  | (((with_reducible apply J.et_or)); (walk_at "et"); (intro _; walk_at "et"))
  | (((with_reducible apply J.et_Test)); (walk_at "ev"))
  | (((with_reducible apply J.et_B)); (walk_at "ev"))))
local macro_rules | `(tactic| walk_at "len") => `(tactic| (intro es r h; (repeat' (obtain ⟨_, h⟩ := h)); all_goals (subst_vars; rfl)))
local macro_rules | `(tactic| walk_at "lk") => `(tactic| (first | with_reducible exact J.lk0 | ((with_reducible apply J.lk1); (decide +kernel); (walk_at "lk")) | with_reducible exact J.lkn))
local macro_rules | `(tactic| walk_at "po") => `(tactic| (first | with_reducible exact J.eo_none | ((with_reducible apply J.eo_some); walk_at "ev")))
local macro_rules | `(tactic| walk_at "argsV") => `(tactic| (first | with_reducible exact J.ea_nilV | ((with_reducible apply J.ea_consV); (walk_at "ev"); (walk_at "argsV"))))


namespace Jug
open PySem PySem.Spec L2 PyProof.Rows J
section
variable {P : Program} {w : World} {K : PySem.W.Frag} {mg : Str → Option Value} {base : Heap} {C : Cs}
def R_within : Rel := fun es r => ∃ n lo hi : Int, es = [.v (iS n), .v (iS lo), .v (iS hi)] ∧ r = .v (bS (decide (lo ≤ n) && decide (n ≤ hi)))
/-! ### within: slots 0:number 1:low 2:high -/
abbrev s_within : Stmt := top 10
theorem sc_within : FnScope ["number", "low", "high"] ["number", "low", "high"] (defScope s_within) := ⟨rfl, rfl, rfl, by decide +kernel, rfl, by decide +kernel, by decide +kernel⟩
theorem ok_within (T : Top K mg C) : CalX P w K mg base 1 "within" (SpOf R_within) := by
  obtain ⟨f, fd, F, hm, hb⟩ := T.d_within.ex
  refine ⟨f, fd, _, fn_ok F sc_within (by walk_at "len") (fun cdv A outer s H E hr => ⟨_, (pss_cons (ps_ret (pe_and (pe_callB (kc_isi (K := K) rfl) (by rfl) T.n_isinstance bt_isinstance (pa_cons (pv 0) (pa_cons (pe_bltn (v := .ty "int") (by rfl) T.n_int bt_int rfl) pa_nil))) (pe_and (pe_not (pe_callB (kc_isi (K := K) rfl) (by rfl) T.n_isinstance bt_isinstance (pa_cons (pv 0) (pa_cons (pe_bltn (v := .ty "bool") (by rfl) T.n_bool bt_bool rfl) pa_nil)))) (pe_one (pe_chain op_le op_le (pv 1) (pv 0) (pv 2)))))) pss_nil), ?_⟩), hm, F.kp, hb⟩

  rintro es r F σ Q ⟨n, lo, hi, rfl, rfl⟩ s k
  simp only [J.cx_K, List.length_cons, List.length_nil, List.cons_append, List.nil_append, Nat.reduceAdd, Nat.reduceSub, List.reduceReplicate, List.append_nil] at s ⊢
  refine q_ret s (EvE.to (by walk_at "ev") ?_) k
  simp

def R_check_jug (C : Cs) : Rel := fun es r => ∃ n : Int, es = [.v (iS n)] ∧ ((0 ≤ n ∧ n ≤ 3) ∧ r = .v nS ∨ ¬ (0 ≤ n ∧ n ≤ 3) ∧ r = .x C.BadMove)
/-! ### check_jug: slots 0:jug -/
abbrev s_check_jug : Stmt := top 11
theorem sc_check_jug : FnScope ["jug"] ["jug"] (defScope s_check_jug) := ⟨rfl, rfl, rfl, by decide +kernel, rfl, by decide +kernel, by decide +kernel⟩
theorem ok_check_jug (T : Top K mg C) : CalX P w K mg base 2 "check_jug" (SpOf (R_check_jug C)) := by
  obtain ⟨f, fd, F, hm, hb⟩ := T.d_check_jug.ex
  refine ⟨f, fd, _, fn_ok F sc_check_jug (by walk_at "len") (fun cdv A outer s H E hr => ⟨_, (pss_cons (ps_if (pt_not (pt_val (pe_cX (ok_within T) hr (by decide) px_of (by rfl) (pa_cons (pv 0) (pa_cons pe_int (pa_cons (pe_op op_sub (C8.pe_gc (by rfl) T.g_MOST_JUGS) pe_int) pa_nil)))))) (pss_cons (ps_raiseX rfl tk_of T.x_BadMove (by rfl)) pss_nil) pss_nil) pss_nil), ?_⟩), hm, F.kp, hb⟩

  rintro es r F σ Q ⟨n, rfl, ⟨hn, rfl⟩ | ⟨hn, rfl⟩⟩ s k
  · skip
    simp only [J.cx_K, List.length_cons, List.length_nil, List.cons_append, List.nil_append, Nat.reduceAdd, Nat.reduceSub, List.reduceReplicate, List.append_nil] at s ⊢
    refine q_whenF s (et_not (et_B (ev_call (by walk_at "args") ⟨n, 0, 4 - 1, rfl, rfl⟩))) (by simp; omega) fun σ F H s => ?_
    exact k .non F H s.g rfl
  · skip
    simp only [J.cx_K, List.length_cons, List.length_nil, List.cons_append, List.nil_append, Nat.reduceAdd, Nat.reduceSub, List.reduceReplicate, List.append_nil] at s ⊢
    refine q_ifT s (et_not (et_B (ev_call (by walk_at "args") ⟨n, 0, 4 - 1, rfl, rfl⟩))) (by simp; omega) fun σ F H s => ?_
    exact q_raise s k
def okP (a b : Int) : Prop := (0 ≤ a ∧ a ≤ 3) ∧ (0 ≤ b ∧ b ≤ 3) ∧ a ≠ b
def R_Pour (C : Cs) : RelI := fun es r => ∃ a b : Int, es = [.v (iS a), .v (iS b)] ∧ (okP a b ∧ r = .ok (pourF a.toNat b.toNat) ∨ ¬ okP a b ∧ r = .error C.BadMove)
theorem pour_ok {C : Cs} {i j : Nat} (h : i ≤ 3 ∧ j ≤ 3 ∧ i ≠ j) : R_Pour C [.v (iS (i : Int)), .v (iS (j : Int))] (.ok (pourF i j)) :=
  ⟨i, j, rfl, .inl ⟨⟨by omega, by omega, by omega⟩, rfl⟩⟩
/-! ### Pour___init__: slots 0:self 1:one 2:other -/
abbrev s_Pour___init__ : Stmt := inClass (top 13) 0
theorem sc_Pour___init__ : FnScope ["self", "one", "other"] ["self", "one", "other"] (defScope s_Pour___init__) := ⟨rfl, rfl, rfl, by decide +kernel, rfl, by decide +kernel, by decide +kernel⟩
theorem ok_Pour___init__ (T : Top K mg C) : MakX P w K mg base 3 "Pour" C.Pour (SpInit C.Pour (R_Pour C)) := by
  obtain ⟨f, fd, F, hk, hm, hb⟩ := T.i_Pour.ex
  refine ⟨f, fd, _, hk, init_ok F sc_Pour___init__ (by walk_at "len") (fun cdv A outer s H E hr => ⟨_, (pss_cons (ps_expr (pe_cX (ok_check_jug T) hr (by decide) px_of (by rfl) (pa_cons (pv 1) pa_nil))) (pss_cons (ps_expr (pe_cX (ok_check_jug T) hr (by decide) px_of (by rfl) (pa_cons (pv 2) pa_nil))) (pss_cons (ps_if (pt_cmpR (ko_eq (K := K) rfl hr) (pv 1) (pv 2) (nomark _)) (pss_cons (ps_raiseX rfl tk_of T.x_BadMove (by rfl)) pss_nil) pss_nil) (pss_cons (ps_fld (pv 0) (pv 1) rfl) (pss_cons (ps_fld (pv 0) (pv 2) rfl) pss_nil))))), ?_⟩), hm, hb⟩

  rintro p es r F H0 H σ D ⟨a, b, rfl, ⟨⟨ha, hb, hab⟩, rfl⟩ | ⟨hn, rfl⟩⟩ s k
  · skip
    simp only [J.cx_K, List.length_cons, List.length_nil, List.cons_append, List.nil_append, Nat.reduceAdd, Nat.reduceSub, List.reduceReplicate, List.append_nil] at s ⊢
    have e1 : ((a.toNat : Nat) : Int) = a := Int.toNat_of_nonneg ha.1
    have e2 : ((b.toNat : Nat) : Int) = b := Int.toNat_of_nonneg hb.1
    refine q_drop s (ev_call (by walk_at "args") ⟨a, rfl, .inl ⟨ha, rfl⟩⟩) fun σ F H s => ?_
    refine q_drop s (ev_call (by walk_at "args") ⟨b, rfl, .inl ⟨hb, rfl⟩⟩) fun σ F H s => ?_
    refine q_whenF s (by walk_at "et") (by simp; omega) fun σ F H s => ?_
    refine q_self s rfl (by walk_at "ev") T.f_Pour_one rfl (Nat.le_of_ble_eq_true rfl) fun σ F H s => ?_
    dsimp only [List.set, J.putS, List.nil_append, List.cons_append] at s
    refine q_self s rfl (by walk_at "ev") T.f_Pour_other (by walk_at "lk") (Nat.le_of_ble_eq_true rfl) fun σ F H s => ?_
    refine k σ F H _ s ?_
    show some (Ent.ow (selO p C.Pour [("one", iS a), ("other", iS b)])) = some (Ent.ow (selO p C.Pour (pourF a.toNat b.toNat)))
    unfold pourF
    rw [e1, e2]
  · skip
    simp only [J.cx_K, List.length_cons, List.length_nil, List.cons_append, List.nil_append, Nat.reduceAdd, Nat.reduceSub, List.reduceReplicate, List.append_nil] at s ⊢
    by_cases ha : 0 ≤ a ∧ a ≤ 3
    · refine q_drop s (ev_call (by walk_at "args") ⟨a, rfl, .inl ⟨ha, rfl⟩⟩) fun σ F H s => ?_
      by_cases hb : 0 ≤ b ∧ b ≤ 3
      · refine q_drop s (ev_call (by walk_at "args") ⟨b, rfl, .inl ⟨hb, rfl⟩⟩) fun σ F H s => ?_
        have hab : a = b := Decidable.byContradiction fun z => hn ⟨ha, hb, z⟩
        refine q_ifT s (by walk_at "et") (by simp [hab]) fun σ F H s => ?_
        exact q_raise s k
      · exact q_dropX s (ex_call (by walk_at "args") ⟨b, rfl, .inr ⟨hb, rfl⟩⟩) k
    · exact q_dropX s (ex_call (by walk_at "args") ⟨a, rfl, .inr ⟨ha, rfl⟩⟩) k
def R_Jug (C : Cs) : RelI := fun es r => ∃ a : Int, es = [.v (iS a)] ∧ ((0 ≤ a ∧ a ≤ 3) ∧ r = .ok (jugF a.toNat) ∨ ¬ (0 ≤ a ∧ a ≤ 3) ∧ r = .error C.BadMove)
theorem jug_ok {C : Cs} {i : Nat} (h : i ≤ 3) : R_Jug C [.v (iS (i : Int))] (.ok (jugF i)) := ⟨i, rfl, .inl ⟨by omega, rfl⟩⟩
/-! ### Fill___init__: slots 0:self 1:jug -/
abbrev s_Fill___init__ : Stmt := inClass (top 14) 0
theorem sc_Fill___init__ : FnScope ["self", "jug"] ["self", "jug"] (defScope s_Fill___init__) := ⟨rfl, rfl, rfl, by decide +kernel, rfl, by decide +kernel, by decide +kernel⟩
theorem ok_Fill___init__ (T : Top K mg C) : MakX P w K mg base 3 "Fill" C.Fill (SpInit C.Fill (R_Jug C)) := by
  obtain ⟨f, fd, F, hk, hm, hb⟩ := T.i_Fill.ex
  refine ⟨f, fd, _, hk, init_ok F sc_Fill___init__ (by walk_at "len") (fun cdv A outer s H E hr => ⟨_, (pss_cons (ps_expr (pe_cX (ok_check_jug T) hr (by decide) px_of (by rfl) (pa_cons (pv 1) pa_nil))) (pss_cons (ps_fld (pv 0) (pv 1) rfl) pss_nil)), ?_⟩), hm, hb⟩

  rintro p es r F H0 H σ D ⟨a, rfl, ⟨ha, rfl⟩ | ⟨hn, rfl⟩⟩ s k
  · skip
    simp only [J.cx_K, List.length_cons, List.length_nil, List.cons_append, List.nil_append, Nat.reduceAdd, Nat.reduceSub, List.reduceReplicate, List.append_nil] at s ⊢
    have e1 : ((a.toNat : Nat) : Int) = a := Int.toNat_of_nonneg ha.1
    refine q_drop s (ev_call (by walk_at "args") ⟨a, rfl, .inl ⟨ha, rfl⟩⟩) fun σ F H s => ?_
    refine q_self s rfl (by walk_at "ev") T.f_Fill_jug rfl (Nat.le_of_ble_eq_true rfl) fun σ F H s => ?_
    refine k σ F H _ s ?_
    show some (Ent.ow (selO p C.Fill [("jug", iS a)])) = some (Ent.ow (selO p C.Fill (jugF a.toNat)))
    unfold jugF
    rw [e1]
  · skip
    simp only [J.cx_K, List.length_cons, List.length_nil, List.cons_append, List.nil_append, Nat.reduceAdd, Nat.reduceSub, List.reduceReplicate, List.append_nil] at s ⊢
    exact q_dropX s (ex_call (by walk_at "args") ⟨a, rfl, .inr ⟨hn, rfl⟩⟩) k
/-! ### Empty___init__: slots 0:self 1:jug -/
abbrev s_Empty___init__ : Stmt := inClass (top 15) 0
theorem sc_Empty___init__ : FnScope ["self", "jug"] ["self", "jug"] (defScope s_Empty___init__) := ⟨rfl, rfl, rfl, by decide +kernel, rfl, by decide +kernel, by decide +kernel⟩
theorem ok_Empty___init__ (T : Top K mg C) : MakX P w K mg base 3 "Empty" C.Empty (SpInit C.Empty (R_Jug C)) := by
  obtain ⟨f, fd, F, hk, hm, hb⟩ := T.i_Empty.ex
  refine ⟨f, fd, _, hk, init_ok F sc_Empty___init__ (by walk_at "len") (fun cdv A outer s H E hr => ⟨_, (pss_cons (ps_expr (pe_cX (ok_check_jug T) hr (by decide) px_of (by rfl) (pa_cons (pv 1) pa_nil))) (pss_cons (ps_fld (pv 0) (pv 1) rfl) pss_nil)), ?_⟩), hm, hb⟩

  rintro p es r F H0 H σ D ⟨a, rfl, ⟨ha, rfl⟩ | ⟨hn, rfl⟩⟩ s k
  · skip
    simp only [J.cx_K, List.length_cons, List.length_nil, List.cons_append, List.nil_append, Nat.reduceAdd, Nat.reduceSub, List.reduceReplicate, List.append_nil] at s ⊢
    have e1 : ((a.toNat : Nat) : Int) = a := Int.toNat_of_nonneg ha.1
    refine q_drop s (ev_call (by walk_at "args") ⟨a, rfl, .inl ⟨ha, rfl⟩⟩) fun σ F H s => ?_
    refine q_self s rfl (by walk_at "ev") T.f_Empty_jug rfl (Nat.le_of_ble_eq_true rfl) fun σ F H s => ?_
    refine k σ F H _ s ?_
    show some (Ent.ow (selO p C.Empty [("jug", iS a)])) = some (Ent.ow (selO p C.Empty (jugF a.toNat)))
    unfold jugF
    rw [e1]
  · skip
    simp only [J.cx_K, List.length_cons, List.length_nil, List.cons_append, List.nil_append, Nat.reduceAdd, Nat.reduceSub, List.reduceReplicate, List.append_nil] at s ⊢
    exact q_dropX s (ex_call (by walk_at "args") ⟨a, rfl, .inr ⟨hn, rfl⟩⟩) k

def R_House (C : Cs) : RelI := fun es r => ∃ z t, es = [.bo (lstO (z.map iS)), .v (bS t)] ∧ z.length ≤ 100000 ∧ (HouseOk z ∧ r = .ok (hoF z t) ∨ ¬ HouseOk z ∧ r = .error C.BadHouse)
/-! ### House___init__: slots 0:self 1:sizes 2:tap 3:states 4:size -/
abbrev s_House___init__ : Stmt := inClass (top 20) 0
theorem sc_House___init__ : FnScope ["self", "sizes", "tap", "states", "size"] ["self", "sizes", "tap"] (defScope s_House___init__) := ⟨rfl, rfl, rfl, by decide +kernel, rfl, by decide +kernel, by decide +kernel⟩
theorem ok_House___init__ (T : Top K mg C) : MakX P w K mg base 2 "House" C.House (SpInit C.House (R_House C)) := by
  obtain ⟨f, fd, F, hk, hm, hb⟩ := T.i_House.ex
  refine ⟨f, fd, _, hk, init_ok F sc_House___init__ (by walk_at "len") (fun cdv A outer s H E hr => ⟨_, (pss_cons (ps_if (PW.pt (pw_or (pt_not (pt_val (pe_callB (kc_isi (K := K) rfl) (by rfl) T.n_isinstance bt_isinstance (pa_cons (pv 1) (pa_cons (pe_bltn (v := .ty "list") (by rfl) T.n_list bt_list rfl) pa_nil))))) (pw_or (pt_not (pt_chain op_le op_le pe_int (pe_callB (kc_len (K := K) rfl) (by rfl) T.n_len bt_len (pa_cons (pv 1) pa_nil)) (C8.pe_gc (by rfl) T.g_MOST_JUGS))) (pw_or1 (pt_not (pt_val (pe_callB (kc_isi (K := K) rfl) (by rfl) T.n_isinstance bt_isinstance (pa_cons (pv 2) (pa_cons (pe_bltn (v := .ty "bool") (by rfl) T.n_bool bt_bool rfl) pa_nil))))))))) (pss_cons (ps_raiseX rfl tk_of T.x_BadHouse (by rfl)) pss_nil) pss_nil) (pss_cons (ps_set (i := 3) sc_House___init__.nd rfl (Or.inl rfl) pe_int) (pss_cons (ps_for (passes_of rfl) rfl (ki_any (K := K) rfl (pv 1)) (pg_name (i := 4) sc_House___init__.nd rfl (Or.inl rfl)) (pss_cons (ps_if (pt_not (pt_val (pe_cX (ok_within T) hr (by decide) px_of (by rfl) (pa_cons (pv 4) (pa_cons pe_int (pa_cons (C8.pe_gc (by rfl) T.g_GREATEST) pa_nil)))))) (pss_cons (ps_raiseX rfl tk_of T.x_BadHouse (by rfl)) pss_nil) pss_nil) (pss_cons (ps_set (i := 3) sc_House___init__.nd rfl (Or.inl rfl) (pe_op jo_mul (pv 3) (pe_op (ko_add (K := K) rfl) (pv 4) pe_int))) pss_nil))) (pss_cons (ps_if (pt_cmpR op_gt (pv 3) (C8.pe_gc (by rfl) T.g_MOST_STATES) (nomark _)) (pss_cons (ps_raiseX rfl tk_of T.x_BadHouse (by rfl)) pss_nil) pss_nil) (pss_cons (ps_fld (pv 0) (pe_callTy (kc_list (K := K) rfl) (by rfl) T.n_list bt_list (pa_cons (pv 1) pa_nil)) rfl) (pss_cons (ps_fld (pv 0) (pv 2) rfl) pss_nil)))))), ?_⟩), hm, hb⟩

  rintro p es r F H0 H σ D ⟨z, t, rfl, hz0, ⟨hz, rfl⟩ | ⟨hn, rfl⟩⟩ s k
  · skip
    simp only [J.cx_K, List.length_cons, List.length_nil, List.cons_append, List.nil_append, Nat.reduceAdd, Nat.reduceSub, List.reduceReplicate, List.append_nil] at s ⊢
    have hz1 := hz.l1
    have hz4 := hz.l4
    refine q_whenF s (et_or (et_not (by walk_at "et")) fun _ => et_or (et_not (by walk_at "et")) fun _ => et_not (by walk_at "et")) (by simp; omega) fun σ F H s => ?_
    refine q_set s (by walk_at "ev") fun σ F H s => ?_
    dsimp only [List.set, J.putS, List.nil_append, List.cons_append] at s
    refine q_forB s rfl (fun n d => ∃ e, d = [.ow (selO p C.House []), .bo (lstO (z.map iS)), .v (bS t), .v (iS (prodTo z n)), e]) ⟨_, rfl⟩ ?_ ?_
    · rintro F1 bs n T' δ' σ F H hT ⟨e, rfl⟩ s
      obtain ⟨a, ha, rfl⟩ := mapGet hT
      have hb := hz.sz a (List.mem_of_getElem? ha)
      dsimp only [List.set, J.putS, List.nil_append, List.cons_append] at s
      refine q_whenF s (et_not (et_B (ev_call (by walk_at "args") ⟨_, _, _, rfl, rfl⟩))) (by simp; omega) fun σ F H s => ?_
      refine q_set s (EvE.to (ev_op (by walk_at "ev") (by walk_at "ev") (op_I ?_)) rfl) fun σ F H s => ?_
      · exact .inr (by omega)
      exact q_nx s ⟨_, by rw [prodTo_succ ha]; rfl⟩
    · rintro δ' σ F H ⟨e, rfl⟩ s
      rw [List.length_map] at s
      have hp := hz.pr
      refine q_whenF s (by walk_at "et") (by simp; omega) fun σ F H s => ?_
      refine q_self s rfl (eo_cb (by walk_at "args") (kb_list (by walk_at "isr"))).v T.f_House_told rfl (Nat.le_of_ble_eq_true rfl) fun σ F H s => ?_
      dsimp only [List.set, J.putS, List.nil_append, List.cons_append] at s
      refine q_self s rfl (by walk_at "ev") T.f_House_tap (by walk_at "lk") (Nat.le_of_ble_eq_true rfl) fun σ F H s => ?_
      exact k σ F H _ s rfl
  · skip
    simp only [J.cx_K, List.length_cons, List.length_nil, List.cons_append, List.nil_append, Nat.reduceAdd, Nat.reduceSub, List.reduceReplicate, List.append_nil] at s ⊢
    by_cases hl : 1 ≤ z.length ∧ z.length ≤ 4
    · refine q_whenF s (et_or (et_not (by walk_at "et")) fun _ => et_or (et_not (by walk_at "et")) fun _ => et_not (by walk_at "et")) (by simp; omega) fun σ F H s => ?_
      refine q_set s (by walk_at "ev") fun σ F H s => ?_
      dsimp only [List.set, J.putS, List.nil_append, List.cons_append] at s
      refine q_forB s rfl (fun n d => (∀ a ∈ z.take n, 1 ≤ a ∧ a ≤ 60) ∧ ∃ e, d = [.ow (selO p C.House []), .bo (lstO (z.map iS)), .v (bS t), .v (iS (prodTo z n)), e]) ⟨(by simp), _, rfl⟩ ?_ ?_
      · rintro F1 bs n T' δ' σ F H hT ⟨hok, e, rfl⟩ s
        obtain ⟨a, ha, rfl⟩ := mapGet hT
        dsimp only [List.set, J.putS, List.nil_append, List.cons_append] at s
        by_cases hb : 1 ≤ a ∧ a ≤ 60
        · refine q_whenF s (et_not (et_B (ev_call (by walk_at "args") ⟨_, _, _, rfl, rfl⟩))) (by simp; omega) fun σ F H s => ?_
          refine q_set s (EvE.to (ev_op (by walk_at "ev") (by walk_at "ev") (op_I ?_)) rfl) fun σ F H s => ?_
          · exact .inr (by omega)
          refine q_nx s ⟨fun x hx => ?_, _, by rw [prodTo_succ ha]; rfl⟩
          rw [List.take_add_one, ha] at hx
          rcases List.mem_append.mp hx with hx | hx
          · exact hok x hx
          · rw [List.mem_singleton.mp hx]
            exact hb
        · refine q_ifT s (et_not (et_B (ev_call (by walk_at "args") ⟨_, _, _, rfl, rfl⟩))) (by simp; omega) fun σ F H s => ?_
          exact q_raise s fun F' H' g => k F' H' (bs g)
      · rintro δ' σ F H ⟨hok, e, rfl⟩ s
        rw [List.length_map] at s hok
        rw [List.take_length] at hok
        have hp : 2000 < prodTo z z.length := Int.lt_of_not_ge fun q => hn ⟨hl.1, hl.2, hok, q⟩
        refine q_ifT s (by walk_at "et") (by simp; omega) fun σ F H s => ?_
        exact q_raise s k
    · refine q_ifT s (et_or (et_not (by walk_at "et")) fun _ => et_or (et_not (by walk_at "et")) fun _ => et_not (by walk_at "et")) (by simp; omega) fun σ F H s => ?_
      exact q_raise s k
def R_sizes (C : Cs) : Rel := fun es r => ∃ z t, es = [.v (houseS C z t)] ∧ r = .o (lstO (z.map iS))
/-! ### House_sizes: slots 0:self -/
abbrev s_House_sizes : Stmt := inClass (top 20) 1
theorem sc_House_sizes : FnScope ["self"] ["self"] (defScope s_House_sizes) := ⟨rfl, rfl, rfl, by decide +kernel, rfl, by decide +kernel, by decide +kernel⟩
theorem ok_House_sizes (T : Top K mg C) {D : Addr} (M : MetT K D "sizes" "House.sizes" s_House_sizes ["self"]) : MetX P w K mg base 1 D "sizes" (SpOf (R_sizes C)) := by
  obtain ⟨f, fd, F, hc, hm, hb⟩ := M.ex
  refine ⟨f, fd, _, hc, hm, fn_ok F sc_House_sizes (by walk_at "len") (fun cdv A outer s H E hr => ⟨_, (pss_cons (ps_ret (pe_callTy (kc_list (K := K) rfl) (by rfl) T.n_list bt_list (pa_cons (ke_fld (K := K) rfl (pv 0) rfl) pa_nil))) pss_nil), ?_⟩), hb⟩

  rintro es r F σ Q ⟨z, t, rfl, rfl⟩ s k
  simp only [J.cx_K, List.length_cons, List.length_nil, List.cons_append, List.nil_append, Nat.reduceAdd, Nat.reduceSub, List.reduceReplicate, List.append_nil] at s ⊢
  exact q_retO s (eo_cb (by walk_at "args") (kb_list (by walk_at "isr"))) k

end
end Jug


namespace Jug
open PySem PySem.Spec L2 PyProof.Rows J
section
variable {P : Program} {w : World} {K : PySem.W.Frag} {mg : Str → Option Value} {base : Heap} {C : Cs}
theorem is_Move (T : Top K mg C) (m : Mv) : CbE (rIsi K) [.v (moveS C m), .v (kS (.ref C.Move))] (.v (bS true)) := by
  cases m with
  | pour i j => exact cb_isi (ty_ins T.ik_Pour isR_v) (.own _) T.is_Pour_Move
  | fill i => exact cb_isi (ty_ins T.ik_Fill isR_v) (.own _) T.is_Fill_Move
  | empty i => exact cb_isi (ty_ins T.ik_Empty isR_v) (.own _) T.is_Empty_Move
def R_check_moves (C : Cs) : Rel := fun es r => ∃ ms : List Mv, es = [.bo (lstO (ms.map (moveS C)))] ∧ True ∧ r = .v nS
/-! ### check_moves: slots 0:moves 1:move -/
abbrev s_check_moves : Stmt := top 16
theorem sc_check_moves : FnScope ["moves", "move"] ["moves"] (defScope s_check_moves) := ⟨rfl, rfl, rfl, by decide +kernel, rfl, by decide +kernel, by decide +kernel⟩
theorem ok_check_moves (T : Top K mg C) : CalX P w K mg base 1 "check_moves" (SpOf (R_check_moves C)) := by
  obtain ⟨f, fd, F, hm, hb⟩ := T.d_check_moves.ex
  refine ⟨f, fd, _, fn_ok F sc_check_moves (by walk_at "len") (fun cdv A outer s H E hr => ⟨_, (pss_cons (ps_if (pt_not (pt_val (pe_callB (kc_isi (K := K) rfl) (by rfl) T.n_isinstance bt_isinstance (pa_cons (pv 0) (pa_cons (pe_bltn (v := .ty "list") (by rfl) T.n_list bt_list rfl) pa_nil))))) (pss_cons (ps_raiseX rfl tk_of T.x_BadMove (by rfl)) pss_nil) pss_nil) (pss_cons (ps_for (passes_of rfl) rfl (ki_any (K := K) rfl (pv 0)) (pg_name (i := 1) sc_check_moves.nd rfl (Or.inl rfl)) (pss_cons (ps_if (pt_not (pt_val (pe_callB (kc_isi (K := K) rfl) (by rfl) T.n_isinstance bt_isinstance (pa_cons (pv 1) (pa_cons (C8.pe_gc (by rfl) T.k_Move) pa_nil))))) (pss_cons (ps_raiseX rfl tk_of T.x_BadMove (by rfl)) pss_nil) pss_nil) pss_nil)) pss_nil)), ?_⟩), hm, F.kp, hb⟩

  rintro es r F σ Q ⟨ms, rfl, _, rfl⟩ s k
  simp only [J.cx_K, List.length_cons, List.length_nil, List.cons_append, List.nil_append, Nat.reduceAdd, Nat.reduceSub, List.reduceReplicate, List.append_nil] at s ⊢
  refine q_whenF s (by walk_at "et") (by rfl) fun σ F H s => ?_
  refine q_forB s rfl (fun n d => ∃ e, d = [.bo (lstO (ms.map (moveS C))), e]) ⟨_, rfl⟩ ?_ ?_
  · rintro F1 bs n T' δ' σ F H hT ⟨e, rfl⟩ s
    obtain ⟨m, hm, rfl⟩ := mapGet hT
    dsimp only [List.set, J.putS, List.nil_append, List.cons_append] at s
    refine q_whenF s (et_not (et_B (ev_cb (by walk_at "args") (is_Move T m)))) rfl fun σ F H s => ?_
    exact q_nx s ⟨_, rfl⟩
  · rintro δ' σ F H ⟨e, rfl⟩ s
    exact k .non F H s.g rfl

/-! ### texts of moves -/
theorem strI_len : ∀ i < 4, (strI ((i : Nat) : Int)).length = 1 := by decide +kernel
theorem app_len (a b : Str) : (a ++ b).length = a.length + b.length := Array.size_append
theorem log_small {i : Nat} (h : i < 4) : ((i : Int)).natAbs.log2 < 1920 := by
  have : ∀ i < 4, ((i : Nat) : Int).natAbs.log2 < 1920 := by decide +kernel
  exact this i h
theorem mtext_len {m : Mv} (h : small m) : (mtext m).length ≤ 10 := by
  cases m with
  | pour i j =>
    have : ∀ i < 4, ∀ j < 4, (mtext (.pour i j)).length ≤ 10 := by decide +kernel
    exact this i h.1 j h.2
  | fill i =>
    have : ∀ i < 4, (mtext (.fill i)).length ≤ 10 := by decide +kernel
    exact this i h
  | empty i =>
    have : ∀ i < 4, (mtext (.empty i)).length ≤ 10 := by decide +kernel
    exact this i h
def R_move_text (C : Cs) : Rel := fun es r => ∃ m, es = [.v (moveS C m)] ∧ small m ∧ r = .v (sS (mtext m))
/-! ### move_text: slots 0:move -/
abbrev s_move_text : Stmt := top 24
theorem sc_move_text : FnScope ["move"] ["move"] (defScope s_move_text) := ⟨rfl, rfl, rfl, by decide +kernel, rfl, by decide +kernel, by decide +kernel⟩
theorem ok_move_text (T : Top K mg C) : CalX P w K mg base 1 "move_text" (SpOf (R_move_text C)) := by
  obtain ⟨f, fd, F, hm, hb⟩ := T.d_move_text.ex
  refine ⟨f, fd, _, fn_ok F sc_move_text (by walk_at "len") (fun cdv A outer s H E hr => ⟨_, (pss_cons (ps_if (pt_val (pe_callB (kc_isi (K := K) rfl) (by rfl) T.n_isinstance bt_isinstance (pa_cons (pv 0) (pa_cons (C8.pe_gc (by rfl) T.k_Pour) pa_nil)))) (pss_cons (ps_ret (pe_op (ko_add (K := K) rfl) (pe_op (ko_add (K := K) rfl) (pe_op (ko_add (K := K) rfl) pe_str (pe_callTy kc_str (by rfl) T.n_str bt_str (pa_cons (ke_fld (K := K) rfl (pv 0) rfl) pa_nil))) pe_str) (pe_callTy kc_str (by rfl) T.n_str bt_str (pa_cons (ke_fld (K := K) rfl (pv 0) rfl) pa_nil)))) pss_nil) pss_nil) (pss_cons (ps_if (pt_val (pe_callB (kc_isi (K := K) rfl) (by rfl) T.n_isinstance bt_isinstance (pa_cons (pv 0) (pa_cons (C8.pe_gc (by rfl) T.k_Fill) pa_nil)))) (pss_cons (ps_ret (pe_op (ko_add (K := K) rfl) pe_str (pe_callTy kc_str (by rfl) T.n_str bt_str (pa_cons (ke_fld (K := K) rfl (pv 0) rfl) pa_nil)))) pss_nil) pss_nil) (pss_cons (ps_ret (pe_op (ko_add (K := K) rfl) pe_str (pe_callTy kc_str (by rfl) T.n_str bt_str (pa_cons (ke_fld (K := K) rfl (pv 0) rfl) pa_nil)))) pss_nil))), ?_⟩), hm, F.kp, hb⟩

  rintro es r F σ Q ⟨m, rfl, hm, rfl⟩ s k
  simp only [J.cx_K, List.length_cons, List.length_nil, List.cons_append, List.nil_append, Nat.reduceAdd, Nat.reduceSub, List.reduceReplicate, List.append_nil] at s ⊢
  cases m with
  | pour i j =>
    have h1 := strI_len i hm.1
    have h2 := strI_len j hm.2
    have e1 : EvE (tFld K (tVar 0) "one") [.v (moveS C (.pour i j))] (.v (iS (i : Int))) := ev_fld (fs := pourF i j) (ev_v rfl) isR_v T.f_Pour_one (by walk_at "lk")
    have e2 : EvE (tFld K (tVar 0) "other") [.v (moveS C (.pour i j))] (.v (iS (j : Int))) := ev_fld (fs := pourF i j) (ev_v rfl) isR_v T.f_Pour_other (by walk_at "lk")
    refine q_ifT s (et_B (ev_cb (by walk_at "args") (cb_isi (ty_ins T.ik_Pour isR_v) (.own _) T.is_Pour_Pour))) rfl fun σ F H s => ?_
    refine q_ret s (ev_op (ev_op (ev_op ev_c (ev_cb (ea_cons e1 ea_nil) (cb_str (log_small hm.1))) (jv_adds ?_)) ev_c (jv_adds ?_)) (ev_cb (ea_cons e2 ea_nil) (cb_str (log_small hm.2))) (jv_adds ?_)) k
    · rw [h1]; decide +kernel
    · rw [app_len, h1]; decide +kernel
    · rw [app_len, app_len, h1, h2]; decide +kernel
  | fill i =>
    have h1 := strI_len i hm
    have e1 : EvE (tFld K (tVar 0) "jug") [.v (moveS C (.fill i))] (.v (iS (i : Int))) := ev_fld (fs := jugF i) (ev_v rfl) isR_v T.f_Fill_jug (by walk_at "lk")
    refine q_whenF s (et_B (ev_cb (by walk_at "args") (cb_isi (ty_ins T.ik_Fill isR_v) (.own _) T.is_Fill_Pour))) rfl fun σ F H s => ?_
    refine q_ifT s (et_B (ev_cb (by walk_at "args") (cb_isi (ty_ins T.ik_Fill isR_v) (.own _) T.is_Fill_Fill))) rfl fun σ F H s => ?_
    refine q_ret s (ev_op ev_c (ev_cb (ea_cons e1 ea_nil) (cb_str (log_small hm))) (jv_adds ?_)) k
    rw [h1]; decide +kernel
  | empty i =>
    have h1 := strI_len i hm
    have e1 : EvE (tFld K (tVar 0) "jug") [.v (moveS C (.empty i))] (.v (iS (i : Int))) := ev_fld (fs := jugF i) (ev_v rfl) isR_v T.f_Empty_jug (by walk_at "lk")
    refine q_whenF s (et_B (ev_cb (by walk_at "args") (cb_isi (ty_ins T.ik_Empty isR_v) (.own _) T.is_Empty_Pour))) rfl fun σ F H s => ?_
    refine q_whenF s (et_B (ev_cb (by walk_at "args") (cb_isi (ty_ins T.ik_Empty isR_v) (.own _) T.is_Empty_Fill))) rfl fun σ F H s => ?_
    refine q_ret s (ev_op ev_c (ev_cb (ea_cons e1 ea_nil) (cb_str (log_small hm))) (jv_adds ?_)) k
    rw [h1]; decide +kernel
theorem sum_le : ∀ {ms : List Mv}, (∀ m ∈ ms, small m) → ((ms.map mtext).map (·.length)).sum ≤ ms.length * 10
  | [], _ => Nat.le_refl _
  | m :: ms, h => by
    rw [List.map_cons, List.map_cons, List.sum_cons, List.length_cons, Nat.succ_mul]
    have h1 := mtext_len (h m List.mem_cons_self)
    have h2 := sum_le fun m' h' => h m' (List.mem_cons_of_mem m h')
    omega
def R_routine_text (C : Cs) : Rel := fun es r => ∃ ms : List Mv, es = [.bo (lstO (ms.map (moveS C)))] ∧ ((∀ m ∈ ms, small m) ∧ ms.length ≤ 30001) ∧ r = .v (sS (rtext ms))
/-! ### routine_text: slots 0:moves 1:move -/
abbrev s_routine_text : Stmt := top 25
theorem sc_routine_text : FnScope ["moves", "move"] ["moves"] (defScope s_routine_text) := ⟨rfl, rfl, rfl, by decide +kernel, rfl, by decide +kernel, by decide +kernel⟩
theorem ok_routine_text (T : Top K mg C) : CalX P w K mg base 2 "routine_text" (SpOf (R_routine_text C)) := by
  obtain ⟨f, fd, F, hm, hb⟩ := T.d_routine_text.ex
  refine ⟨f, fd, _, fn_ok F sc_routine_text (by walk_at "len") (fun cdv A outer s H E hr => ⟨_, (pss_cons (ps_expr (pe_cX (ok_check_moves T) hr (by decide) px_of (by rfl) (pa_cons (pv 0) pa_nil))) (pss_cons (ps_ret (ke_join (K := K) rfl pe_str (pe_lc (own := [("move", 1)]) (g := gName 1) rfl sc_routine_text.nd (ki_any (K := K) rfl (pv 0)) (blkOk_by (N := ["moves", "move"]) (sc := defScope s_routine_text) (by decide +kernel)) (fun _ _ _ _ _ => pg_name (i := 1) sc_routine_text.nd rfl (Or.inl rfl)) (fun _ _ _ _ _ => pts_nil) (fun _ _ _ _ _ => (pe_cX (ok_move_text T) hr (by decide) passN (by rfl) (pa_cons (pv 1) pa_nil)))))) pss_nil)), ?_⟩), hm, F.kp, hb⟩

  rintro es r F σ Q ⟨ms, rfl, ⟨hm, hl⟩, rfl⟩ s k
  simp only [J.cx_K, List.length_cons, List.length_nil, List.cons_append, List.nil_append, Nat.reduceAdd, Nat.reduceSub, List.reduceReplicate, List.append_nil] at s ⊢
  refine q_drop s (ev_call (by walk_at "args") ⟨ms, rfl, True.intro, rfl⟩) fun σ F H s => ?_
  have hs := sum_le hm
  refine q_ret s (ev_join (ys := ms.map mtext) ev_c (eo_lcM (moveS C) ms (fun m => sS (mtext m)) (by walk_at "ev") isR_b (by omega) (fun m h => ev_call (by walk_at "args") ⟨m, rfl, hm m h, rfl⟩)).v ?_ ?_) k
  · rw [List.map_map]
    exact isR_v
  · rw [List.length_map]
    have e : (Str.ofString "; ").length = 2 := by decide +kernel
    rw [e]
    omega

theorem log99 {a : Int} (h : 0 ≤ a ∧ a ≤ 99) : a.natAbs.log2 < 1920 := by
  have : ∀ i < 100, ((i : Nat) : Int).natAbs.log2 < 1920 := by decide +kernel
  have e : a = ((a.toNat : Nat) : Int) := (Int.toNat_of_nonneg h.1).symm
  rw [e]
  exact this a.toNat (by omega)
theorem strI_len2 {a : Int} (h : 0 ≤ a ∧ a ≤ 99) : (strI a).length ≤ 2 := by
  have : ∀ i < 100, (strI ((i : Nat) : Int)).length ≤ 2 := by decide +kernel
  have e : a = ((a.toNat : Nat) : Int) := (Int.toNat_of_nonneg h.1).symm
  rw [e]
  exact this a.toNat (by omega)
theorem sum2 : ∀ {z : List Int}, (∀ a ∈ z, 0 ≤ a ∧ a ≤ 99) → ((z.map strI).map (·.length)).sum ≤ z.length * 2
  | [], _ => Nat.le_refl _
  | a :: z, h => by
    rw [List.map_cons, List.map_cons, List.sum_cons, List.length_cons, Nat.succ_mul]
    have h1 := strI_len2 (h a List.mem_cons_self)
    have h2 := sum2 fun m h' => h m (List.mem_cons_of_mem a h')
    omega
def R_house_text (C : Cs) : Rel := fun es r => ∃ z t, es = [.v (houseS C z t)] ∧ HouseOk z ∧ r = .v (sS (htext z t))
theorem htext_sum {z : List Int} (h : HouseOk z) (t : Bool) : (((([jugsS] ++ z.map strI) ++ (if t = true then [tapS] else [])).map (·.length)).sum + (([jugsS] ++ z.map strI) ++ (if t = true then [tapS] else [])).length * spS.length ≤ 16777216) := by
  have h1 := sum2 (z := z) fun a ha => by have := h.sz a ha; omega
  have h2 := h.l4
  have e1 : jugsS.length = 4 := by decide +kernel
  have e2 : tapS.length = 3 := by decide +kernel
  have e3 : spS.length = 1 := by decide +kernel
  cases t <;> simp [e1, e2, e3] <;> simp at h1 <;> omega
/-! ### house_text: slots 0:house 1:words 2:size -/
abbrev s_house_text : Stmt := top 23
theorem sc_house_text : FnScope ["house", "words", "size"] ["house"] (defScope s_house_text) := ⟨rfl, rfl, rfl, by decide +kernel, rfl, by decide +kernel, by decide +kernel⟩
theorem ok_house_text (T : Top K mg C) : CalX P w K mg base 2 "house_text" (SpOf (R_house_text C)) := by
  obtain ⟨f, fd, F, hm, hb⟩ := T.d_house_text.ex
  refine ⟨f, fd, _, fn_ok F sc_house_text (by walk_at "len") (fun cdv A outer s H E hr => ⟨_, (pss_cons (ps_set (i := 1) sc_house_text.nd rfl (Or.inl rfl) (pe_op (ko_add (K := K) rfl) (pe_lst (pa_cons pe_str pa_nil)) (pe_lc (own := [("size", 2)]) (g := gName 2) rfl sc_house_text.nd (ki_any (K := K) rfl (pe_mtX0 (ok_House_sizes T T.m_House_sizes) hr (by decide) px_of (pv 0))) (blkOk_by (N := ["house", "words", "size"]) (sc := defScope s_house_text) (by decide +kernel)) (fun _ _ _ _ _ => pg_name (i := 2) sc_house_text.nd rfl (Or.inl rfl)) (fun _ _ _ _ _ => pts_nil) (fun _ _ _ _ _ => (pe_callTy kc_str (by rfl) T.n_str bt_str (pa_cons (pv 2) pa_nil)))))) (pss_cons (ps_if (pt_val (ke_fld (K := K) rfl (pv 0) rfl)) (pss_cons (ps_expr (pe_bm PySem.F.plainAttrs_list PySem.F.slot_list_append PySem.F.type_list_append mt_append (pv 1) (pa_cons pe_str pa_nil))) pss_nil) pss_nil) (pss_cons (ps_ret (ke_join (K := K) rfl pe_str (pv 1))) pss_nil))), ?_⟩), hm, F.kp, hb⟩

  rintro es r F σ Q ⟨z, t, rfl, hz, rfl⟩ s k
  simp only [J.cx_K, List.length_cons, List.length_nil, List.cons_append, List.nil_append, Nat.reduceAdd, Nat.reduceSub, List.reduceReplicate, List.append_nil] at s ⊢
  have hl := hz.l4
  refine q_setO s (o := lstO (([jugsS] ++ z.map strI).map sS)) (EvO.to (eo_op (EvO.b (eo_lstN (ss := [jugsS].map sS) (ea_consV ev_c ea_nilV) (Nat.le_of_ble_eq_true rfl))) (EvO.b (eo_lcM iS z (fun a => sS (strI a)) (EvO.b (eo_meth (ev_v rfl) rfl ea_nil ⟨z, t, rfl, rfl⟩)) isR_b (by omega) (fun a ha => ev_cb (by walk_at "args") (cb_str (log99 (by have := hz.sz a ha; omega)))))) (jo_addl isR_b isR_b (by simp; omega))) (by rw [List.map_append, List.map_map]; rfl)) fun σ F H s => ?_
  dsimp only [List.set, J.putS, List.nil_append, List.cons_append] at s
  refine q_when s (by walk_at "et") (fun ht σ F H s => ?_) (fun ht σ F H s => ?_)
  · subst ht
    refine q_app s rfl (S := sS tapS) ev_c (by simp; omega) fun σ F H s => ?_
    dsimp only [List.set, J.putS, List.nil_append, List.cons_append] at s
    refine q_thru ?_
    exact q_ret s (ev_join (ys := ([jugsS] ++ z.map strI) ++ [tapS]) ev_c (ev_ow rfl) (by rw [List.map_append (l₁ := [jugsS] ++ z.map strI)]; exact isR_b) (htext_sum hz true)) k
  · subst ht
    refine q_ret s (EvE.to (ev_join (ys := [jugsS] ++ z.map strI) ev_c (ev_ow rfl) isR_b (by have := htext_sum hz false; rw [if_neg Bool.false_ne_true, List.append_nil] at this; exact this)) ?_) k
    unfold htext
    rw [if_neg Bool.false_ne_true, List.append_nil]
    rfl
def R_number_in (C : Cs) : Rel := fun es r => ∃ w, es = [.v (sS w)] ∧ w.length ≤ 100000 ∧ (isNum w = true ∧ r = .v (iS (num w)) ∨ isNum w = false ∧ r = .x C.BadText)
theorem isNum_test (w : Str) : isNum w = !(!(decide ((1 : Int) ≤ (w.length : Int)) && decide ((w.length : Int) ≤ 2)) || (!decide (Txt.stripChars w FIG = sE) || (decide (ch0 w = s0) && !decide (w = s0)))) := by
  unfold isNum
  have e : decide (1 ≤ w.length ∧ w.length ≤ 2) = (decide ((1 : Int) ≤ (w.length : Int)) && decide ((w.length : Int) ≤ 2)) := by
    rw [Bool.eq_iff_iff]
    simp only [decide_eq_true_eq, Bool.and_eq_true]
    omega
  rw [e]
  cases decide ((1 : Int) ≤ (w.length : Int)) <;> cases decide ((w.length : Int) ≤ 2) <;> cases decide (Txt.stripChars w FIG = sE) <;> simp
theorem num_pos {w : Str} (hb : (!(decide ((1 : Int) ≤ (w.length : Int)) && decide ((w.length : Int) ≤ 2))) = false) : 0 < w.length := by
  simp at hb
  omega
theorem ch0_is (w : Str) : Ent.v (sS ⟨#[(TL.tl w).getD 0 0]⟩) = Ent.v (sS (ch0 w)) := by
  unfold ch0
  cases TL.tl w <;> rfl
/-! ### number_in: slots 0:word -/
abbrev s_number_in : Stmt := top 26
theorem sc_number_in : FnScope ["word"] ["word"] (defScope s_number_in) := ⟨rfl, rfl, rfl, by decide +kernel, rfl, by decide +kernel, by decide +kernel⟩
theorem ok_number_in (T : Top K mg C) : CalX P w K mg base 1 "number_in" (SpOf (R_number_in C)) := by
  obtain ⟨f, fd, F, hm, hb⟩ := T.d_number_in.ex
  refine ⟨f, fd, _, fn_ok F sc_number_in (by walk_at "len") (fun cdv A outer s H E hr => ⟨_, (pss_cons (ps_if (PW.pt (pw_or (pt_not (pt_chain op_le op_le pe_int (pe_callB (kc_len (K := K) rfl) (by rfl) T.n_len bt_len (pa_cons (pv 0) pa_nil)) pe_int)) (pw_or (pt_cmpR (ko_ne (K := K) rfl hr) (pe_bm PySem.F.plainAttrs_str PySem.F.slot_str_strip PySem.F.type_str_strip mt_stripC (pv 0) (pa_cons (C8.pe_gc (by rfl) T.g_FIGURES) pa_nil)) pe_str (nomark _)) (pw_or1 (PW.pt (pw_and (pt_cmpR (ko_eq (K := K) rfl hr) (ke_ix (K := K) rfl hr (pv 0) pe_int (fun _ _ => rfl) (fun _ _ => rfl)) pe_str (nomark _)) (pw_and1 (pt_cmpR (ko_ne (K := K) rfl hr) (pv 0) pe_str (nomark _))))))))) (pss_cons (ps_raiseX rfl tk_of T.x_BadText (by rfl)) pss_nil) pss_nil) (pss_cons (ps_ret (pe_callTy kc_int (by rfl) T.n_int bt_int (pa_cons (pv 0) pa_nil))) pss_nil)), ?_⟩), hm, F.kp, hb⟩

  rintro es r F σ Q ⟨w, rfl, hw, h⟩ s k
  simp only [J.cx_K, List.length_cons, List.length_nil, List.cons_append, List.nil_append, Nat.reduceAdd, Nat.reduceSub, List.reduceReplicate, List.append_nil] at s ⊢
  refine q_when (b := !isNum w) s (EvT.to (et_or (et_not (et_Test (ev_chain (a := decide ((1 : Int) ≤ (w.length : Int))) (b := decide ((w.length : Int) ≤ 2)) ev_c (ev_cb (ea_cons (ev_v rfl) ea_nil) (cb_lens hw)) (fun _ => ev_c) op_I0 (fun _ => op_I0)))) fun hb => et_or (et_Test (ev_op (ev_stripC (b := FIG) (ev_v rfl) ev_c hw) (ev_c (v := .str sE)) jv_nes)) fun _ => et_and (et_Test (ev_op (EvE.to (ev_ix (ev_v rfl) ev_c (jx_c (k := 0) hw (num_pos hb))) (ch0_is w)) (ev_c (v := .str s0)) jv_eqs)) fun _ => et_Test (ev_op (ev_v rfl) (ev_c (v := .str s0)) jv_nes)) (by rw [isNum_test]; simp)) (fun hb σ F H s => ?_) (fun hb σ F H s => ?_)
  · rcases h with ⟨h, rfl⟩ | ⟨h, rfl⟩
    · rw [h] at hb
      cases hb
    · exact q_raise s k
  · rcases h with ⟨h, rfl⟩ | ⟨h, rfl⟩
    · have hb := num_bd h
      have hl : w.length ≤ 2 := by
        unfold isNum at h
        simp only [Bool.and_eq_true, decide_eq_true_eq] at h
        exact h.1.1.2
      exact q_ret s (ev_cb (ea_cons (ev_v rfl) ea_nil) (cb_int hb.2.2.1 (by omega))) k
    · rw [h] at hb
      cases hb

end
end Jug


namespace Jug
open PySem PySem.Spec L2 PyProof.Rows J
section
variable {P : Program} {w : World} {K : PySem.W.Frag} {mg : Str → Option Value} {base : Heap} {C : Cs}
theorem first_bad {l : List Str} (h : l.all isNum = false) : ∃ n a, l[n]? = some a ∧ isNum a = false ∧ ∀ x ∈ l.take n, isNum x = true := by
  induction l with
  | nil => cases h
  | cons y l ih =>
    cases q : isNum y with
    | false => exact ⟨0, y, rfl, q, fun x hx => by cases hx⟩
    | true =>
      rw [List.all_cons, q, Bool.true_and] at h
      obtain ⟨n, a, h1, h2, h3⟩ := ih h
      refine ⟨n + 1, a, h1, h2, fun x hx => ?_⟩
      rw [List.take_succ_cons] at hx
      rcases List.mem_cons.mp hx with rfl | hx
      · exact q
      · exact h3 x hx
theorem join_cons {y p q : Str} {r : List Str} : (Str.join y (p :: q :: r)).length = p.length + y.length + (Str.join y (q :: r)).length := by
  show (p ++ y ++ Str.join y (q :: r)).length = _
  rw [app_len, app_len]
theorem join_many {y : Str} (hy : 1 ≤ y.length) : ∀ parts : List Str, parts.length ≤ (Str.join y parts).length + 1
  | [] => by simp
  | [p] => by simp
  | p :: q :: r => by
    have := join_many hy (q :: r)
    rw [join_cons, List.length_cons]
    omega
theorem join_sub {y x : Str} : ∀ parts : List Str, x ∈ parts → x.length ≤ (Str.join y parts).length
  | [], h => by cases h
  | [p], h => by rw [List.mem_singleton.mp h]; exact Nat.le_refl _
  | p :: q :: r, h => by
    rw [join_cons]
    rcases List.mem_cons.mp h with rfl | h
    · omega
    · have := join_sub (y := y) (q :: r) h
      omega
theorem sp_len : spS.length = 1 ∧ scS.length = 2 := by decide +kernel
theorem wds_sub {w x : Str} (h : x ∈ wds w) : x.length ≤ w.length := by
  have z := join_sub (y := spS) (wds w) h
  rw [← TL.join_eq, wds_join] at z
  exact z
theorem wds_len (w : Str) : (wds w).length ≤ w.length + 1 := by
  have z := join_many (y := spS) (by rw [sp_len.1]; exact Nat.le_refl _) (wds w)
  rw [← TL.join_eq, wds_join] at z
  exact z
theorem parts_join (w : Str) : Txt.join scS (partsW w) = w := join_split sc_ok.1 sc_ok.2
theorem parts_sub {w x : Str} (h : x ∈ partsW w) : x.length ≤ w.length := by
  have z := join_sub (y := scS) (partsW w) h
  rw [← TL.join_eq, parts_join] at z
  exact z
theorem parts_len (w : Str) : (partsW w).length ≤ w.length + 1 := by
  have z := join_many (y := scS) (by rw [sp_len.2]; decide) (partsW w)
  rw [← TL.join_eq, parts_join] at z
  exact z
theorem args_sub {o x : Str} (h : x ∈ argsW o) : x ∈ wds o := List.mem_of_mem_drop h
theorem cut_args (o : Str) : cutS' ((wds o).map sS) (some 1) none = (argsW o).map sS := by
  rw [show (1 : Int) = ((1 : Nat) : Int) from rfl, cut_from, ← List.map_drop]
  rfl
theorem head_get (o : Str) : (wds o)[(0 : Int).toNat]? = some ((wds o).headD sE) := by
  rw [wds_head o]
  rfl
def resM (C : Cs) (o : Str) : Res := match moveRes o with
  | .ok m => .v (moveS C m)
  | .error true => .x C.BadText
  | .error false => .x C.BadMove
def R_move_of (C : Cs) : Rel := fun es r => ∃ o, es = [.v (sS o)] ∧ o.length ≤ 30000 ∧ r = resM C o
/-! ### move_of: slots 0:text 1:words 2:numbers 3:word -/
abbrev s_move_of : Stmt := top 28
theorem sc_move_of : FnScope ["text", "words", "numbers", "word"] ["text"] (defScope s_move_of) := ⟨rfl, rfl, rfl, by decide +kernel, rfl, by decide +kernel, by decide +kernel⟩
theorem ok_move_of (T : Top K mg C) : CalX P w K mg base 5 "move_of" (SpOf (R_move_of C)) := by
  obtain ⟨f, fd, F, hm, hb⟩ := T.d_move_of.ex
  refine ⟨f, fd, _, fn_ok F sc_move_of (by walk_at "len") (fun cdv A outer s H E hr => ⟨_, (pss_cons (ps_set (i := 1) sc_move_of.nd rfl (Or.inl rfl) (ke_split (pv 0) pe_str)) (pss_cons (ps_setLcX (i := 2) (Eb := E) (own := [("word", 3)]) (g := gName 3) rfl rfl tk_of (fun _ _ _ _ _ h => h) rfl sc_move_of.nd rfl rfl (sw_true rfl rfl rfl (by decide +kernel)) (ki_any (K := K) rfl (pe_slice (ko_sl (K := K) rfl) (pv 1) (po_some pe_int) po_none)) (blkOk_by (N := ["text", "words", "numbers", "word"]) (sc := defScope s_move_of) (by decide +kernel)) (fun _ _ _ _ _ => pg_name (i := 3) sc_move_of.nd rfl (Or.inl rfl)) (fun _ _ _ _ _ => (pe_cX (ok_number_in T) hr (by decide) px_blk (by rfl) (pa_cons (pv 3) pa_nil)))) (pss_cons (ps_if (PW.pt (pw_and (pt_cmpR (ko_eq (K := K) rfl hr) (ke_ix (K := K) rfl hr (pv 1) pe_int (fun _ _ => rfl) (fun _ _ => rfl)) pe_str (nomark _)) (pw_and1 (pt_cmpR (ko_eq (K := K) rfl hr) (pe_callB (kc_len (K := K) rfl) (by rfl) T.n_len bt_len (pa_cons (pv 2) pa_nil)) pe_int (nomark _))))) (pss_cons (ps_ret (pe_mkX (ok_Pour___init__ T) hr (by decide) px_of (by rfl) (pa_cons (ke_ix (K := K) rfl hr (pv 2) pe_int (fun _ _ => rfl) (fun _ _ => rfl)) (pa_cons (ke_ix (K := K) rfl hr (pv 2) pe_int (fun _ _ => rfl) (fun _ _ => rfl)) pa_nil)))) pss_nil) pss_nil) (pss_cons (ps_if (PW.pt (pw_and (pt_cmpR (ko_eq (K := K) rfl hr) (ke_ix (K := K) rfl hr (pv 1) pe_int (fun _ _ => rfl) (fun _ _ => rfl)) pe_str (nomark _)) (pw_and1 (pt_cmpR (ko_eq (K := K) rfl hr) (pe_callB (kc_len (K := K) rfl) (by rfl) T.n_len bt_len (pa_cons (pv 2) pa_nil)) pe_int (nomark _))))) (pss_cons (ps_ret (pe_mkX (ok_Fill___init__ T) hr (by decide) px_of (by rfl) (pa_cons (ke_ix (K := K) rfl hr (pv 2) pe_int (fun _ _ => rfl) (fun _ _ => rfl)) pa_nil))) pss_nil) pss_nil) (pss_cons (ps_if (PW.pt (pw_and (pt_cmpR (ko_eq (K := K) rfl hr) (ke_ix (K := K) rfl hr (pv 1) pe_int (fun _ _ => rfl) (fun _ _ => rfl)) pe_str (nomark _)) (pw_and1 (pt_cmpR (ko_eq (K := K) rfl hr) (pe_callB (kc_len (K := K) rfl) (by rfl) T.n_len bt_len (pa_cons (pv 2) pa_nil)) pe_int (nomark _))))) (pss_cons (ps_ret (pe_mkX (ok_Empty___init__ T) hr (by decide) px_of (by rfl) (pa_cons (ke_ix (K := K) rfl hr (pv 2) pe_int (fun _ _ => rfl) (fun _ _ => rfl)) pa_nil))) pss_nil) pss_nil) (pss_cons (ps_raiseX rfl tk_of T.x_BadText (by rfl)) pss_nil)))))), ?_⟩), hm, F.kp, hb⟩

  rintro es r F σ Q ⟨o, rfl, ho, rfl⟩ s k
  simp only [J.cx_K, List.length_cons, List.length_nil, List.cons_append, List.nil_append, Nat.reduceAdd, Nat.reduceSub, List.reduceReplicate, List.append_nil] at s ⊢
  have hl := wds_len o
  have hal : (argsW o).length ≤ (wds o).length := by unfold argsW; rw [List.length_drop]; omega
  have hsub : ∀ x ∈ argsW o, x.length ≤ 100000 := fun x hx => by have := wds_sub (args_sub hx); omega
  refine q_setO s (o := lstO ((wds o).map sS)) (eo_split (b := spS) (ev_v rfl) ev_c (by decide +kernel) (by omega)) fun σ F H s => ?_
  dsimp only [List.set, J.putS, List.nil_append, List.cons_append] at s
  have sl : EvO (tSl (rSlJ K) (tVar 1) (tPart (tC (.int 1))) tNoPart) [Ent.v (sS o), Ent.ow (lstO ((wds o).map sS)), Ent.un, Ent.un] (lstO ((argsW o).map sS)) := EvO.to (eo_sll (ev_ow rfl) isR_b (eo_some ev_c) eo_none) (by rw [cut_args])
  cases hall : (argsW o).all isNum with
  | false =>
    obtain ⟨n, a, h1, h2, h3⟩ := first_bad hall
    refine q_setX s (ex_lcM sS (argsW o) (fun x => iS (num x)) n a (EvO.b sl) isR_b (by omega) h1 (fun x hx => ev_call (ea_cons (ev_v rfl) ea_nil) ⟨x, rfl, hsub x (List.mem_of_mem_take hx), .inl ⟨h3 x hx, rfl⟩⟩) (ex_call (ea_cons (ev_v rfl) ea_nil) ⟨a, rfl, hsub a (List.mem_of_getElem? h1), .inr ⟨h2, rfl⟩⟩)) ?_
    have e : resM C o = .x C.BadText := by
      unfold resM moveRes
      rw [hall, if_neg Bool.false_ne_true]
    rw [e] at k
    exact k
  | true =>
    have hall' := List.all_eq_true.mp hall
    refine q_setO s (o := lstO (((argsW o).map num).map iS)) (EvO.to (eo_lcM sS (argsW o) (fun x => iS (num x)) (EvO.b sl) isR_b (by omega) (fun x hx => ev_call (ea_cons (ev_v rfl) ea_nil) ⟨x, rfl, hsub x hx, .inl ⟨hall' x hx, rfl⟩⟩)) (by rw [List.map_map]; rfl)) fun σ F H s => ?_
    dsimp only [List.set, J.putS, List.nil_append, List.cons_append] at s
    have e : resM C o = (match moveOf ((wds o).headD sE) ((argsW o).map num) with
      | .ok m => Res.v (moveS C m)
      | .error true => Res.x C.BadText
      | .error false => Res.x C.BadMove) := by
      unfold resM moveRes
      rw [hall, if_pos rfl]
    rw [e] at k
    have hnn : ∀ x ∈ (argsW o).map num, 0 ≤ x := fun x hx => by
      obtain ⟨y, hy, rfl⟩ := List.mem_map.mp hx
      exact (num_bd (hall' y hy)).1
    generalize hns : (argsW o).map num = ns at s k hnn
    have hg := head_get o
    generalize hhd : (wds o).headD sE = h at s k hg
    have hd : EvE (tIx K (tVar 1) (tC (.int 0))) [Ent.v (sS o), Ent.ow (lstO ((wds o).map sS)), Ent.ow (lstO (ns.map iS)), Ent.un] (.v (sS h)) := ev_ix (ev_ow rfl) ev_c (jx_l isR_b (by decide) hg)
    have ln : EvE (tCB (rLenJ K) (tCons (tVar 2) tNil)) [Ent.v (sS o), Ent.ow (lstO ((wds o).map sS)), Ent.ow (lstO (ns.map iS)), Ent.un] (.v (iS (ns.length : Int))) := ev_cb (ea_cons (ev_ow rfl) ea_nil) (cb_lenM isR_b)
    have nat2 : ∀ m : Nat, decide ((ns.length : Int) = (m : Int)) = decide (ns.length = m) := fun m => by
      rw [Bool.eq_iff_iff, decide_eq_true_eq, decide_eq_true_eq]
      omega
    unfold moveOf at k
    refine q_when (b := decide (h = pourS ∧ ns.length = 2)) s (EvT.to (et_and (et_Test (ev_op hd (ev_c (v := .str pourS)) jv_eqs)) fun _ => et_Test (ev_op ln ev_c jv_eqi)) (by rw [show (2 : Int) = ((2 : Nat) : Int) from rfl, nat2]; simp [Bool.decide_and])) (fun hb σ F H s => ?_) (fun hb σ F H s => ?_)
    · have hb := of_decide_eq_true hb
      rw [if_pos hb] at k
      match ns, hb.2, hnn, s, k with
      | [a, b], _, hnn, s, k =>
        have ha := hnn a (by simp)
        have hb' := hnn b (by simp)
        have ag : EvAs (tCons (tIx K (tVar 2) (tC (.int 0))) (tCons (tIx K (tVar 2) (tC (.int 1))) tNil)) [Ent.v (sS o), Ent.ow (lstO ((wds o).map sS)), Ent.ow (lstO ([a, b].map iS)), Ent.un] [.v (iS a), .v (iS b)] := ea_cons (ev_ix (ev_ow rfl) ev_c (jx_l isR_b (by decide) rfl)) (ea_cons (ev_ix (ev_ow rfl) ev_c (jx_l isR_b (by decide) rfl)) ea_nil)
        by_cases c : am [a, b] 0 ≤ 3 ∧ am [a, b] 1 ≤ 3 ∧ am [a, b] 0 ≠ am [a, b] 1
        · rw [if_pos c] at k
          rw [am0, am1] at c
          exact q_ret s (ev_make ag ⟨a, b, rfl, .inl ⟨⟨by omega, by omega, c.2.2⟩, rfl⟩⟩) k
        · rw [if_neg c] at k
          rw [am0, am1] at c
          exact q_retX s (ex_make ag ⟨a, b, rfl, .inr ⟨fun z => c ⟨z.1.2, z.2.1.2, z.2.2⟩, rfl⟩⟩) k
    · have hb := of_decide_eq_false hb
      rw [if_neg hb] at k
      refine q_when (b := decide (h = fillS ∧ ns.length = 1)) s (EvT.to (et_and (et_Test (ev_op hd (ev_c (v := .str fillS)) jv_eqs)) fun _ => et_Test (ev_op ln ev_c jv_eqi)) (by rw [show (1 : Int) = ((1 : Nat) : Int) from rfl, nat2]; simp [Bool.decide_and])) (fun hb σ F H s => ?_) (fun hb σ F H s => ?_)
      · have hb := of_decide_eq_true hb
        rw [if_pos hb] at k
        match ns, hb.2, hnn, s, k with
        | [a], _, hnn, s, k =>
          have ha := hnn a (by simp)
          have ag : EvAs (tCons (tIx K (tVar 2) (tC (.int 0))) tNil) [Ent.v (sS o), Ent.ow (lstO ((wds o).map sS)), Ent.ow (lstO ([a].map iS)), Ent.un] [.v (iS a)] := ea_cons (ev_ix (ev_ow rfl) ev_c (jx_l isR_b (by decide) rfl)) ea_nil
          by_cases c : am [a] 0 ≤ 3
          · rw [if_pos c] at k
            rw [am0] at c
            exact q_ret s (ev_make ag ⟨a, rfl, .inl ⟨⟨by omega, by omega⟩, rfl⟩⟩) k
          · rw [if_neg c] at k
            rw [am0] at c
            exact q_retX s (ex_make ag ⟨a, rfl, .inr ⟨fun z => c z.2, rfl⟩⟩) k
      · have hb := of_decide_eq_false hb
        rw [if_neg hb] at k
        refine q_when (b := decide (h = emptyS ∧ ns.length = 1)) s (EvT.to (et_and (et_Test (ev_op hd (ev_c (v := .str emptyS)) jv_eqs)) fun _ => et_Test (ev_op ln ev_c jv_eqi)) (by rw [show (1 : Int) = ((1 : Nat) : Int) from rfl, nat2]; simp [Bool.decide_and])) (fun hb σ F H s => ?_) (fun hb σ F H s => ?_)
        · have hb := of_decide_eq_true hb
          rw [if_pos hb] at k
          match ns, hb.2, hnn, s, k with
          | [a], _, hnn, s, k =>
            have ha := hnn a (by simp)
            have ag : EvAs (tCons (tIx K (tVar 2) (tC (.int 0))) tNil) [Ent.v (sS o), Ent.ow (lstO ((wds o).map sS)), Ent.ow (lstO ([a].map iS)), Ent.un] [.v (iS a)] := ea_cons (ev_ix (ev_ow rfl) ev_c (jx_l isR_b (by decide) rfl)) ea_nil
            by_cases c : am [a] 0 ≤ 3
            · rw [if_pos c] at k
              rw [am0] at c
              exact q_ret s (ev_make ag ⟨a, rfl, .inl ⟨⟨by omega, by omega⟩, rfl⟩⟩) k
            · rw [if_neg c] at k
              rw [am0] at c
              exact q_retX s (ex_make ag ⟨a, rfl, .inr ⟨fun z => c z.2, rfl⟩⟩) k
        · have hb := of_decide_eq_false hb
          rw [if_neg hb] at k
          exact q_raise s k

end
end Jug


namespace Jug
open PySem PySem.Spec L2 PyProof.Rows J
section
variable {P : Program} {w : World} {K : PySem.W.Frag} {mg : Str → Option Value} {base : Heap} {C : Cs}
theorem last_get (w : Str) : ((wds w).map sS).getLast? = some (sS (lastW w)) := by
  rw [List.getLast?_map, List.getLast?_eq_some_getLast (wds_ne w)]
  unfold lastW
  rw [List.getLastD_eq_getLast?, List.getLast?_eq_some_getLast (wds_ne w)]
  rfl
theorem cut_rest (w : Str) : cutS' ((wtap w).map sS) (some 1) none = (restW w).map sS := by
  rw [show (1 : Int) = ((1 : Nat) : Int) from rfl, cut_from, ← List.map_drop]
  rfl
theorem wtap_sub {w x : Str} (h : x ∈ wtap w) : x ∈ wds w := by
  unfold wtap at h
  split at h
  · exact List.dropLast_subset _ h
  · exact h
theorem wtap_len (w : Str) : (wtap w).length ≤ (wds w).length := by
  unfold wtap
  split
  · rw [List.length_dropLast]; omega
  · exact Nat.le_refl _
def resH (C : Cs) (w : Str) : Res := match houseIn w with
  | some (z, t) => .v (houseS C z t)
  | none => .x C.BadText
def R_house_of (K : PySem.W.Frag) (C : Cs) : Rel := fun es r => ∃ S, es = [.v S] ∧ ((∃ w : Str, S = sS w ∧ w.length ≤ 30000 ∧ r = resH C w) ∨ ∃ t, TyE K (.v S) t ∧ PySem.W.kitOne K t (.type "str") = some false ∧ r = .x C.BadText)
/-! ### house_of: slots 0:text 1:words 2:tap 3:sizes 4:house 5:word -/
abbrev s_house_of : Stmt := top 27
theorem sc_house_of : FnScope ["text", "words", "tap", "sizes", "house", "word"] ["text"] (defScope s_house_of) := ⟨rfl, rfl, rfl, by decide +kernel, rfl, by decide +kernel, by decide +kernel⟩
theorem ok_house_of (T : Top K mg C) : CalQ P w K mg base 4 "house_of" (SpOf (R_house_of K C)) := by
  obtain ⟨f, fd, F, hm, hb⟩ := T.d_house_of.ex
  refine ⟨f, fd, _, fn_ok F sc_house_of (by walk_at "len") (fun cdv A outer s H E hr => ⟨_, (pss_cons (ps_if (pt_not (pt_val (pe_callB (kc_isi (K := K) rfl) (by rfl) T.n_isinstance bt_isinstance (pa_cons (pv 0) (pa_cons (pe_bltn (v := .ty "str") (by rfl) T.n_str bt_str rfl) pa_nil))))) (pss_cons (ps_raiseX rfl (takesN tk_ofQ) T.x_BadText (by rfl)) pss_nil) pss_nil) (pss_cons (ps_set (i := 1) sc_house_of.nd rfl (Or.inl rfl) (ke_split (pv 0) pe_str)) (pss_cons (ps_if (pt_cmpR (ko_ne (K := K) rfl hr) (ke_ix (K := K) rfl hr (pv 1) pe_int (fun _ _ => rfl) (fun _ _ => rfl)) pe_str (nomark _)) (pss_cons (ps_raiseX rfl (takesN tk_ofQ) T.x_BadText (by rfl)) pss_nil) pss_nil) (pss_cons (ps_set (i := 2) sc_house_of.nd rfl (Or.inl rfl) (pe_cmpR (ko_eq (K := K) rfl hr) (ke_ix (K := K) rfl hr (pv 1) (pe_un un_neg pe_int) (fun _ _ => rfl) (fun _ _ => rfl)) pe_str (nomark _))) (pss_cons (ps_if (pt_val (pv 2)) (pss_cons (ps_set (i := 1) sc_house_of.nd rfl (Or.inl rfl) (pe_slice (ko_sl (K := K) rfl) (pv 1) po_none (po_some (pe_un un_neg pe_int)))) pss_nil) pss_nil) (pss_cons (ps_setLcX (i := 3) (Eb := E) (own := [("word", 5)]) (g := gName 5) rfl rfl (takesN tk_ofQ) (fun _ _ _ _ _ h => h) rfl sc_house_of.nd rfl rfl (sw_true rfl rfl rfl (by decide +kernel)) (ki_any (K := K) rfl (pe_slice (ko_sl (K := K) rfl) (pv 1) (po_some pe_int) po_none)) (blkOk_by (N := ["text", "words", "tap", "sizes", "house", "word"]) (sc := defScope s_house_of) (by decide +kernel)) (fun _ _ _ _ _ => pg_name (i := 5) sc_house_of.nd rfl (Or.inl rfl)) (fun _ _ _ _ _ => (pe_cX (ok_number_in T) hr (by decide) px_blk (by rfl) (pa_cons (pv 5) pa_nil)))) (pss_cons (ps_tX (K := K) rfl (pss_cons (ps_ret (pv 4)) pss_nil) rfl rfl (by rfl) T.x_BadHouse.g (L2H.passesAt_of rfl) tk_ofQ (fun W pn xe tk => (pss_cons (ps_set (i := 4) sc_house_of.nd rfl (Or.inl rfl) (pe_mkX (ok_House___init__ T) hr (by decide) (px_trN2 (n := 6) rfl tk) (by rfl) (pa_cons (pv 3) (pa_cons (pv 2) pa_nil)))) pss_nil)) (fun a oe cls d pn z tkS hot => (pss_cons (ps_raiseQ hot tkS (L2N.pmk_own PySem.F.excBase_ValueError T.x_BadText.xi T.x_BadText.g T.x_BadText.k (raises_own T.x_BadText.b T.x_BadText.t) (by rfl))) pss_nil))) pss_nil))))))), ?_⟩), hm, F.kp, hb⟩

  rintro es r F σ Q ⟨S, rfl, ⟨w, rfl, hw, rfl⟩ | ⟨t, ht, hk, rfl⟩⟩ s k
  · skip
    simp only [J.cx_K, List.length_cons, List.length_nil, List.cons_append, List.nil_append, Nat.reduceAdd, Nat.reduceSub, List.reduceReplicate, List.append_nil] at s ⊢
    have hl := wds_len w
    have hl2 := wtap_len w
    have hl3 : (restW w).length ≤ (wtap w).length := by unfold restW; rw [List.length_drop]; omega
    have hsub : ∀ x ∈ restW w, x.length ≤ 100000 := fun x hx => by have := wds_sub (wtap_sub (List.mem_of_mem_drop hx)); omega
    refine q_whenF s (et_not (et_B (ev_cb (ea_cons (ev_v rfl) (ea_cons ev_c ea_nil)) (cb_isi ty_str (.ty _) kt_ss)))) rfl fun σ F H s => ?_
    refine q_setO s (o := lstO ((wds w).map sS)) (eo_split (b := spS) (ev_v rfl) ev_c (by decide +kernel) (by omega)) fun σ F H s => ?_
    dsimp only [List.set, J.putS, List.nil_append, List.cons_append] at s
    refine q_when s (et_Test (ev_op (ev_ix (ev_ow rfl) ev_c (jx_l isR_b (by decide) (head_get w))) (ev_c (v := .str jugsS)) jv_nes)) (fun hb σ F H s => ?_) (fun hb σ F H s => ?_)
    · have e : resH C w = .x C.BadText := by
        unfold resH houseIn
        rw [if_neg]
        rintro ⟨z, _⟩
        rw [z, decide_eq_true rfl] at hb
        cases hb
      rw [e] at k
      exact q_raise s k
    · have hh : (wds w).headD sE = jugsS := by
        have hb : (!decide ((wds w).headD sE = jugsS)) = false := hb
        simpa using hb
      refine q_set s (S := bS (tapOf w)) (ev_op (ev_ix (ev_ow rfl) (ev_un ev_c un_I) (jx_last isR_b (last_get w))) (ev_c (v := .str tapS)) jv_eqs) fun σ F H s => ?_
      dsimp only [List.set, J.putS, List.nil_append, List.cons_append] at s
      refine q_join (δ' := [.v (sS w), .ow (lstO ((wtap w).map sS)), .v (bS (tapOf w)), .un, .un, .un]) s (et_B (ev_v rfl)) (fun hb σ F H k2 s => ?_) (fun hb => ?_) (fun σ F H s => ?_)
      · refine q_setO s (o := lstO ((wtap w).map sS)) (EvO.to (eo_sll (ev_ow rfl) isR_b eo_none (eo_some (ev_un ev_c un_I))) ?_) fun σ F H s => ?_
        · show lstO (cutS' ((wds w).map sS) none (some (-1))) = _
          rw [cut_init, ← List.map_dropLast]
          unfold wtap
          rw [if_pos hb]
        · skip
          dsimp only [List.set, J.putS, List.nil_append, List.cons_append] at s
          exact k2 σ F H s
      · unfold wtap
        rw [if_neg (by rw [hb]; exact Bool.false_ne_true)]
      · have sl : EvO (tSl (rSlJ K) (tVar 1) (tPart (tC (.int 1))) tNoPart) [.v (sS w), .ow (lstO ((wtap w).map sS)), .v (bS (tapOf w)), .un, .un, .un] (lstO ((restW w).map sS)) := EvO.to (eo_sll (ev_ow rfl) isR_b (eo_some ev_c) eo_none) (by rw [cut_rest])
        cases hall : (restW w).all isNum with
        | false =>
          obtain ⟨n, a, h1, h2, h3⟩ := first_bad hall
          refine q_setX s (ex_lcM sS (restW w) (fun x => iS (num x)) n a (EvO.b sl) isR_b (by omega) h1 (fun x hx => ev_call (ea_cons (ev_v rfl) ea_nil) ⟨x, rfl, hsub x (List.mem_of_mem_take hx), .inl ⟨h3 x hx, rfl⟩⟩) (ex_call (ea_cons (ev_v rfl) ea_nil) ⟨a, rfl, hsub a (List.mem_of_getElem? h1), .inr ⟨h2, rfl⟩⟩)) ?_
          have e : resH C w = .x C.BadText := by
            unfold resH houseIn
            rw [if_neg]
            rintro ⟨_, z, _⟩
            rw [hall] at z
            cases z
          rw [e] at k
          exact k
        | true =>
          have hall' := List.all_eq_true.mp hall
          refine q_setO s (o := lstO (((restW w).map num).map iS)) (EvO.to (eo_lcM sS (restW w) (fun x => iS (num x)) (EvO.b sl) isR_b (by omega) (fun x hx => ev_call (ea_cons (ev_v rfl) ea_nil) ⟨x, rfl, hsub x hx, .inl ⟨hall' x hx, rfl⟩⟩)) (by rw [List.map_map]; rfl)) fun σ F H s => ?_
          dsimp only [List.set, J.putS, List.nil_append, List.cons_append] at s
          refine q_tX ?_
          by_cases hz : HouseOk ((restW w).map num)
          · have e : resH C w = .v (houseS C ((restW w).map num) (tapOf w)) := by
              unfold resH houseIn
              rw [if_pos ⟨hh, hall, houseOkB_iff.mpr hz⟩]
            rw [e] at k
            refine q_set s (ev_make (ea_cons (ev_ow rfl) (ea_cons (ev_v rfl) ea_nil)) ⟨_, _, rfl, by rw [List.length_map]; omega, .inl ⟨hz, rfl⟩⟩) fun σ F H s => ?_
            dsimp only [List.set, J.putS, List.nil_append, List.cons_append] at s
            refine q_thru ?_
            exact q_ret s (ev_v rfl) k
          · have e : resH C w = .x C.BadText := by
              unfold resH houseIn
              rw [if_neg]
              rintro ⟨_, _, z⟩
              exact hz (houseOkB_iff.mp z)
            rw [e] at k
            refine q_setX s (ex_make (ea_cons (ev_ow rfl) (ea_cons (ev_v rfl) ea_nil)) ⟨_, _, rfl, by rw [List.length_map]; omega, .inr ⟨hz, rfl⟩⟩) fun F' H' g => ?_
            exact fun σ' hl => ⟨true, T.em_BadHouse_BadHouse, fun _ a ha => k F' H' g, fun z => by cases z⟩
  · skip
    simp only [J.cx_K, List.length_cons, List.length_nil, List.cons_append, List.nil_append, Nat.reduceAdd, Nat.reduceSub, List.reduceReplicate, List.append_nil] at s ⊢
    refine q_ifT s (et_not (et_B (ev_cb (ea_cons (ev_v rfl) (ea_cons ev_c ea_nil)) (cb_isi ht (.ty _) hk)))) rfl fun σ F H s => ?_
    exact q_raise s k
def R_routine_of (K : PySem.W.Frag) (C : Cs) : Rel := fun es r => ∃ S, es = [.v S] ∧ ((∃ w : Str, S = sS w ∧ w.length ≤ 30000 ∧ (writesB w = true ∧ r = .o (lstO ((movesW w).map (moveS C))) ∨ writesB w = false ∧ r = .x C.BadText)) ∨ ∃ t, TyE K (.v S) t ∧ PySem.W.kitOne K t (.type "str") = some false ∧ r = .x C.BadText)
theorem first_wrong {l : List Str} (h : l.all rightL = false) : ∃ n a, l[n]? = some a ∧ rightL a = false ∧ ∀ x ∈ l.take n, rightL x = true := by
  induction l with
  | nil => cases h
  | cons y l ih =>
    cases q : rightL y with
    | false => exact ⟨0, y, rfl, q, fun x hx => by cases hx⟩
    | true =>
      rw [List.all_cons, q, Bool.true_and] at h
      obtain ⟨n, a, h1, h2, h3⟩ := ih h
      refine ⟨n + 1, a, h1, h2, fun x hx => ?_⟩
      rw [List.take_succ_cons] at hx
      rcases List.mem_cons.mp hx with rfl | hx
      · exact q
      · exact h3 x hx
theorem resM_ok {C : Cs} {o : Str} (h : rightL o = true) : Res.v (moveS C (getM (moveRes o))) = resM C o := by
  rw [rightL_eq] at h
  have e := isOk_get h
  unfold resM
  rw [e]
  rfl
/-! ### routine_of: slots 0:text 1:found 2:one -/
abbrev s_routine_of : Stmt := top 29
theorem sc_routine_of : FnScope ["text", "found", "one"] ["text"] (defScope s_routine_of) := ⟨rfl, rfl, rfl, by decide +kernel, rfl, by decide +kernel, by decide +kernel⟩
theorem ok_routine_of (T : Top K mg C) : CalQ P w K mg base 6 "routine_of" (SpOf (R_routine_of K C)) := by
  obtain ⟨f, fd, F, hm, hb⟩ := T.d_routine_of.ex
  refine ⟨f, fd, _, fn_ok F sc_routine_of (by walk_at "len") (fun cdv A outer s H E hr => ⟨_, (pss_cons (ps_if (pt_not (pt_val (pe_callB (kc_isi (K := K) rfl) (by rfl) T.n_isinstance bt_isinstance (pa_cons (pv 0) (pa_cons (pe_bltn (v := .ty "str") (by rfl) T.n_str bt_str rfl) pa_nil))))) (pss_cons (ps_raiseX rfl (takesN tk_ofQ) T.x_BadText (by rfl)) pss_nil) pss_nil) (pss_cons (ps_if (pt_cmpR (ko_eq (K := K) rfl hr) (pv 0) pe_str (nomark _)) (pss_cons (ps_ret (pe_lst pa_nil)) pss_nil) pss_nil) (pss_cons (ps_tX (K := K) rfl (pss_cons (ps_ret (pv 1)) pss_nil) rfl rfl (by rfl) T.x_BadMove.g (L2H.passesAt_of rfl) tk_ofQ (fun W pn xe tk => (pss_cons (ps_setLcX (i := 1) (Eb := (allS 3 W)) (own := [("one", 2)]) (g := gName 2) rfl rfl tk (fun _ _ _ _ hl h => h _ hl) rfl sc_routine_of.nd rfl rfl (sw_true rfl rfl rfl (by decide +kernel)) (ki_any (K := K) rfl (ke_split (pv 0) pe_str)) (blkOk_by (N := ["text", "found", "one"]) (sc := defScope s_routine_of) (by decide +kernel)) (fun _ _ _ _ _ => pg_name (i := 2) sc_routine_of.nd rfl (Or.inl rfl)) (fun _ _ _ _ _ => (pe_cX (ok_move_of T) hr (by decide) px_blk (by rfl) (pa_cons (pv 2) pa_nil)))) pss_nil)) (fun a oe cls d pn z tkS hot => (pss_cons (ps_raiseQ hot tkS (L2N.pmk_own PySem.F.excBase_ValueError T.x_BadText.xi T.x_BadText.g T.x_BadText.k (raises_own T.x_BadText.b T.x_BadText.t) (by rfl))) pss_nil))) pss_nil))), ?_⟩), hm, F.kp, hb⟩

  rintro es r F σ Q ⟨S, rfl, ⟨w, rfl, hw, h⟩ | ⟨t, ht, hk, rfl⟩⟩ s k
  · skip
    simp only [J.cx_K, List.length_cons, List.length_nil, List.cons_append, List.nil_append, Nat.reduceAdd, Nat.reduceSub, List.reduceReplicate, List.append_nil] at s ⊢
    have hl := parts_len w
    refine q_whenF s (et_not (et_B (ev_cb (ea_cons (ev_v rfl) (ea_cons ev_c ea_nil)) (cb_isi ty_str (.ty _) kt_ss)))) rfl fun σ F H s => ?_
    refine q_when s (et_Test (ev_op (ev_v rfl) (ev_c (v := .str sE)) jv_eqs)) (fun hb σ F H s => ?_) (fun hb σ F H s => ?_)
    · have hb := of_decide_eq_true hb
      rcases h with ⟨_, rfl⟩ | ⟨h, _⟩
      · have e : movesW w = [] := by unfold movesW; rw [if_pos hb]
        rw [e] at k
        exact q_retO s (eo_lstN ea_nilV (Nat.le_of_ble_eq_true rfl)) k
      · unfold writesB at h
        rw [decide_eq_true hb, Bool.true_or] at h
        cases h
    · have hb := of_decide_eq_false hb
      have e0 : writesB w = (partsW w).all rightL := by unfold writesB; rw [decide_eq_false hb, Bool.false_or]
      have sp : EvO (tM1 rSplit (tVar 0) (tC (.str scS))) [Ent.v (sS w), Ent.un, Ent.un] (lstO ((partsW w).map sS)) := eo_split (b := scS) (ev_v rfl) ev_c (by decide +kernel) (by omega)
      have hsub : ∀ x ∈ partsW w, x.length ≤ 30000 := fun x hx => by have := parts_sub hx; omega
      refine q_tX ?_
      rcases h with ⟨h, rfl⟩ | ⟨h, rfl⟩
      · rw [e0] at h
        have hall := List.all_eq_true.mp h
        refine q_setO s (o := lstO ((movesW w).map (moveS C))) (EvO.to (eo_lcM sS (partsW w) (fun x => moveS C (getM (moveRes x))) (EvO.b sp) isR_b (by omega) (fun x hx => ev_call (ea_cons (ev_v rfl) ea_nil) ⟨x, rfl, hsub x hx, resM_ok (hall x hx)⟩)) (by unfold movesW; rw [if_neg hb, List.map_map]; rfl)) fun σ F H s => ?_
        dsimp only [List.set, J.putS, List.nil_append, List.cons_append] at s
        refine q_thru ?_
        exact q_retOw s rfl k
      · rw [e0] at h
        obtain ⟨n, a, h1, h2, h3⟩ := first_wrong h
        rw [rightL_eq] at h2
        cases q : moveRes a with
        | ok m => rw [q] at h2; cases h2
        | error b =>
          cases b with
          | true =>
            have e : Res.x C.BadText = resM C a := by unfold resM; rw [q]
            refine q_setX s (ex_lcM sS (partsW w) (fun x => moveS C (getM (moveRes x))) n a (EvO.b sp) isR_b (by omega) h1 (fun x hx => ev_call (ea_cons (ev_v rfl) ea_nil) ⟨x, rfl, hsub x (List.mem_of_mem_take hx), resM_ok (h3 x hx)⟩) (ex_call (ea_cons (ev_v rfl) ea_nil) ⟨a, rfl, hsub a (List.mem_of_getElem? h1), e⟩)) fun F' H' g => ?_
            exact fun σ' hl => ⟨false, T.em_BadText_BadMove, fun z => (by cases z), fun _ => k F' H' g⟩
          | false =>
            have e : Res.x C.BadMove = resM C a := by unfold resM; rw [q]
            refine q_setX s (ex_lcM sS (partsW w) (fun x => moveS C (getM (moveRes x))) n a (EvO.b sp) isR_b (by omega) h1 (fun x hx => ev_call (ea_cons (ev_v rfl) ea_nil) ⟨x, rfl, hsub x (List.mem_of_mem_take hx), resM_ok (h3 x hx)⟩) (ex_call (ea_cons (ev_v rfl) ea_nil) ⟨a, rfl, hsub a (List.mem_of_getElem? h1), e⟩)) fun F' H' g => ?_
            exact fun σ' hl => ⟨true, T.em_BadMove_BadMove, fun _ a ha => k F' H' g, fun z => by cases z⟩
  · skip
    simp only [J.cx_K, List.length_cons, List.length_nil, List.cons_append, List.nil_append, Nat.reduceAdd, Nat.reduceSub, List.reduceReplicate, List.append_nil] at s ⊢
    refine q_ifT s (et_not (et_B (ev_cb (ea_cons (ev_v rfl) (ea_cons ev_c ea_nil)) (cb_isi ht (.ty _) hk)))) rfl fun σ F H s => ?_
    exact q_raise s k

end
end Jug


namespace Jug
open PySem PySem.Spec L2 PyProof.Rows J
section
variable {P : Program} {w : World} {K : PySem.W.Frag} {mg : Str → Option Value} {base : Heap} {C : Cs}
def R_cell (K : PySem.W.Frag) : Rel := fun es r => ∃ (ns : List Int) (k : Int), es = [.v (scrS K ns), .v (iS k)] ∧ 0 ≤ k ∧ r = .v (iS (cell ns k))
/-! ### _law_cell_at: slots 0:_law_script 1:_law_k -/
abbrev s__law_cell_at : Stmt := top 31
theorem sc__law_cell_at : FnScope ["_law_script", "_law_k"] ["_law_script", "_law_k"] (defScope s__law_cell_at) := ⟨rfl, rfl, rfl, by decide +kernel, rfl, by decide +kernel, by decide +kernel⟩
theorem ok__law_cell_at (T : Top K mg C) : CalX P w K mg base 1 "_law_cell_at" (SpOf (R_cell K)) := by
  obtain ⟨f, fd, F, hm, hb⟩ := T.d__law_cell_at.ex
  refine ⟨f, fd, _, fn_ok F sc__law_cell_at (by walk_at "len") (fun cdv A outer s H E hr => ⟨_, (pss_cons (ps_if (pt_cmpR op_lt (pv 1) (pe_callB (kc_len (K := K) rfl) (by rfl) T.n_len bt_len (pa_cons (pv 0) pa_nil)) (nomark _)) (pss_cons (ps_ret (ke_ix (K := K) rfl hr (pv 0) (pv 1) (fun _ _ => rfl) (fun _ _ => rfl))) pss_nil) pss_nil) (pss_cons (ps_ret pe_int) pss_nil)), ?_⟩), hm, F.kp, hb⟩

  rintro es r F σ Q ⟨ns, k, rfl, hk, rfl⟩ s kq
  simp only [J.cx_K, List.length_cons, List.length_nil, List.cons_append, List.nil_append, Nat.reduceAdd, Nat.reduceSub, List.reduceReplicate, List.append_nil] at s ⊢
  refine q_when s (et_B (ev_op (ev_v rfl) (ev_cb (by walk_at "args") cb_lenScr) op_I0)) (fun hb σ F H s => ?_) (fun hb σ F H s => ?_)
  · have hb := of_decide_eq_true hb
    exact q_ret s (ev_ix (ev_v rfl) (ev_v rfl) (jx_scr hk hb)) kq
  · have hb := of_decide_eq_false hb
    refine q_ret s (EvE.to ev_c ?_) kq
    unfold cell
    rw [List.getD_eq_getElem?_getD, List.getElem?_eq_none (by omega)]
    rfl
def primesL : List Int := [1000003, 1000033, 1000037, 1000039, 1000081, 1000099, 1000117, 1000121, 1000133, 1000151, 1000159, 1000171, 1000183, 1000187, 1000193, 1000199]
def primeAt (k : Int) : Int := primesL.getD (k % 16).toNat 1
def drw (c k m : Int) : Int := (c * 48271 + k * 69621) % primeAt k % m
theorem prime_get (k : Int) : primesL[(k % 16).toNat]? = some (primeAt k) := by
  have h : (k % 16).toNat < primesL.length := by
    show _ < 16
    omega
  unfold primeAt
  rw [List.getD_eq_getElem?_getD, List.getElem?_eq_getElem h]
  rfl
theorem prime_pos (k : Int) : 0 < primeAt k := by
  have h : (k % 16).toNat < 16 := by omega
  have : ∀ i < 16, 0 < primesL.getD i 1 := by decide
  exact this _ h
theorem drw_bd {c k m : Int} (h : 0 < m) : 0 ≤ drw c k m ∧ drw c k m < m := ⟨Int.emod_nonneg _ (by omega), Int.emod_lt_of_pos _ h⟩
def R_draw : Rel := fun es r => ∃ c k m : Int, es = [.v (iS c), .v (iS k), .v (iS m)] ∧ 0 < m ∧ r = .v (iS (drw c k m))
/-! ### _law_draw: slots 0:_law_cell 1:_law_k 2:_law_many 3:_law_primes -/
abbrev s__law_draw : Stmt := top 32
theorem sc__law_draw : FnScope ["_law_cell", "_law_k", "_law_many", "_law_primes"] ["_law_cell", "_law_k", "_law_many"] (defScope s__law_draw) := ⟨rfl, rfl, rfl, by decide +kernel, rfl, by decide +kernel, by decide +kernel⟩
theorem ok__law_draw (T : Top K mg C) : CalX P w K mg base 1 "_law_draw" (SpOf R_draw) := by
  obtain ⟨f, fd, F, hm, hb⟩ := T.d__law_draw.ex
  refine ⟨f, fd, _, fn_ok F sc__law_draw (by walk_at "len") (fun cdv A outer s H E hr => ⟨_, (pss_cons (ps_set (i := 3) sc__law_draw.nd rfl (Or.inl rfl) (pe_tup (pa_cons pe_int (pa_cons pe_int (pa_cons pe_int (pa_cons pe_int (pa_cons pe_int (pa_cons pe_int (pa_cons pe_int (pa_cons pe_int (pa_cons pe_int (pa_cons pe_int (pa_cons pe_int (pa_cons pe_int (pa_cons pe_int (pa_cons pe_int (pa_cons pe_int (pa_cons pe_int pa_nil)))))))))))))))))) (pss_cons (ps_ret (pe_op op_mod (pe_op op_mod (pe_op (ko_add (K := K) rfl) (pe_op jo_mul (pv 0) pe_int) (pe_op jo_mul (pv 1) pe_int)) (ke_ix (K := K) rfl hr (pv 3) (pe_op op_mod (pv 1) pe_int) (fun _ _ => rfl) (fun _ _ => rfl))) (pv 2))) pss_nil)), ?_⟩), hm, F.kp, hb⟩

  rintro es r F σ Q ⟨c, k, m, rfl, hm, rfl⟩ s kq
  simp only [J.cx_K, List.length_cons, List.length_nil, List.cons_append, List.nil_append, Nat.reduceAdd, Nat.reduceSub, List.reduceReplicate, List.append_nil] at s ⊢
  refine q_set s (S := tupS (primesL.map iS)) (EvE.to (by walk_at "ev") (by rfl)) fun σ F H s => ?_
  dsimp only [List.set, J.putS, List.nil_append, List.cons_append] at s
  refine q_ret s (ev_op (ev_op (ev_op (ev_op (ev_v rfl) ev_c (op_I (.inr ⟨by omega, by omega⟩))) (ev_op (ev_v rfl) ev_c (op_I (.inr ⟨by omega, by omega⟩))) jv_add) (ev_ix (ev_v rfl) (ev_op (ev_v rfl) ev_c (op_I (by omega))) (jx_t isR_v (Int.emod_nonneg _ (by omega)) (prime_get k))) (op_I (prime_pos k))) (ev_v rfl) (op_I hm)) kq
def manyOf (c : Int) : Int := 1 + drw c 0 4
def mostOf (c : Int) : Int := [(60 : Int), 11, 4, 2].getD (manyOf c - 1).toNat 0
def szs (c : Int) : List Int := (List.range (manyOf c).toNat).map fun k : Nat => 1 + drw (c + 31 * (k : Int)) (1 + (k : Int)) (mostOf c)
theorem most_get (c : Int) : [(60 : Int), 11, 4, 2][(manyOf c - 1).toNat]? = some (mostOf c) := by
  have h0 := drw_bd (c := c) (k := 0) (m := 4) (by omega)
  have h : (manyOf c - 1).toNat < 4 := by unfold manyOf; omega
  unfold mostOf
  have : ∀ i < 4, [(60 : Int), 11, 4, 2][i]? = some ([(60 : Int), 11, 4, 2].getD i 0) := by decide
  exact this _ h
theorem most_pos (c : Int) : 2 ≤ mostOf c ∧ mostOf c ≤ 60 := by
  have h0 := drw_bd (c := c) (k := 0) (m := 4) (by omega)
  have h : (manyOf c - 1).toNat < 4 := by unfold manyOf; omega
  have : ∀ i < 4, 2 ≤ [(60 : Int), 11, 4, 2].getD i 0 ∧ [(60 : Int), 11, 4, 2].getD i 0 ≤ 60 := by decide
  exact this _ h
theorem szs_len (c : Int) : ((szs c).length : Int) = manyOf c := by
  have h0 := drw_bd (c := c) (k := 0) (m := 4) (by omega)
  unfold szs
  rw [List.length_map, List.length_range]
  unfold manyOf
  omega
def R_lsizes : Rel := fun es r => ∃ c : Int, es = [.v (iS c)] ∧ r = .o (lstO ((szs c).map iS))
/-! ### _law_sizes: slots 0:_law_cell 1:_law_many 2:_law_most 3:_law_k -/
abbrev s__law_sizes : Stmt := top 33
theorem sc__law_sizes : FnScope ["_law_cell", "_law_many", "_law_most", "_law_k"] ["_law_cell"] (defScope s__law_sizes) := ⟨rfl, rfl, rfl, by decide +kernel, rfl, by decide +kernel, by decide +kernel⟩
theorem ok__law_sizes (T : Top K mg C) : CalX P w K mg base 2 "_law_sizes" (SpOf R_lsizes) := by
  obtain ⟨f, fd, F, hm, hb⟩ := T.d__law_sizes.ex
  refine ⟨f, fd, _, fn_ok F sc__law_sizes (by walk_at "len") (fun cdv A outer s H E hr => ⟨_, (pss_cons (ps_set (i := 1) sc__law_sizes.nd rfl (Or.inl rfl) (pe_op (ko_add (K := K) rfl) pe_int (pe_cX (ok__law_draw T) hr (by decide) px_of (by rfl) (pa_cons (pv 0) (pa_cons pe_int (pa_cons pe_int pa_nil)))))) (pss_cons (ps_set (i := 2) sc__law_sizes.nd rfl (Or.inr rfl) (ke_ix (K := K) rfl hr (pe_tup (pa_cons pe_int (pa_cons pe_int (pa_cons pe_int (pa_cons pe_int pa_nil))))) (pe_op op_sub (pv 1) pe_int) (fun _ _ => rfl) (fun _ _ => rfl))) (pss_cons (ps_ret (pe_lc (own := [("_law_k", 3)]) (g := gName 3) rfl sc__law_sizes.nd (pi_range1 (by rfl) T.n_range (pa_cons (pv 1) pa_nil)) (blkOk_by (N := ["_law_cell", "_law_many", "_law_most", "_law_k"]) (sc := defScope s__law_sizes) (by decide +kernel)) (fun _ _ _ _ _ => pg_name (i := 3) sc__law_sizes.nd rfl (Or.inl rfl)) (fun _ _ _ _ _ => pts_nil) (fun _ _ _ _ _ => (pe_op (ko_add (K := K) rfl) pe_int (pe_cX (ok__law_draw T) hr (by decide) passN (by rfl) (pa_cons (pe_op (ko_add (K := K) rfl) (pv 0) (pe_op jo_mul pe_int (pv 3))) (pa_cons (pe_op (ko_add (K := K) rfl) pe_int (pv 3)) (pa_cons (pv 2) pa_nil)))))))) pss_nil))), ?_⟩), hm, F.kp, hb⟩

  rintro es r F σ Q ⟨c, rfl, rfl⟩ s kq
  simp only [J.cx_K, List.length_cons, List.length_nil, List.cons_append, List.nil_append, Nat.reduceAdd, Nat.reduceSub, List.reduceReplicate, List.append_nil] at s ⊢
  have h0 := drw_bd (c := c) (k := 0) (m := 4) (by omega)
  have h1 := most_pos c
  refine q_set s (S := iS (manyOf c)) (ev_op ev_c (ev_call (by walk_at "args") ⟨c, 0, 4, rfl, by omega, rfl⟩) jv_add) fun σ F H s => ?_
  dsimp only [List.set, J.putS, List.nil_append, List.cons_append] at s
  have hm : 1 ≤ manyOf c ∧ manyOf c ≤ 4 := by unfold manyOf; omega
  refine q_set s (S := iS (mostOf c)) (ev_ix (EvE.to (e1 := .v (tupS ([(60 : Int), 11, 4, 2].map iS))) (by walk_at "ev") (by rfl)) (by walk_at "ev") (jx_t isR_v (by omega) (most_get c))) fun σ F H s => ?_
  dsimp only [List.set, J.putS, List.nil_append, List.cons_append] at s
  refine q_retO s ?_ kq
  unfold szs
  rw [List.map_map]
  exact eo_lcRM (n := (manyOf c).toNat) (fun k : Nat => iS (1 + drw (c + 31 * (k : Int)) (1 + (k : Int)) (mostOf c))) (by walk_at "args") rfl (by omega) fun k hk => ev_op ev_c (ev_call (by walk_at "args") ⟨_, _, mostOf c, rfl, by omega, rfl⟩) jv_add

theorem prodTo_le {z : List Int} {m : Int} (h : ∀ a ∈ z, 1 ≤ a ∧ a ≤ m) : ∀ n, n ≤ z.length → 0 ≤ prodTo z n ∧ prodTo z n ≤ (m + 1) ^ n
  | 0, _ => by unfold prodTo; simp
  | n + 1, hn => by
    have hx : z[n]? = some z[n] := List.getElem?_eq_getElem (by omega)
    rw [prodTo_succ hx, Int.pow_succ]
    have h1 := prodTo_le h n (by omega)
    have h2 := h z[n] (List.getElem_mem _)
    exact ⟨Int.mul_nonneg h1.1 (by omega), Int.mul_le_mul h1.2 (by omega) (by omega) (by omega)⟩
theorem house_of {z : List Int} {c : Int} (hl : (z.length : Int) = manyOf c) (h : ∀ a ∈ z, 1 ≤ a ∧ a ≤ mostOf c) : HouseOk z := by
  have h0 := drw_bd (c := c) (k := 0) (m := 4) (by omega)
  have hm : 1 ≤ manyOf c ∧ manyOf c ≤ 4 := by unfold manyOf; omega
  have hp := (prodTo_le h z.length (Nat.le_refl _)).2
  have e : ∀ i < 4, ([(60 : Int), 11, 4, 2].getD i 0 + 1) ^ (i + 1) ≤ 2000 := by decide
  have e1 := e (manyOf c - 1).toNat (by omega)
  have e2 : (manyOf c - 1).toNat + 1 = z.length := by omega
  rw [e2] at e1
  exact ⟨by omega, by omega, fun a ha => ⟨(h a ha).1, Int.le_trans (h a ha).2 (most_pos c).2⟩, Int.le_trans hp e1⟩
theorem szs_bd (c : Int) : ∀ a ∈ szs c, 1 ≤ a ∧ a ≤ mostOf c := by
  intro a ha
  unfold szs at ha
  obtain ⟨k, _, rfl⟩ := List.mem_map.mp ha
  have h1 := most_pos c
  have := drw_bd (c := c + 31 * (k : Int)) (k := 1 + (k : Int)) (m := mostOf c) (by omega)
  omega
theorem szs_ok (c : Int) : HouseOk (szs c) := house_of (szs_len c) (szs_bd c)
theorem am_of {z : List Int} (h : HouseOk z) {i : Nat} (hi : i < z.length) : 1 ≤ am z i ∧ am z i ≤ 60 := h.sz _ (List.mem_of_getElem? (am_get hi))

/-! ### all moves, all states -/
def poursOf (n i : Nat) : List Mv := ((List.range n).filter fun j : Nat => !decide ((j : Int) = (i : Int))).map fun j : Nat => Mv.pour i j
def pours (n : Nat) : List Mv := (List.range n).flatMap (poursOf n)
def allMoves (n : Nat) (t : Bool) : List Mv := pours n ++ (if t = true then (List.range n).map Mv.fill ++ (List.range n).map Mv.empty else [])
theorem poursOf_len (n i : Nat) : (poursOf n i).length ≤ n := by
  unfold poursOf
  rw [List.length_map]
  have h := List.length_filter_le (fun j : Nat => !decide ((j : Int) = (i : Int))) (List.range n)
  rw [List.length_range] at h
  exact h
theorem flat_len {α : Type} {f : Nat → List α} {m : Nat} (h : ∀ i, (f i).length ≤ m) : ∀ l : List Nat, (l.flatMap f).length ≤ l.length * m
  | [] => by simp
  | a :: l => by
    rw [List.flatMap_cons, List.length_append, List.length_cons, Nat.succ_mul]
    have := flat_len h l
    have := h a
    omega
theorem flat_succ {α : Type} (f : Nat → List α) (i : Nat) : (List.range (i + 1)).flatMap f = (List.range i).flatMap f ++ f i := by
  rw [List.range_succ, List.flatMap_append]
  simp

def R_moves (C : Cs) : Rel := fun es r => ∃ z t, es = [.v (houseS C z t)] ∧ (z.length ≤ 4) ∧ r = .o (lstO ((allMoves z.length t).map (moveS C)))
/-! ### House_moves: slots 0:self 1:jugs 2:found 3:one 4:other 5:jug -/
abbrev s_House_moves : Stmt := inClass (top 20) 3
theorem sc_House_moves : FnScope ["self", "jugs", "found", "one", "other", "jug"] ["self"] (defScope s_House_moves) := ⟨rfl, rfl, rfl, by decide +kernel, rfl, by decide +kernel, by decide +kernel⟩
theorem ok_House_moves (T : Top K mg C) {D : Addr} (M : MetT K D "moves" "House.moves" s_House_moves ["self"]) : MetX P w K mg base 5 D "moves" (SpOf (R_moves C)) := by
  obtain ⟨f, fd, F, hc, hm, hb⟩ := M.ex
  refine ⟨f, fd, _, hc, hm, fn_ok F sc_House_moves (by walk_at "len") (fun cdv A outer s H E hr => ⟨_, (pss_cons (ps_set (i := 1) sc_House_moves.nd rfl (Or.inl rfl) (pe_listRg rfl (by rfl) T.n_list (prg_1 (by rfl) T.n_range (pe_callB (kc_len (K := K) rfl) (by rfl) T.n_len bt_len (pa_cons (ke_fld (K := K) rfl (pv 0) rfl) pa_nil))))) (pss_cons (ps_set (i := 2) sc_House_moves.nd rfl (Or.inl rfl) (pe_lst pa_nil)) (pss_cons (ps_for (passes_of rfl) rfl (ki_any (K := K) rfl (pv 1)) (pg_name (i := 3) sc_House_moves.nd rfl (Or.inr rfl)) (pss_cons (ps_expr (pe_bm PySem.F.plainAttrs_list PySem.F.slot_list_extend PySem.F.type_list_extend mt_extend (pv 2) (pa_cons (pe_lc (own := [("other", 4)]) (g := gName 4) rfl sc_House_moves.nd (ki_any (K := K) rfl (pv 1)) (blkOk_by (N := ["self", "jugs", "found", "one", "other", "jug"]) (sc := defScope s_House_moves) (by decide +kernel)) (fun _ _ _ _ _ => pg_name (i := 4) sc_House_moves.nd rfl (Or.inl rfl)) (fun _ _ _ _ _ => (pts_one (pt_cmpR (ko_ne (K := K) rfl hr) (pv 4) (pv 3) (nomark _)))) (fun _ _ _ _ _ => (pe_mkX (ok_Pour___init__ T) hr (by decide) passN (by rfl) (pa_cons (pv 3) (pa_cons (pv 4) pa_nil))))) pa_nil))) pss_nil)) (pss_cons (ps_if (pt_val (ke_fld (K := K) rfl (pv 0) rfl)) (pss_cons (ps_expr (pe_bm PySem.F.plainAttrs_list PySem.F.slot_list_extend PySem.F.type_list_extend mt_extend (pv 2) (pa_cons (pe_lc (own := [("jug", 5)]) (g := gName 5) rfl sc_House_moves.nd (ki_any (K := K) rfl (pv 1)) (blkOk_by (N := ["self", "jugs", "found", "one", "other", "jug"]) (sc := defScope s_House_moves) (by decide +kernel)) (fun _ _ _ _ _ => pg_name (i := 5) sc_House_moves.nd rfl (Or.inl rfl)) (fun _ _ _ _ _ => pts_nil) (fun _ _ _ _ _ => (pe_mkX (ok_Fill___init__ T) hr (by decide) passN (by rfl) (pa_cons (pv 5) pa_nil)))) pa_nil))) (pss_cons (ps_expr (pe_bm PySem.F.plainAttrs_list PySem.F.slot_list_extend PySem.F.type_list_extend mt_extend (pv 2) (pa_cons (pe_lc (own := [("jug", 5)]) (g := gName 5) rfl sc_House_moves.nd (ki_any (K := K) rfl (pv 1)) (blkOk_by (N := ["self", "jugs", "found", "one", "other", "jug"]) (sc := defScope s_House_moves) (by decide +kernel)) (fun _ _ _ _ _ => pg_name (i := 5) sc_House_moves.nd rfl (Or.inl rfl)) (fun _ _ _ _ _ => pts_nil) (fun _ _ _ _ _ => (pe_mkX (ok_Empty___init__ T) hr (by decide) passN (by rfl) (pa_cons (pv 5) pa_nil)))) pa_nil))) pss_nil)) pss_nil) (pss_cons (ps_ret (pv 2)) pss_nil))))), ?_⟩), hb⟩

  rintro es r F σ Q ⟨z, t, rfl, hz, rfl⟩ s k
  simp only [J.cx_K, List.length_cons, List.length_nil, List.cons_append, List.nil_append, Nat.reduceAdd, Nat.reduceSub, List.reduceReplicate, List.append_nil] at s ⊢
  refine q_setO s (eo_listRg (n := z.length) (by walk_at "ev") rfl (by omega)) fun σ F H s => ?_
  dsimp only [List.set, J.putS, List.nil_append, List.cons_append] at s
  refine q_setO s (eo_lstN ea_nilV (Nat.le_of_ble_eq_true rfl)) fun σ F H s => ?_
  dsimp only [List.set, J.putS, List.nil_append, List.cons_append] at s
  refine q_freeze s 1 rfl fun F s => ?_
  dsimp only [List.set, J.putS, List.nil_append, List.cons_append] at s
  refine q_forL s (ev_v rfl) (fun n d => ∃ e, d = [.v (houseS C z t), .v (lstS ((List.range z.length).map fun k : Nat => iS (k : Int))), .ow (lstO (((List.range n).flatMap (poursOf z.length)).map (moveS C))), e, .un, .un]) ⟨_, rfl⟩ ?_ ?_
  · rintro F1 bs n T' δ' σ F H hT ⟨e, rfl⟩ s
    obtain ⟨hn, rfl⟩ : n < z.length ∧ T' = iS (n : Int) := by
      have hn : n < ((List.range z.length).map fun k : Nat => iS (k : Int)).length := (List.getElem?_eq_some_iff.mp hT).1
      rw [List.length_map, List.length_range] at hn
      rw [List.getElem?_map, List.getElem?_range hn] at hT
      exact ⟨hn, (Option.some.inj hT).symm⟩
    dsimp only [List.set, J.putS, List.nil_append, List.cons_append] at s
    have hl : ((List.range n).flatMap (poursOf z.length)).length ≤ 16 := by
      have h1 := flat_len (poursOf_len z.length) (List.range n)
      rw [List.length_range] at h1
      have h2 : n * z.length ≤ 4 * 4 := Nat.mul_le_mul (by omega) hz
      omega
    have hp := poursOf_len z.length n
    have hj : ∀ j ∈ List.range z.length, (!decide ((j : Int) = (n : Int))) = true → n ≤ 3 ∧ j ≤ 3 ∧ n ≠ j := fun j hj hne => by
      have := List.mem_range.mp hj
      refine ⟨by omega, by omega, ?_⟩
      rintro rfl
      simp at hne
    have hl2 : (((List.range n).flatMap (poursOf z.length)).map (moveS C)).length + (((List.range z.length).filter fun j : Nat => !decide ((j : Int) = (n : Int))).map fun j : Nat => moveS C (.pour n j)).length ≤ 100000 := by
      rw [List.length_map, List.length_map]
      have e1 : (List.filter (fun j : Nat => !decide ((j : Int) = (n : Int))) (List.range z.length)).length = (poursOf z.length n).length := by unfold poursOf; rw [List.length_map]
      omega
    refine q_ext s rfl (eo_lcL (fun k : Nat => iS (k : Int)) (List.range z.length) (fun j : Nat => !decide ((j : Int) = (n : Int))) (fun j : Nat => moveS C (.pour n j)) (by walk_at "ev") (by walk_at "isr") (by rw [List.length_range]; omega)
      (fun j _ => by walk_at "et") (fun j hm hne => ev_make (by walk_at "args") (pour_ok (hj j hm hne)))).b isR_b hl2 fun σ F H s => ?_
    dsimp only [List.set, J.putS, List.nil_append, List.cons_append] at s
    refine q_nx s ⟨.v (iS (n : Int)), ?_⟩
    rw [flat_succ, List.map_append]
    conv => rhs; unfold poursOf
    rw [List.map_map]
    rfl
  · rintro δ' σ F H ⟨e, rfl⟩ s
    rw [List.length_map, List.length_range] at s
    have hl : ((List.range z.length).flatMap (poursOf z.length)).length ≤ 16 := by
      have h1 := flat_len (poursOf_len z.length) (List.range z.length)
      rw [List.length_range] at h1
      have h2 : z.length * z.length ≤ 4 * 4 := Nat.mul_le_mul hz hz
      omega
    refine q_when s (by walk_at "et") (fun ht σ F H s => ?_) (fun ht σ F H s => ?_)
    · subst ht
      refine q_ext s rfl (eo_lcM (fun k : Nat => iS (k : Int)) (List.range z.length) (fun j : Nat => moveS C (.fill j)) (by walk_at "ev") (by walk_at "isr") (by rw [List.length_range]; omega)
        (fun j hj => ev_make (by walk_at "args") (jug_ok (by have := List.mem_range.mp hj; omega)))).b isR_b (by simp only [List.length_map, List.length_range, List.length_append]; omega) fun σ F H s => ?_
      dsimp only [List.set, J.putS, List.nil_append, List.cons_append] at s
      refine q_ext s rfl (eo_lcM (fun k : Nat => iS (k : Int)) (List.range z.length) (fun j : Nat => moveS C (.empty j)) (by walk_at "ev") (by walk_at "isr") (by rw [List.length_range]; omega)
        (fun j hj => ev_make (by walk_at "args") (jug_ok (by have := List.mem_range.mp hj; omega)))).b isR_b (by simp only [List.length_map, List.length_range, List.length_append]; omega) fun σ F H s => ?_
      dsimp only [List.set, J.putS, List.nil_append, List.cons_append] at s
      refine q_thru ?_
      refine q_retOw s rfl fun p ho F' H' g h0 hf hp hq => k p ho F' H' g h0 hf hp ?_
      unfold allMoves pours
      rw [if_pos rfl, List.map_append, List.map_append, List.map_map, List.map_map, ← List.append_assoc]
      exact hq
    · subst ht
      refine q_retOw s rfl fun p ho F' H' g h0 hf hp hq => k p ho F' H' g h0 hf hp ?_
      unfold allMoves pours
      rw [if_neg Bool.false_ne_true, List.append_nil]
      exact hq

def toldL : Mv → List Int
  | .pour i j => [0, (i : Int), (j : Int)]
  | .fill i => [1, (i : Int), 0]
  | .empty i => [2, (i : Int), 0]
abbrev tldS (m : Mv) : Slot := stS (toldL m)
def R_lall : Rel := fun es r => ∃ (z : List Int) (t : Bool), es = [.v (intsS z), .v (bS t)] ∧ z.length ≤ 4 ∧ r = .o (lstO ((allMoves z.length t).map tldS))
theorem pours_len {n z : Nat} (hz : z ≤ 4) (hn : n ≤ z) : ((List.range n).flatMap (poursOf z)).length ≤ 16 := by
  have h1 := flat_len (poursOf_len z) (List.range n)
  rw [List.length_range] at h1
  have h2 : n * z ≤ 4 * 4 := Nat.mul_le_mul (by omega) hz
  omega
/-! ### _law_all_moves: slots 0:_law_sizes_here 1:_law_tap 2:_law_jugs 3:_law_found 4:_law_one 5:_law_other 6:_law_jug -/
abbrev s__law_all_moves : Stmt := top 35
theorem sc__law_all_moves : FnScope ["_law_sizes_here", "_law_tap", "_law_jugs", "_law_found", "_law_one", "_law_other", "_law_jug"] ["_law_sizes_here", "_law_tap"] (defScope s__law_all_moves) := ⟨rfl, rfl, rfl, by decide +kernel, rfl, by decide +kernel, by decide +kernel⟩
theorem ok__law_all_moves (T : Top K mg C) : CalX P w K mg base 1 "_law_all_moves" (SpOf R_lall) := by
  obtain ⟨f, fd, F, hm, hb⟩ := T.d__law_all_moves.ex
  refine ⟨f, fd, _, fn_ok F sc__law_all_moves (by walk_at "len") (fun cdv A outer s H E hr => ⟨_, (pss_cons (ps_set (i := 2) sc__law_all_moves.nd rfl (Or.inl rfl) (pe_listRg rfl (by rfl) T.n_list (prg_1 (by rfl) T.n_range (pe_callB (kc_len (K := K) rfl) (by rfl) T.n_len bt_len (pa_cons (pv 0) pa_nil))))) (pss_cons (ps_set (i := 3) sc__law_all_moves.nd rfl (Or.inl rfl) (pe_lst pa_nil)) (pss_cons (ps_for (passes_of rfl) rfl (ki_any (K := K) rfl (pv 2)) (pg_name (i := 4) sc__law_all_moves.nd rfl (Or.inr rfl)) (pss_cons (ps_set (i := 3) sc__law_all_moves.nd rfl (Or.inl rfl) (pe_op (ko_add (K := K) rfl) (pv 3) (pe_lc (own := [("_law_other", 5)]) (g := gName 5) rfl sc__law_all_moves.nd (ki_any (K := K) rfl (pv 2)) (blkOk_by (N := ["_law_sizes_here", "_law_tap", "_law_jugs", "_law_found", "_law_one", "_law_other", "_law_jug"]) (sc := defScope s__law_all_moves) (by decide +kernel)) (fun _ _ _ _ _ => pg_name (i := 5) sc__law_all_moves.nd rfl (Or.inl rfl)) (fun _ _ _ _ _ => (pts_one (pt_cmpR (ko_ne (K := K) rfl hr) (pv 5) (pv 4) (nomark _)))) (fun _ _ _ _ _ => (pe_tup (pa_cons pe_int (pa_cons (pv 4) (pa_cons (pv 5) pa_nil)))))))) pss_nil)) (pss_cons (ps_if (pt_val (pv 1)) (pss_cons (ps_set (i := 3) sc__law_all_moves.nd rfl (Or.inl rfl) (pe_op (ko_add (K := K) rfl) (pe_op (ko_add (K := K) rfl) (pv 3) (pe_lc (own := [("_law_jug", 6)]) (g := gName 6) rfl sc__law_all_moves.nd (ki_any (K := K) rfl (pv 2)) (blkOk_by (N := ["_law_sizes_here", "_law_tap", "_law_jugs", "_law_found", "_law_one", "_law_other", "_law_jug"]) (sc := defScope s__law_all_moves) (by decide +kernel)) (fun _ _ _ _ _ => pg_name (i := 6) sc__law_all_moves.nd rfl (Or.inl rfl)) (fun _ _ _ _ _ => pts_nil) (fun _ _ _ _ _ => (pe_tup (pa_cons pe_int (pa_cons (pv 6) (pa_cons pe_int pa_nil))))))) (pe_lc (own := [("_law_jug", 6)]) (g := gName 6) rfl sc__law_all_moves.nd (ki_any (K := K) rfl (pv 2)) (blkOk_by (N := ["_law_sizes_here", "_law_tap", "_law_jugs", "_law_found", "_law_one", "_law_other", "_law_jug"]) (sc := defScope s__law_all_moves) (by decide +kernel)) (fun _ _ _ _ _ => pg_name (i := 6) sc__law_all_moves.nd rfl (Or.inl rfl)) (fun _ _ _ _ _ => pts_nil) (fun _ _ _ _ _ => (pe_tup (pa_cons pe_int (pa_cons (pv 6) (pa_cons pe_int pa_nil)))))))) pss_nil) pss_nil) (pss_cons (ps_ret (pv 3)) pss_nil))))), ?_⟩), hm, F.kp, hb⟩

  rintro es r F σ Q ⟨z, t, rfl, hz, rfl⟩ s k
  simp only [J.cx_K, List.length_cons, List.length_nil, List.cons_append, List.nil_append, Nat.reduceAdd, Nat.reduceSub, List.reduceReplicate, List.append_nil] at s ⊢
  refine q_setO s (eo_listRg (n := z.length) (by walk_at "ev") rfl (by omega)) fun σ F H s => ?_
  dsimp only [List.set, J.putS, List.nil_append, List.cons_append] at s
  refine q_setO s (eo_lstN ea_nilV (Nat.le_of_ble_eq_true rfl)) fun σ F H s => ?_
  dsimp only [List.set, J.putS, List.nil_append, List.cons_append] at s
  refine q_freeze s 2 rfl fun F s => ?_
  dsimp only [List.set, J.putS, List.nil_append, List.cons_append] at s
  refine q_forL s (ev_v rfl) (fun n d => ∃ e, d = [.v (intsS z), .v (bS t), .v (lstS ((List.range z.length).map fun k : Nat => iS (k : Int))), .ow (lstO (((List.range n).flatMap (poursOf z.length)).map tldS)), e, .un, .un]) ⟨_, rfl⟩ ?_ ?_
  · rintro F1 bs n T' δ' σ F H hT ⟨e, rfl⟩ s
    obtain ⟨hn, rfl⟩ : n < z.length ∧ T' = iS (n : Int) := by
      have hn : n < ((List.range z.length).map fun k : Nat => iS (k : Int)).length := (List.getElem?_eq_some_iff.mp hT).1
      rw [List.length_map, List.length_range] at hn
      rw [List.getElem?_map, List.getElem?_range hn] at hT
      exact ⟨hn, (Option.some.inj hT).symm⟩
    dsimp only [List.set, J.putS, List.nil_append, List.cons_append] at s
    have hl := pours_len hz (n := n) (by omega)
    have hp := poursOf_len z.length n
    have hl2 : (((List.range n).flatMap (poursOf z.length)).map tldS).length + (((List.range z.length).filter fun j : Nat => !decide ((j : Int) = (n : Int))).map fun j : Nat => tldS (.pour n j)).length ≤ 100000 := by
      rw [List.length_map, List.length_map]
      have e1 : (List.filter (fun j : Nat => !decide ((j : Int) = (n : Int))) (List.range z.length)).length = (poursOf z.length n).length := by unfold poursOf; rw [List.length_map]
      omega
    refine q_setO s (eo_op (by walk_at "ev") (eo_lcL (fun k : Nat => iS (k : Int)) (List.range z.length) (fun j : Nat => !decide ((j : Int) = (n : Int))) (fun j : Nat => tldS (.pour n j)) (by walk_at "ev") (by walk_at "isr") (by rw [List.length_range]; omega)
      (fun j _ => by walk_at "et") (fun j hm hne => EvE.to (by walk_at "ev") (by rfl))).b (jo_addl isR_b isR_b hl2)) fun σ F H s => ?_
    dsimp only [List.set, J.putS, List.nil_append, List.cons_append] at s
    refine q_nx s ⟨.v (iS (n : Int)), ?_⟩
    rw [flat_succ, List.map_append]
    conv => rhs; unfold poursOf
    rw [List.map_map]
    rfl
  · rintro δ' σ F H ⟨e, rfl⟩ s
    rw [List.length_map, List.length_range] at s
    have hl := pours_len hz (n := z.length) (by omega)
    refine q_when s (by walk_at "et") (fun ht σ F H s => ?_) (fun ht σ F H s => ?_)
    · subst ht
      refine q_setO s (eo_op (eo_op (by walk_at "ev") (eo_lcM (fun k : Nat => iS (k : Int)) (List.range z.length) (fun j : Nat => tldS (.fill j)) (by walk_at "ev") (by walk_at "isr") (by rw [List.length_range]; omega) (fun j hj => EvE.to (by walk_at "ev") (by rfl))).b (jo_addl isR_b isR_b (by simp only [List.length_map, List.length_range, List.length_append]; omega))).b (eo_lcM (fun k : Nat => iS (k : Int)) (List.range z.length) (fun j : Nat => tldS (.empty j)) (by walk_at "ev") (by walk_at "isr") (by rw [List.length_range]; omega)
        (fun j hj => EvE.to (by walk_at "ev") (by rfl))).b (jo_addl isR_b isR_b (by simp only [List.length_map, List.length_range, List.length_append]; omega))) fun σ F H s => ?_
      dsimp only [List.set, J.putS, List.nil_append, List.cons_append] at s
      refine q_thru ?_
      refine q_retOw s rfl fun p ho F' H' g h0 hf hp hq => k p ho F' H' g h0 hf hp ?_
      unfold allMoves pours
      rw [if_pos rfl, List.map_append, List.map_append, List.map_map, List.map_map, ← List.append_assoc]
      exact hq
    · subst ht
      refine q_retOw s rfl fun p ho F' H' g h0 hf hp hq => k p ho F' H' g h0 hf hp ?_
      unfold allMoves pours
      rw [if_neg Bool.false_ne_true, List.append_nil]
      exact hq

def R_mtext : Rel := fun es r => ∃ m, es = [.v (tldS m)] ∧ small m ∧ r = .v (sS (mtext m))
/-! ### _law_move_text: slots 0:_law_told 1:_law_sort 2:_law_one 3:_law_other -/
abbrev s__law_move_text : Stmt := top 36
theorem sc__law_move_text : FnScope ["_law_told", "_law_sort", "_law_one", "_law_other"] ["_law_told"] (defScope s__law_move_text) := ⟨rfl, rfl, rfl, by decide +kernel, rfl, by decide +kernel, by decide +kernel⟩
theorem ok__law_move_text (T : Top K mg C) : CalX P w K mg base 1 "_law_move_text" (SpOf R_mtext) := by
  obtain ⟨f, fd, F, hm, hb⟩ := T.d__law_move_text.ex
  refine ⟨f, fd, _, fn_ok F sc__law_move_text (by walk_at "len") (fun cdv A outer s H E hr => ⟨_, (pss_cons (ps_asg (pv 0) (pg_tup rfl (pgs_cons (pg_name (i := 1) sc__law_move_text.nd rfl (Or.inl rfl)) (pgs_cons (pg_name (i := 2) sc__law_move_text.nd rfl (Or.inl rfl)) (pgs_cons (pg_name (i := 3) sc__law_move_text.nd rfl (Or.inl rfl)) pgs_nil))))) (pss_cons (ps_if (pt_cmpR (ko_eq (K := K) rfl hr) (pv 1) pe_int (nomark _)) (pss_cons (ps_ret (pe_op (ko_add (K := K) rfl) (pe_op (ko_add (K := K) rfl) (pe_op (ko_add (K := K) rfl) pe_str (pe_callTy kc_str (by rfl) T.n_str bt_str (pa_cons (pv 2) pa_nil))) pe_str) (pe_callTy kc_str (by rfl) T.n_str bt_str (pa_cons (pv 3) pa_nil)))) pss_nil) pss_nil) (pss_cons (ps_ret (pe_op (ko_add (K := K) rfl) (ke_ix (K := K) rfl hr (pe_tup (pa_cons pe_str (pa_cons pe_str pa_nil))) (pe_op op_sub (pv 1) pe_int) (fun _ _ => rfl) (fun _ _ => rfl)) (pe_callTy kc_str (by rfl) T.n_str bt_str (pa_cons (pv 2) pa_nil)))) pss_nil))), ?_⟩), hm, F.kp, hb⟩

  rintro es r F σ Q ⟨m, rfl, hm, rfl⟩ s k
  simp only [J.cx_K, List.length_cons, List.length_nil, List.cons_append, List.nil_append, Nat.reduceAdd, Nat.reduceSub, List.reduceReplicate, List.append_nil] at s ⊢
  cases m with
  | pour i j =>
    have h1 := strI_len i hm.1
    have h2 := strI_len j hm.2
    refine q_tup3 (S1 := iS 0) (S2 := iS (i : Int)) (S3 := iS (j : Int)) s (ev_v rfl) fun σ F H s => ?_
    dsimp only [List.set, J.putS, List.nil_append, List.cons_append] at s
    refine q_ifT s (et_Test (ev_op (ev_v rfl) ev_c jv_eqi)) (by rfl) fun σ F H s => ?_
    refine q_ret s (ev_op (ev_op (ev_op ev_c (ev_cb (ea_cons (ev_v rfl) ea_nil) (cb_str (log_small hm.1))) (jv_adds ?_)) ev_c (jv_adds ?_)) (ev_cb (ea_cons (ev_v rfl) ea_nil) (cb_str (log_small hm.2))) (jv_adds ?_)) k
    · rw [h1]; decide +kernel
    · rw [app_len, h1]; decide +kernel
    · rw [app_len, app_len, h1, h2]; decide +kernel
  | fill i =>
    have h1 := strI_len i hm
    refine q_tup3 (S1 := iS 1) (S2 := iS (i : Int)) (S3 := iS 0) s (ev_v rfl) fun σ F H s => ?_
    dsimp only [List.set, J.putS, List.nil_append, List.cons_append] at s
    refine q_whenF s (et_Test (ev_op (ev_v rfl) ev_c jv_eqi)) (by rfl) fun σ F H s => ?_
    refine q_ret s (ev_op (ev_ix (EvE.to (e1 := .v (tupS ([Str.ofString "fill ", Str.ofString "empty "].map sS))) (ev_tupN (ea_consV ev_c (ea_consV ev_c ea_nilV)) (Nat.le_of_ble_eq_true rfl)) rfl) (ev_op (ev_v rfl) ev_c op_I0) (jx_t isR_v (by decide) rfl)) (ev_cb (ea_cons (ev_v rfl) ea_nil) (cb_str (log_small hm))) (jv_adds ?_)) k
    rw [h1]; decide +kernel
  | empty i =>
    have h1 := strI_len i hm
    refine q_tup3 (S1 := iS 2) (S2 := iS (i : Int)) (S3 := iS 0) s (ev_v rfl) fun σ F H s => ?_
    dsimp only [List.set, J.putS, List.nil_append, List.cons_append] at s
    refine q_whenF s (et_Test (ev_op (ev_v rfl) ev_c jv_eqi)) (by rfl) fun σ F H s => ?_
    refine q_ret s (ev_op (ev_ix (EvE.to (e1 := .v (tupS ([Str.ofString "fill ", Str.ofString "empty "].map sS))) (ev_tupN (ea_consV ev_c (ea_consV ev_c ea_nilV)) (Nat.le_of_ble_eq_true rfl)) rfl) (ev_op (ev_v rfl) ev_c op_I0) (jx_t isR_v (by decide) rfl)) (ev_cb (ea_cons (ev_v rfl) ea_nil) (cb_str (log_small hm))) (jv_adds ?_)) k
    rw [h1]; decide +kernel
theorem len0 {w : Str} : (w.length = 0) ↔ w = sE := by
  rw [TL.len_tl]
  constructor
  · intro h
    exact TL.ext_tl (by rw [sE_tl]; exact List.length_eq_zero_iff.mp h)
  · intro h
    rw [h, sE_tl]
    rfl
theorem isNum_test2 (w : Str) : (!isNum w) = (decide (w = sE) || (decide ((w.length : Int) > 2) || (!decide (Txt.stripChars w FIG = sE) || (decide (ch0 w = s0) && !decide (w = s0))))) := by
  rw [isNum_test, Bool.not_not]
  have e : (!(decide ((1 : Int) ≤ (w.length : Int)) && decide ((w.length : Int) ≤ 2))) = (decide (w = sE) || decide ((w.length : Int) > 2)) := by
    have z := len0 (w := w)
    rw [Bool.eq_iff_iff]
    simp only [Bool.not_eq_true', Bool.and_eq_false_iff, decide_eq_false_iff_not, Bool.or_eq_true, decide_eq_true_eq, ← z]
    omega
  rw [e, Bool.or_assoc]
def R_lnum : Rel := fun es r => ∃ (w : Str) (m : Int), es = [.v (sS w), .v (iS m)] ∧ w.length ≤ 100000 ∧ r = .v (iS (lawNum m w))
/-! ### _law_number: slots 0:_law_text 1:_law_most -/
abbrev s__law_number : Stmt := top 37
theorem sc__law_number : FnScope ["_law_text", "_law_most"] ["_law_text", "_law_most"] (defScope s__law_number) := ⟨rfl, rfl, rfl, by decide +kernel, rfl, by decide +kernel, by decide +kernel⟩
theorem ok__law_number (T : Top K mg C) : CalX P w K mg base 1 "_law_number" (SpOf R_lnum) := by
  obtain ⟨f, fd, F, hm, hb⟩ := T.d__law_number.ex
  refine ⟨f, fd, _, fn_ok F sc__law_number (by walk_at "len") (fun cdv A outer s H E hr => ⟨_, (pss_cons (ps_if (PW.pt (pw_or (pt_cmpR (ko_eq (K := K) rfl hr) (pv 0) pe_str (nomark _)) (pw_or (pt_cmpR op_gt (pe_callB (kc_len (K := K) rfl) (by rfl) T.n_len bt_len (pa_cons (pv 0) pa_nil)) pe_int (nomark _)) (pw_or (pt_cmpR (ko_ne (K := K) rfl hr) (pe_bm PySem.F.plainAttrs_str PySem.F.slot_str_strip PySem.F.type_str_strip mt_stripC (pv 0) (pa_cons pe_str pa_nil)) pe_str (nomark _)) (pw_or1 (PW.pt (pw_and (pt_cmpR (ko_eq (K := K) rfl hr) (ke_ix (K := K) rfl hr (pv 0) pe_int (fun _ _ => rfl) (fun _ _ => rfl)) pe_str (nomark _)) (pw_and1 (pt_cmpR (ko_ne (K := K) rfl hr) (pv 0) pe_str (nomark _)))))))))) (pss_cons (ps_ret (pe_un un_neg pe_int)) pss_nil) pss_nil) (pss_cons (ps_ret (pe_ifExp (pt_cmpR op_le (pe_callTy kc_int (by rfl) T.n_int bt_int (pa_cons (pv 0) pa_nil)) (pv 1) (nomark _)) (pe_callTy kc_int (by rfl) T.n_int bt_int (pa_cons (pv 0) pa_nil)) (pe_un un_neg pe_int))) pss_nil)), ?_⟩), hm, F.kp, hb⟩

  rintro es r F σ Q ⟨w, m, rfl, hw, rfl⟩ s k
  simp only [J.cx_K, List.length_cons, List.length_nil, List.cons_append, List.nil_append, Nat.reduceAdd, Nat.reduceSub, List.reduceReplicate, List.append_nil] at s ⊢
  have pos : decide (w = sE) = false → 0 < w.length := fun h =>
    Nat.pos_of_ne_zero fun e => of_decide_eq_false h (len0.mp e)
  refine q_when (b := !isNum w) s (EvT.to (et_or (et_Test (ev_op (ev_v rfl) (ev_c (v := .str sE)) jv_eqs)) fun hb => et_or (et_Test (ev_op (ev_cb (ea_cons (ev_v rfl) ea_nil) (cb_lens hw)) ev_c op_I0)) fun _ => et_or (et_Test (ev_op (ev_stripC (b := FIG) (ev_v rfl) ev_c hw) (ev_c (v := .str sE)) jv_nes)) fun _ => et_and (et_Test (ev_op (EvE.to (ev_ix (ev_v rfl) ev_c (jx_c (k := 0) hw (pos hb))) (ch0_is w)) (ev_c (v := .str s0)) jv_eqs)) fun _ => et_Test (ev_op (ev_v rfl) (ev_c (v := .str s0)) jv_nes)) (isNum_test2 w).symm) (fun hb σ F H s => ?_) (fun hb σ F H s => ?_)
  · have h : isNum w = false := by simpa using hb
    refine q_ret s (EvE.to (ev_un ev_c un_I) ?_) k
    unfold lawNum
    rw [if_neg (by rw [h]; exact Bool.false_ne_true)]
  · have h : isNum w = true := by simpa using hb
    have nb := num_bd h
    have hl : w.length ≤ 640 := by
      have h' := h
      unfold isNum at h'
      simp only [Bool.and_eq_true, decide_eq_true_eq] at h'
      have := h'.1.1.2
      omega
    have it : EvE (tCB rIntS (tCons (tVar 0) tNil)) [Ent.v (sS w), Ent.v (iS m)] (.v (iS (num w))) := ev_cb (ea_cons (ev_v rfl) ea_nil) (cb_int nb.2.2.1 hl)
    refine q_ret s (ev_if (b := decide (num w ≤ m)) (et_Test (ev_op it (ev_v rfl) op_I0)) (fun hb => EvE.to it ?_) (fun hb => EvE.to (ev_un ev_c un_I) ?_)) k
    · rw [lawNum_of h (of_decide_eq_true hb)]
    · unfold lawNum
      rw [if_pos h, if_neg (of_decide_eq_false hb)]
theorem eqvAll_strs : ∀ xs ys : List Str, PyData.eqvAll (xs.map .str) (ys.map .str) = decide (xs = ys)
  | [], [] => rfl
  | [], _ :: _ => rfl
  | _ :: _, [] => rfl
  | x :: xs, y :: ys => by
    simp only [List.map_cons, PyData.eqvAll, PyData.eqv, eqvAll_strs xs ys]
    by_cases h : x = y <;> by_cases h' : xs = ys <;> simp [h, h']
abbrev wf (w : Str) : Prop := PyData.canLay0 (.str w) = true
theorem wf_iff {w : Str} : wf w ↔ ∀ c ∈ TL.tl w, c < 0x110000 := by
  show PySem.PyData.strOk w = true ↔ _
  unfold PySem.PyData.strOk
  rw [Array.all_eq_true_iff_forall_mem]
  simp
theorem join_wf {y x : Str} : ∀ parts : List Str, x ∈ parts → ∀ c ∈ TL.tl x, c ∈ TL.tl (Str.join y parts)
  | [], h, _, _ => by cases h
  | [p], h, c, hc => by rw [List.mem_singleton.mp h] at hc; exact hc
  | p :: q :: r, h, c, hc => by
    have e : TL.tl (Str.join y (p :: q :: r)) = TL.tl p ++ TL.tl y ++ TL.tl (Str.join y (q :: r)) := by
      show TL.tl (p ++ y ++ Str.join y (q :: r)) = _
      rw [TL.tl_append, TL.tl_append]
    rw [e]
    rcases List.mem_cons.mp h with rfl | h
    · simp [hc]
    · have := join_wf (y := y) (q :: r) h c hc
      simp [this]
theorem wds_wf {w x : Str} (hw : wf w) (h : x ∈ wds w) : wf x := wf_iff.mpr fun c hc => wf_iff.mp hw c (by
  have z := join_wf (y := spS) (wds w) h c hc
  rw [← TL.join_eq, wds_join] at z
  exact z)
theorem dat_strs {e : Ent} {xs : List Str} (h : IsR e (lstO (xs.map sS))) (hw : ∀ x ∈ xs, wf x) : Dat K e (.list (xs.map .str)) := (do_lst (n := 0) (da_map fun x hx => ds_str (hw x hx))).dat h (by decide)
theorem jv_neSs {e1 e2 : Ent} {xs ys : List Str} (h1 : IsR e1 (lstO (xs.map sS))) (h2 : IsR e2 (lstO (ys.map sS))) (w1 : ∀ x ∈ xs, wf x) (w2 : ∀ x ∈ ys, wf x) : OpE (rNeJ K) e1 e2 (.v (bS (!decide (xs = ys)))) := by
  have z := jv_neD (dat_strs (K := K) h1 w1) (dat_strs (K := K) h2 w2)
  simp only [PyData.eqv] at z
  rw [eqvAll_strs] at z
  exact z
theorem has_min : ∀ {l : List Int}, l ≠ [] → ∃ m ∈ l, ∀ y ∈ l, m ≤ y
  | [], h => absurd rfl h
  | [a], _ => ⟨a, List.mem_cons_self, fun y hy => by rw [List.mem_singleton.mp hy]; omega⟩
  | a :: b :: l, _ => by
    obtain ⟨m, h1, h2⟩ := has_min (l := b :: l) (by simp)
    by_cases h : a ≤ m
    · refine ⟨a, List.mem_cons_self, fun y hy => ?_⟩
      rcases List.mem_cons.mp hy with rfl | hy
      · omega
      · have := h2 y hy
        omega
    · refine ⟨m, List.mem_cons_of_mem _ h1, fun y hy => ?_⟩
      rcases List.mem_cons.mp hy with rfl | hy
      · omega
      · exact h2 y hy
def hiS (w : Str) : Slot := match houseIn w with
  | some (z, t) => tupS [intsS z, bS t]
  | none => nS
def R_hin : Rel := fun es r => ∃ w : Str, es = [.v (sS w)] ∧ (w.length ≤ 30000 ∧ wf w) ∧ r = .v (hiS w)
/-! ### _law_house_in: slots 0:_law_text 1:_law_words 2:_law_tap 3:_law_sizes_here 4:_law_states 5:_law_size 6:_law_word -/
abbrev s__law_house_in : Stmt := top 38
theorem sc__law_house_in : FnScope ["_law_text", "_law_words", "_law_tap", "_law_sizes_here", "_law_states", "_law_size", "_law_word"] ["_law_text"] (defScope s__law_house_in) := ⟨rfl, rfl, rfl, by decide +kernel, rfl, by decide +kernel, by decide +kernel⟩
theorem ok__law_house_in (T : Top K mg C) : CalX P w K mg base 2 "_law_house_in" (SpOf R_hin) := by
  obtain ⟨f, fd, F, hm, hb⟩ := T.d__law_house_in.ex
  refine ⟨f, fd, _, fn_ok F sc__law_house_in (by walk_at "len") (fun cdv A outer s H E hr => ⟨_, (pss_cons (ps_set (i := 1) sc__law_house_in.nd rfl (Or.inl rfl) (ke_split (pv 0) pe_str)) (pss_cons (ps_set (i := 2) sc__law_house_in.nd rfl (Or.inl rfl) (pe_cmpR (ko_eq (K := K) rfl hr) (ke_ix (K := K) rfl hr (pv 1) (pe_un un_neg pe_int) (fun _ _ => rfl) (fun _ _ => rfl)) pe_str (nomark _))) (pss_cons (ps_if (pt_val (pv 2)) (pss_cons (ps_set (i := 1) sc__law_house_in.nd rfl (Or.inl rfl) (pe_slice (ko_sl (K := K) rfl) (pv 1) po_none (po_some (pe_un un_neg pe_int)))) pss_nil) pss_nil) (pss_cons (ps_setLc (i := 3) (own := [("_law_word", 6)]) (g := gName 6) rfl sc__law_house_in.nd rfl rfl (sw_true rfl rfl rfl (by decide +kernel)) (ki_any (K := K) rfl (pe_slice (ko_sl (K := K) rfl) (pv 1) (po_some pe_int) po_none)) (blkOk_by (N := ["_law_text", "_law_words", "_law_tap", "_law_sizes_here", "_law_states", "_law_size", "_law_word"]) (sc := defScope s__law_house_in) (by decide +kernel)) (fun _ _ _ _ _ => pg_name (i := 6) sc__law_house_in.nd rfl (Or.inl rfl)) (fun _ _ _ _ _ => pts_nil) (fun _ _ _ _ _ => (pe_cX (ok__law_number T) hr (by decide) passN (by rfl) (pa_cons (pv 6) (pa_cons pe_int pa_nil))))) (pss_cons (ps_if (PW.pt (pw_or (pt_cmpR (ko_ne (K := K) rfl hr) (pe_slice (ko_sl (K := K) rfl) (pv 1) po_none (po_some pe_int)) (pe_lst (pa_cons pe_str pa_nil)) (nomark _)) (pw_or (pt_not (pt_chain op_le op_le pe_int (pe_callB (kc_len (K := K) rfl) (by rfl) T.n_len bt_len (pa_cons (pv 3) pa_nil)) pe_int)) (pw_or1 (pt_cmpR op_lt (pe_callB (kc_min (K := K) rfl rfl) (by rfl) T.n_min bt_min (pa_cons (pv 3) pa_nil)) pe_int (nomark _)))))) (pss_cons (ps_ret pe_non) pss_nil) pss_nil) (pss_cons (ps_set (i := 4) sc__law_house_in.nd rfl (Or.inl rfl) pe_int) (pss_cons (ps_for (passes_of rfl) rfl (ki_any (K := K) rfl (pv 3)) (pg_name (i := 5) sc__law_house_in.nd rfl (Or.inl rfl)) (pss_cons (ps_set (i := 4) sc__law_house_in.nd rfl (Or.inl rfl) (pe_op jo_mul (pv 4) (pe_op (ko_add (K := K) rfl) (pv 5) pe_int))) pss_nil)) (pss_cons (ps_ret (pe_ifExp (pt_cmpR op_gt (pv 4) pe_int (nomark _)) pe_non (pe_tup (pa_cons (pv 3) (pa_cons (pv 2) pa_nil))))) pss_nil)))))))), ?_⟩), hm, F.kp, hb⟩

  rintro es r F σ Q ⟨w, rfl, ⟨hw, hwf⟩, rfl⟩ s k
  simp only [J.cx_K, List.length_cons, List.length_nil, List.cons_append, List.nil_append, Nat.reduceAdd, Nat.reduceSub, List.reduceReplicate, List.append_nil] at s ⊢
  have wj : ∀ x ∈ [jugsS], wf x := by decide +kernel
  have wt : ∀ x ∈ (wtap w).take 1, wf x := fun x hx => wds_wf hwf (wtap_sub (List.mem_of_mem_take hx))
  have hl := wds_len w
  have hl2 := wtap_len w
  have hl3 : (restW w).length ≤ (wtap w).length := by unfold restW; rw [List.length_drop]; omega
  have hsub : ∀ x ∈ restW w, x.length ≤ 100000 := fun x hx => by have := wds_sub (wtap_sub (List.mem_of_mem_drop hx)); omega
  refine q_setO s (o := lstO ((wds w).map sS)) (eo_split (b := spS) (ev_v rfl) ev_c (by decide +kernel) (by omega)) fun σ F H s => ?_
  dsimp only [List.set, J.putS, List.nil_append, List.cons_append] at s
  refine q_set s (S := bS (tapOf w)) (ev_op (ev_ix (ev_ow rfl) (ev_un ev_c un_I) (jx_last isR_b (last_get w))) (ev_c (v := .str tapS)) jv_eqs) fun σ F H s => ?_
  dsimp only [List.set, J.putS, List.nil_append, List.cons_append] at s
  refine q_join (δ' := [.v (sS w), .ow (lstO ((wtap w).map sS)), .v (bS (tapOf w)), .un, .un, .un, .un]) s (et_B (ev_v rfl)) (fun hb σ F H k2 s => ?_) (fun hb => ?_) (fun σ F H s => ?_)
  · refine q_setO s (o := lstO ((wtap w).map sS)) (EvO.to (eo_sll (ev_ow rfl) isR_b eo_none (eo_some (ev_un ev_c un_I))) ?_) fun σ F H s => ?_
    · show lstO (cutS' ((wds w).map sS) none (some (-1))) = _
      rw [cut_init, ← List.map_dropLast]
      unfold wtap
      rw [if_pos hb]
    · skip
      dsimp only [List.set, J.putS, List.nil_append, List.cons_append] at s
      exact k2 σ F H s
  · unfold wtap
    rw [if_neg (by rw [hb]; exact Bool.false_ne_true)]
  · have sl : EvO (tSl (rSlJ K) (tVar 1) (tPart (tC (.int 1))) tNoPart) [.v (sS w), .ow (lstO ((wtap w).map sS)), .v (bS (tapOf w)), .un, .un, .un, .un] (lstO ((restW w).map sS)) := EvO.to (eo_sll (ev_ow rfl) isR_b (eo_some ev_c) eo_none) (by rw [cut_rest])
    refine q_setO s (o := lstO ((lsz w).map iS)) (EvO.to (eo_lcM sS (restW w) (fun x => iS (lawNum 60 x)) (EvO.b sl) isR_b (by omega) (fun x hx => ev_call (ea_cons (ev_v rfl) (ea_cons ev_c ea_nil)) ⟨x, 60, rfl, hsub x hx, rfl⟩)) (by unfold lsz; rw [List.map_map]; rfl)) fun σ F H s => ?_
    dsimp only [List.set, J.putS, List.nil_append, List.cons_append] at s
    refine q_freeze s 3 rfl fun F s => ?_
    dsimp only [List.set, J.putS, List.nil_append, List.cons_append] at s
    have hlz : (lsz w).length = (restW w).length := List.length_map _
    have e1 : cutS' ((wtap w).map sS) none (some 1) = ((wtap w).take 1).map sS := by
      rw [show (1 : Int) = ((1 : Nat) : Int) from rfl, cut_to, List.map_take]
    have hin := houseIn_law w
    by_cases c1 : (wtap w).take 1 = [jugsS]
    · by_cases c2 : 1 ≤ (lsz w).length ∧ (lsz w).length ≤ 4
      · obtain ⟨mn, m1, m2⟩ := has_min (l := lsz w) (fun e => by rw [e] at c2; simp at c2)
        have q1 : decide ((1 : Int) ≤ ((lsz w).length : Int)) = true := decide_eq_true (by omega)
        have q2 : decide (((lsz w).length : Int) ≤ 4) = true := decide_eq_true (by omega)
        refine q_when (b := decide (mn < 1)) s (EvT.to (et_or (et_Test (ev_op (EvO.b (eo_sll (ev_ow rfl) isR_b eo_none (eo_some ev_c))) (EvO.b (eo_lstN (ss := [jugsS].map sS) (ea_consV ev_c ea_nilV) (Nat.le_of_ble_eq_true rfl))) (jv_neSs (xs := [jugsS]) (by rw [e1, c1]; exact isR_b) isR_b wj wj))) fun _ => et_or (et_not (et_Test (ev_chain ev_c (ev_cb (ea_cons (ev_v rfl) ea_nil) (cb_lenM isR_v)) (fun _ => ev_c) op_I0 (fun _ => op_I0)))) fun _ => et_Test (ev_op (ev_cb (ea_cons (ev_v rfl) ea_nil) (cb_minl isR_v m1 m2)) (ev_c (v := .int 1)) (op_I0 (g := fun i j => .bl (decide (i < j)))))) (by rw [q1, q2]; simp)) (fun c3 σ F H s => ?_) (fun c3 σ F H s => ?_)
        · have c3 := of_decide_eq_true c3
          refine q_ret s (EvE.to ev_c ?_) k
          unfold hiS
          rw [hin, if_neg (fun z => by have := z.2.2.1 mn m1; omega)]
        · have c3 := of_decide_eq_false c3
          have c3' : ∀ a ∈ lsz w, 1 ≤ a := fun a ha => by have := m2 a ha; omega
          have c4' : ∀ a ∈ lsz w, a ≤ 60 := fun a ha => by
            obtain ⟨x, hx, rfl⟩ := List.mem_map.mp ha
            have := c3' (lawNum 60 x) ha
            have z := lawNum_pos (m := 60) (w := x) (by omega)
            omega
          refine q_set s (ev_c) fun σ F H s => ?_
          dsimp only [List.set, J.putS, List.nil_append, List.cons_append] at s
          refine q_forL s (ev_v rfl) (fun n d => ∃ e, d = [.v (sS w), .ow (lstO ((wtap w).map sS)), .v (bS (tapOf w)), .v (intsS (lsz w)), .v (iS (prodTo (lsz w) n)), e, .un]) ⟨_, rfl⟩ ?_ ?_
          · rintro F1 bs n T' δ' σ F H hT ⟨e, rfl⟩ s
            obtain ⟨a, ha, rfl⟩ := mapGet hT
            have b1 := c3' a (List.mem_of_getElem? ha)
            have b2 := c4' a (List.mem_of_getElem? ha)
            dsimp only [List.set, J.putS, List.nil_append, List.cons_append] at s
            refine q_set s (EvE.to (ev_op (by walk_at "ev") (by walk_at "ev") (op_I ?_)) rfl) fun σ F H s => ?_
            · exact .inr (by omega)
            exact q_nx s ⟨_, by rw [prodTo_succ ha]; rfl⟩
          · rintro δ' σ F H ⟨e, rfl⟩ s
            rw [List.length_map] at s
            refine q_ret s (ev_if (b := decide (prodTo (lsz w) (lsz w).length > 2000)) (et_Test (ev_op (ev_v rfl) ev_c op_I0)) (fun hb => EvE.to ev_c ?_) (fun hb => EvE.to (ev_tupN (ea_consV (ev_v rfl) (ea_consV (ev_v rfl) ea_nilV)) (Nat.le_of_ble_eq_true rfl)) ?_)) k
            · have hb := of_decide_eq_true hb
              unfold hiS
              rw [hin, if_neg (fun z => by have := z.2.2.2; omega)]
            · have hb := of_decide_eq_false hb
              unfold hiS
              rw [hin, if_pos ⟨c1, c2, c3', by omega⟩]
      · refine q_ifT s (EvT.to (et_or (et_Test (ev_op (EvO.b (eo_sll (ev_ow rfl) isR_b eo_none (eo_some ev_c))) (EvO.b (eo_lstN (ss := [jugsS].map sS) (ea_consV ev_c ea_nilV) (Nat.le_of_ble_eq_true rfl))) (jv_neSs (xs := [jugsS]) (by rw [e1, c1]; exact isR_b) isR_b wj wj))) fun _ => et_or (b := false) (et_not (et_Test (ev_chain ev_c (ev_cb (ea_cons (ev_v rfl) ea_nil) (cb_lenM isR_v)) (fun _ => ev_c) op_I0 (fun _ => op_I0)))) fun hb => by exfalso; simp at hb; omega) (by simp; omega)) rfl fun σ F H s => ?_
        refine q_ret s (EvE.to ev_c ?_) k
        unfold hiS
        rw [hin, if_neg (fun z => c2 z.2.1)]
    · refine q_ifT s (EvT.to (et_or (b := false) (et_Test (ev_op (EvO.b (eo_sll (ev_ow rfl) isR_b eo_none (eo_some ev_c))) (EvO.b (eo_lstN (ss := [jugsS].map sS) (ea_consV ev_c ea_nilV) (Nat.le_of_ble_eq_true rfl))) (jv_neSs (xs := (wtap w).take 1) (by rw [e1]; exact isR_b) isR_b wt wj))) fun hb => by exfalso; simp at hb; exact c1 hb) (by simp [c1])) rfl fun σ F H s => ?_
      refine q_ret s (EvE.to ev_c ?_) k
      unfold hiS
      rw [hin, if_neg (fun z => c1 z.1)]

end
end Jug


namespace Jug
open PySem PySem.Spec L2 PyProof.Rows J
section
variable {P : Program} {w : World} {K : PySem.W.Frag} {mg : Str → Option Value} {base : Heap} {C : Cs}
def R_writes : Rel := fun es r => ∃ w : Str, es = [.v (sS w)] ∧ w.length ≤ 30000 ∧ r = .v (bS (writesB w))
/-! ### _law_writes: slots 0:_law_text 1:_law_one 2:_law_words 3:_law_numbers 4:_law_right_here 5:_law_word -/
abbrev s__law_writes : Stmt := top 39
theorem sc__law_writes : FnScope ["_law_text", "_law_one", "_law_words", "_law_numbers", "_law_right_here", "_law_word"] ["_law_text"] (defScope s__law_writes) := ⟨rfl, rfl, rfl, by decide +kernel, rfl, by decide +kernel, by decide +kernel⟩
theorem ok__law_writes (T : Top K mg C) : CalX P w K mg base 2 "_law_writes" (SpOf R_writes) := by
  obtain ⟨f, fd, F, hm, hb⟩ := T.d__law_writes.ex
  refine ⟨f, fd, _, fn_ok F sc__law_writes (by walk_at "len") (fun cdv A outer s H E hr => ⟨_, (pss_cons (ps_if (pt_cmpR (ko_eq (K := K) rfl hr) (pv 0) pe_str (nomark _)) (pss_cons (ps_ret pe_bl) pss_nil) pss_nil) (pss_cons (ps_for (passes_of rfl) rfl (ki_any (K := K) rfl (ke_split (pv 0) pe_str)) (pg_name (i := 1) sc__law_writes.nd rfl (Or.inl rfl)) (pss_cons (ps_set (i := 2) sc__law_writes.nd rfl (Or.inl rfl) (ke_split (pv 1) pe_str)) (pss_cons (ps_setLc (i := 3) (own := [("_law_word", 5)]) (g := gName 5) rfl sc__law_writes.nd rfl rfl (sw_true rfl rfl rfl (by decide +kernel)) (ki_any (K := K) rfl (pe_slice (ko_sl (K := K) rfl) (pv 2) (po_some pe_int) po_none)) (blkOk_by (N := ["_law_text", "_law_one", "_law_words", "_law_numbers", "_law_right_here", "_law_word"]) (sc := defScope s__law_writes) (by decide +kernel)) (fun _ _ _ _ _ => pg_name (i := 5) sc__law_writes.nd rfl (Or.inl rfl)) (fun _ _ _ _ _ => pts_nil) (fun _ _ _ _ _ => (pe_cX (ok__law_number T) hr (by decide) passN (by rfl) (pa_cons (pv 5) (pa_cons pe_int pa_nil))))) (pss_cons (ps_set (i := 4) sc__law_writes.nd rfl (Or.inl rfl) (pe_and (pe_cmpR (ko_eq (K := K) rfl hr) (ke_ix (K := K) rfl hr (pv 2) pe_int (fun _ _ => rfl) (fun _ _ => rfl)) pe_str (nomark _)) (pe_and (pe_cmpR (ko_eq (K := K) rfl hr) (pe_callB (kc_len (K := K) rfl) (by rfl) T.n_len bt_len (pa_cons (pv 3) pa_nil)) pe_int (nomark _)) (pe_and (pe_cmpR op_ge (pe_callB (kc_min (K := K) rfl rfl) (by rfl) T.n_min bt_min (pa_cons (pv 3) pa_nil)) pe_int (nomark _)) (pe_one (pe_cmpR (ko_ne (K := K) rfl hr) (ke_ix (K := K) rfl hr (pv 3) pe_int (fun _ _ => rfl) (fun _ _ => rfl)) (ke_ix (K := K) rfl hr (pv 3) (pe_un un_neg pe_int) (fun _ _ => rfl) (fun _ _ => rfl)) (nomark _))))))) (pss_cons (ps_if (PW.pt (pw_and (kt_in (K := K) rfl hr (ke_ix (K := K) rfl hr (pv 2) pe_int (fun _ _ => rfl) (fun _ _ => rfl)) (pe_tup (pa_cons pe_str (pa_cons pe_str pa_nil))) (by rfl)) (pw_and1 (pt_cmpR (ko_eq (K := K) rfl hr) (pe_callB (kc_len (K := K) rfl) (by rfl) T.n_len bt_len (pa_cons (pv 3) pa_nil)) pe_int (nomark _))))) (pss_cons (ps_set (i := 4) sc__law_writes.nd rfl (Or.inl rfl) (pe_cmpR op_ge (ke_ix (K := K) rfl hr (pv 3) pe_int (fun _ _ => rfl) (fun _ _ => rfl)) pe_int (nomark _))) pss_nil) pss_nil) (pss_cons (ps_if (pt_not (pt_val (pv 4))) (pss_cons (ps_ret pe_bl) pss_nil) pss_nil) pss_nil)))))) (pss_cons (ps_ret pe_bl) pss_nil))), ?_⟩), hm, F.kp, hb⟩

  rintro es r F σ Q ⟨w, rfl, hw, rfl⟩ s k
  simp only [J.cx_K, List.length_cons, List.length_nil, List.cons_append, List.nil_append, Nat.reduceAdd, Nat.reduceSub, List.reduceReplicate, List.append_nil] at s ⊢
  have hl := parts_len w
  refine q_when s (et_Test (ev_op (ev_v rfl) (ev_c (v := .str sE)) jv_eqs)) (fun hb σ F H s => ?_) (fun hb σ F H s => ?_)
  · have hb := of_decide_eq_true hb
    refine q_ret s (EvE.to ev_c ?_) k
    unfold writesB
    rw [decide_eq_true hb]
    rfl
  · have hb := of_decide_eq_false hb
    have e0 : writesB w = (partsW w).all rightL := by unfold writesB; rw [decide_eq_false hb, Bool.false_or]
    rw [e0] at k
    refine q_forL s (EvO.v (eo_split (b := scS) (ev_v rfl) ev_c (by decide +kernel) (by omega))) (fun n d => (∀ x ∈ (partsW w).take n, rightL x = true) ∧ ∃ e1 e2 e3 e4, d = [.v (sS w), e1, e2, e3, e4, .un]) ⟨by simp, _, _, _, _, rfl⟩ ?_ ?_
    · rintro F1 bs n T' δ' σ F H hT ⟨hok, e1, e2, e3, e4, rfl⟩ s
      obtain ⟨o, ho, rfl⟩ := mapGet (l := partsW w) hT
      dsimp only [List.set, J.putS, List.nil_append, List.cons_append] at s
      have hol := parts_sub (List.mem_of_getElem? ho)
      have hl := wds_len o
      have hal : (argsW o).length ≤ (wds o).length := by unfold argsW; rw [List.length_drop]; omega
      have hsub : ∀ x ∈ argsW o, x.length ≤ 100000 := fun x hx => by have := wds_sub (args_sub hx); omega
      refine q_setO s (o := lstO ((wds o).map sS)) (eo_split (b := spS) (ev_v rfl) ev_c (by decide +kernel) (by omega)) fun σ F H s => ?_
      dsimp only [List.set, J.putS, List.nil_append, List.cons_append] at s
      refine q_setO s (o := lstO ((lns o).map iS)) (EvO.to (eo_lcM sS (argsW o) (fun x => iS (lawNum 3 x)) (EvO.b (EvO.to (eo_sll (ev_ow rfl) isR_b (eo_some ev_c) eo_none) (by rw [cut_args]))) isR_b (by omega) (fun x hx => ev_call (ea_cons (ev_v rfl) (ea_cons ev_c ea_nil)) ⟨x, 3, rfl, hsub x hx, rfl⟩)) (by unfold lns; rw [List.map_map]; rfl)) fun σ F H s => ?_
      dsimp only [List.set, J.putS, List.nil_append, List.cons_append] at s
      have hln : (lns o).length = (argsW o).length := List.length_map _
      have hlb : ∀ a ∈ lns o, -1 ≤ a := fun a ha => by
        obtain ⟨x, hx, rfl⟩ := List.mem_map.mp ha
        exact lawNum_bd 3 x
      have hr : rightL o = (if ((wds o).headD sE = fillS ∨ (wds o).headD sE = emptyS) ∧ (lns o).length = 1 then decide (0 ≤ am (lns o) 0)
        else decide ((wds o).headD sE = pourS ∧ (lns o).length = 2 ∧ 0 ≤ am (lns o) 0 ∧ 0 ≤ am (lns o) 1 ∧ am (lns o) 0 ≠ am (lns o) 1)) := rfl
      generalize hns : lns o = ns at s hr hlb
      have hg := head_get o
      generalize hhd : (wds o).headD sE = h at hr hg
      have hd : EvE (tIx K (tVar 2) (tC (.int 0))) [Ent.v (sS w), Ent.v (sS o), Ent.ow (lstO ((wds o).map sS)), Ent.ow (lstO (ns.map iS)), e4, Ent.un] (.v (sS h)) := ev_ix (ev_ow rfl) ev_c (jx_l isR_b (by decide) hg)
      have ln : EvE (tCB (rLenJ K) (tCons (tVar 3) tNil)) [Ent.v (sS w), Ent.v (sS o), Ent.ow (lstO ((wds o).map sS)), Ent.ow (lstO (ns.map iS)), e4, Ent.un] (.v (iS (ns.length : Int))) := ev_cb (ea_cons (ev_ow rfl) ea_nil) (cb_lenM isR_b)
      have nat2 : ∀ m : Nat, decide ((ns.length : Int) = (m : Int)) = decide (ns.length = m) := fun m => by
        rw [Bool.eq_iff_iff, decide_eq_true_eq, decide_eq_true_eq]
        omega
      have n2 : decide ((ns.length : Int) = 2) = decide (ns.length = 2) := nat2 2
      have n1 : decide ((ns.length : Int) = 1) = decide (ns.length = 1) := nat2 1
      refine q_set s (S := bS (decide (h = pourS ∧ ns.length = 2 ∧ 0 ≤ am ns 0 ∧ 0 ≤ am ns 1 ∧ am ns 0 ≠ am ns 1))) ?_ fun σ F H s => ?_
      · by_cases hp : h = pourS
        · by_cases h2 : ns.length = 2
          · match ns, h2, hlb with
            | [a, b], _, hlb =>
              have mm : min a b ∈ [a, b] := by
                rcases Int.le_total a b with q | q
                · rw [Int.min_eq_left q]; simp
                · rw [Int.min_eq_right q]; simp
              have mle : ∀ y ∈ [a, b], min a b ≤ y := by
                intro y hy
                simp only [List.mem_cons, List.not_mem_nil, or_false] at hy
                omega
              refine EvE.to (ev_and (ev_op (ev_ix (ev_ow rfl) ev_c (jx_l isR_b (by decide) hg)) (ev_c (v := .str pourS)) jv_eqs) fun _ => ev_and (ev_op (ev_cb (ea_cons (ev_ow rfl) ea_nil) (cb_lenM isR_b)) ev_c jv_eqi) fun _ => ev_and (ev_op (ev_cb (ea_cons (ev_ow rfl) ea_nil) (cb_minl isR_b mm mle)) (ev_c (v := .int 0)) (op_I0 (g := fun i j => .bl (decide (i ≥ j))))) fun _ => ev_op (ev_ix (ev_ow rfl) ev_c (jx_l isR_b (by decide) rfl)) (ev_ix (ev_ow rfl) (ev_un ev_c un_I) (jx_last isR_b rfl)) jv_nei) ?_
              rw [am0, am1]
              congr 2
              rw [Bool.eq_iff_iff]
              simp [hp]
              omega
          · refine EvE.to (ev_and (b := decide (((ns.length : Nat) : Int) = 2) && false) (ev_op (ev_ix (ev_ow rfl) ev_c (jx_l isR_b (by decide) hg)) (ev_c (v := .str pourS)) jv_eqs) fun _ => ev_and (b := false) (ev_op (ev_cb (ea_cons (ev_ow rfl) ea_nil) (cb_lenM isR_b)) (ev_c (v := .int 2)) jv_eqi) fun hb => by exfalso; have hb2 : ((ns.length : Nat) : Int) = 2 := of_decide_eq_true hb; omega) ?_
            simp [h2]
        · refine EvE.to (ev_and (b := false) (ev_op (ev_ix (ev_ow rfl) ev_c (jx_l isR_b (by decide) hg)) (ev_c (v := .str pourS)) jv_eqs) fun hb => absurd (of_decide_eq_true hb) hp) ?_
          simp [hp]
      · skip
        dsimp only [List.set, J.putS, List.nil_append, List.cons_append] at s
        refine q_join (b := decide ((h = fillS ∨ h = emptyS) ∧ ns.length = 1)) (δ' := [.v (sS w), .v (sS o), .ow (lstO ((wds o).map sS)), .ow (lstO (ns.map iS)), .v (bS (rightL o)), .un]) s (EvT.to (et_and (et_Test (ev_inS (xs := [fillS, emptyS]) (ev_ix (ev_ow rfl) ev_c (jx_l isR_b (by decide) hg)) (ev_tupN (ea_consV ev_c (ea_consV ev_c ea_nilV)) (Nat.le_of_ble_eq_true rfl)) isR_v)) fun _ => et_Test (ev_op (ev_cb (ea_cons (ev_ow rfl) ea_nil) (cb_lenM isR_b)) ev_c jv_eqi)) (by rw [n1]; simp)) (fun hb σ F H k2 s => ?_) (fun hb => ?_) (fun σ F H s => ?_)
        · have hb := of_decide_eq_true hb
          rw [if_pos hb] at hr
          match ns, hb.2, s, k2, hr with
          | [a], _, s, k2, hr =>
            refine q_set s (S := bS (rightL o)) (EvE.to (ev_op (ev_ix (ev_ow rfl) ev_c (jx_l isR_b (by decide) rfl)) (ev_c (v := .int 0)) (op_I0 (g := fun i j => .bl (decide (i ≥ j))))) (by rw [hr]; rfl)) fun σ F H s => ?_
            dsimp only [List.set, J.putS, List.nil_append, List.cons_append] at s
            exact k2 σ F H s
        · rw [hr, if_neg (of_decide_eq_false hb)]
        · refine q_when (b := !rightL o) s (et_not (et_B (ev_v rfl))) (fun hb σ F H s => ?_) (fun hb σ F H s => ?_)
          · have hb : rightL o = false := by simpa using hb
            refine q_ret s (EvE.to ev_c ?_) fun v F' H' g hv => k v F' H' (bs g) hv
            have e : (partsW w).all rightL = false := by
              cases q : (partsW w).all rightL with
              | false => rfl
              | true =>
                have := List.all_eq_true.mp q o (List.mem_of_getElem? ho)
                rw [hb] at this
                cases this
            rw [e]
          · have hb : rightL o = true := by simpa using hb
            refine q_nx s ⟨fun x hx => ?_, _, _, _, _, rfl⟩
            rw [List.take_add_one, ho] at hx
            rcases List.mem_append.mp hx with hx | hx
            · exact hok x hx
            · rw [List.mem_singleton.mp hx]
              exact hb
    · rintro δ' σ F H ⟨hok, e1, e2, e3, e4, rfl⟩ s
      rw [List.length_map] at hok
      have hok : ∀ x ∈ partsW w, rightL x = true := fun x hx => hok x (by rw [show (Txt.split w scS).length = (partsW w).length from rfl, List.take_length]; exact hx)
      refine q_ret s (EvE.to ev_c ?_) k
      rw [List.all_eq_true.mpr hok]
def R_refused (K : PySem.W.Frag) (C : Cs) : Rel := fun es r => ∃ f S, es = [.v (kS (.ref f)), .v S] ∧ ((f = C.vhouse_of ∧ R_house_of K C [.v S] (.x C.BadText)) ∨ (f = C.vroutine_of ∧ R_routine_of K C [.v S] (.x C.BadText))) ∧ r = .v (bS true)
/-! ### _law_refused: slots 0:_law_ask 1:_law_text 2:error 3:_law_others -/
abbrev s__law_refused : Stmt := top 40
theorem sc__law_refused : FnScope ["_law_ask", "_law_text", "error", "_law_others"] ["_law_ask", "_law_text"] (defScope s__law_refused) := ⟨rfl, rfl, rfl, by decide +kernel, rfl, by decide +kernel, by decide +kernel⟩
theorem ok__law_refused (T : Top K mg C) : CalX P w K mg base 7 "_law_refused" (SpOf (R_refused K C)) := by
  obtain ⟨f, fd, F, hm, hb⟩ := T.d__law_refused.ex
  refine ⟨f, fd, _, fn_ok F sc__law_refused (by walk_at "len") (fun cdv A outer s H E hr => ⟨_, (pss_cons (ps_tA (K := K) (i := 2) rfl rfl rfl sc__law_refused.nd rfl rfl (by rfl) T.x_JugError.g (fun W pn xe tk => (pss_cons (ps_expr (pe_or2 (pe_callLQ (i := 0) (ok_house_of T) T.v_house_of hr (by decide) rfl (Or.inl rfl) (px_trQ2 (n := 4) rfl tk) (pa_cons (pv 1) pa_nil)) (pe_callLQ (i := 0) (ok_routine_of T) T.v_routine_of hr (by decide) rfl (Or.inl rfl) (px_trQ2 (n := 4) rfl tk) (pa_cons (pv 1) pa_nil)))) pss_nil)) (fun a oe cls d pn z hd hot => pss_if (p := Value.ref C.BadText = cls ∧ none = d) (fun hp => (pss_cons (ps_set (i := 3) sc__law_refused.nd rfl (Or.inl rfl) (pe_lst (pa_cons (pe_callB (call_isE (D := C.BadText) T.ec_BadText (by have z2 := z; rw [← hp.1, ← hp.2] at z2; exact z2) hd) (by rfl) T.n_isinstance bt_isinstance (pa_cons (pv 2) (pa_cons (C8.pe_gc (by rfl) (exk T.x_BadGoal)) pa_nil))) (pa_cons (pe_callB (call_isE (D := C.BadText) T.ec_BadText (by have z2 := z; rw [← hp.1, ← hp.2] at z2; exact z2) hd) (by rfl) T.n_isinstance bt_isinstance (pa_cons (pv 2) (pa_cons (C8.pe_gc (by rfl) (exk T.x_BadHouse)) pa_nil))) (pa_cons (pe_callB (call_isE (D := C.BadText) T.ec_BadText (by have z2 := z; rw [← hp.1, ← hp.2] at z2; exact z2) hd) (by rfl) T.n_isinstance bt_isinstance (pa_cons (pv 2) (pa_cons (C8.pe_gc (by rfl) (exk T.x_BadMove)) pa_nil))) pa_nil))))) (pss_cons (ps_set (i := 3) sc__law_refused.nd rfl (Or.inl rfl) (pe_op (ko_add (K := K) rfl) (pv 3) (pe_lst (pa_cons (pe_callB (call_isE (D := C.BadText) T.ec_BadText (by have z2 := z; rw [← hp.1, ← hp.2] at z2; exact z2) hd) (by rfl) T.n_isinstance bt_isinstance (pa_cons (pv 2) (pa_cons (C8.pe_gc (by rfl) (exk T.x_BadState)) pa_nil))) (pa_cons (pe_not (pe_callB (call_isE (D := C.BadText) T.ec_BadText (by have z2 := z; rw [← hp.1, ← hp.2] at z2; exact z2) hd) (by rfl) T.n_isinstance bt_isinstance (pa_cons (pv 2) (pa_cons (pe_bltn (v := .ty "ValueError") (by rfl) T.n_ValueError bt_ValueError rfl) pa_nil)))) pa_nil))))) (pss_cons (ps_ret (pe_and (pe_callB (call_isE (D := C.BadText) T.ec_BadText (by have z2 := z; rw [← hp.1, ← hp.2] at z2; exact z2) hd) (by rfl) T.n_isinstance bt_isinstance (pa_cons (pv 2) (pa_cons (C8.pe_gc (by rfl) (exk T.x_BadText)) pa_nil))) (pe_one (pe_not (pe_callB (kc_anyQ (K := K) rfl hot) (by rfl) T.n_any bt_any (pa_cons (pv 3) pa_nil)))))) pss_nil)))))) (pss_cons (ps_ret pe_bl) pss_nil)), ?_⟩), hm, F.kp, hb⟩

  rintro es r F σ Q ⟨f, S, rfl, hf, rfl⟩ s k
  simp only [J.cx_K, List.length_cons, List.length_nil, List.cons_append, List.nil_append, Nat.reduceAdd, Nat.reduceSub, List.reduceReplicate, List.append_nil] at s ⊢
  have s0 := s
  have fin : ∀ F' H', Grow F H F' H' → ∀ (D : Ends), D.rt = Q → allS 4 (wAs K (.ref C.JugError) 2 (fun a cls d D σ H => (Value.ref C.BadText = cls ∧ none = d) ∧ tSeq (tAsg (tLst (tCons (tCB (rIsE K C.BadText a) (tCons (tVar 2) (tCons (tC (.ref C.BadGoal)) tNil))) (tCons (tCB (rIsE K C.BadText a) (tCons (tVar 2) (tCons (tC (.ref C.BadHouse)) tNil))) (tCons (tCB (rIsE K C.BadText a) (tCons (tVar 2) (tCons (tC (.ref C.BadMove)) tNil))) tNil)))) (gName 3)) (tSeq (tAsg (tOp (rAddJ K) (tVar 3) (tLst (tCons (tCB (rIsE K C.BadText a) (tCons (tVar 2) (tCons (tC (.ref C.BadState)) tNil))) (tCons (tNotV (tCB (rIsE K C.BadText a) (tCons (tVar 2) (tCons (tC (.ty "ValueError")) tNil)))) tNil)))) (gName 3)) (tSeq (tRet (tAndV (tCB (rIsE K C.BadText a) (tCons (tVar 2) (tCons (tC (.ref C.BadText)) tNil))) (tNotV (tCB (rAny K) (tCons (tVar 3) tNil))))) tNext)) D σ H) (fun _ _ _ _ => False) D) (.ref C.BadText) none H' := by
    intro F' H' g D hD σ' hl
    refine ⟨true, T.em_BadText_JugError, fun _ a ha => ⟨⟨rfl, rfl⟩, ?_⟩, fun z => by cases z⟩
    have s1 : St F H F' H' (σ'.set 2 (some (.ref a))) [.un, .un, .v (kS (.ref a)), .un] := (St.blank g (g.tt s0.tt) hl).set_v (i := 2) (v := .ref a) (S := kS (.ref a)) rfl
    have is_ : ∀ {δ : List Ent} {D : Addr} {b : Bool}, δ[2]? = some (.v (kS (.ref a))) → PySem.W.kitOne K (.ref C.BadText) (.ref D) = some b → EvE (tCB (rIsE K C.BadText a) (tCons (tVar 2) (tCons (tC (.ref D)) tNil))) δ (.v (bS b)) := fun h2 hb => ev_cb (ea_cons (ev_v h2) (ea_cons ev_c ea_nil)) (cb_isE hb)
    refine q_setO s1 (o := lstO ([false, false, false].map bS)) (eo_lstN (ss := [false, false, false].map bS) (ea_consV (is_ rfl T.isx_BadText_BadGoal) (ea_consV (is_ rfl T.isx_BadText_BadHouse) (ea_consV (is_ rfl T.isx_BadText_BadMove) ea_nilV))) (Nat.le_of_ble_eq_true rfl)) fun σ F H s => ?_
    dsimp only [List.set, J.putS, List.nil_append, List.cons_append] at s
    refine q_setO s (o := lstO ([false, false, false, false, false].map bS)) (EvO.to (eo_op (ev_ow rfl) (EvO.b (eo_lstN (ss := [false, false].map bS) (ea_consV (is_ rfl T.isx_BadText_BadState) (ea_consV (EvE.to (ev_not (ev_cb (ea_cons (ev_v rfl) (ea_cons ev_c ea_nil)) (cb_isEt T.isxv_BadText))) rfl) ea_nilV)) (Nat.le_of_ble_eq_true rfl))) (jo_addl isR_b isR_b (Nat.le_of_ble_eq_true rfl))) rfl) fun σ F H s => ?_
    dsimp only [List.set, J.putS, List.nil_append, List.cons_append] at s
    refine q_ret s (EvE.to (ev_and (is_ rfl T.isx_BadText_BadText) fun _ => ev_not (ev_cb (ea_cons (ev_ow rfl) ea_nil) (cb_any (bs := [false, false, false, false, false]) isR_b))) rfl) ?_
    intro v F2 H2 g2 hv
    rw [show _ = Q from hD]
    exact k v F2 H2 g2 hv
  refine q_tA ?_
  rcases hf with ⟨rfl, hR⟩ | ⟨rfl, hR⟩
  · exact q_dropX s (ex_orl (ex_callL rfl (ea_cons (ev_v rfl) ea_nil) hR)) fun F' H' g => fin F' H' g _ rfl
  · exact q_dropX s (ex_orr (ex_callL rfl (ea_cons (ev_v rfl) ea_nil) hR)) fun F' H' g => fin F' H' g _ rfl

end
end Jug


namespace Jug
open PySem PySem.Spec L2 PyProof.Rows J
section
variable {P : Program} {w : World} {K : PySem.W.Frag} {mg : Str → Option Value} {base : Heap} {C : Cs}
def R_right : Rel := fun es r => ∃ w : Str, es = [.v (sS w)] ∧ (w.length ≤ 30000 ∧ wf w) ∧ r = .v (bS true)
/-! ### _law_right: slots 0:_law_text 1:_law_due 2:_law_house -/
abbrev s__law_right : Stmt := top 41
theorem sc__law_right : FnScope ["_law_text", "_law_due", "_law_house"] ["_law_text"] (defScope s__law_right) := ⟨rfl, rfl, rfl, by decide +kernel, rfl, by decide +kernel, by decide +kernel⟩
theorem ok__law_right (T : Top K mg C) : CalX P w K mg base 8 "_law_right" (SpOf R_right) := by
  obtain ⟨f, fd, F, hm, hb⟩ := T.d__law_right.ex
  refine ⟨f, fd, _, fn_ok F sc__law_right (by walk_at "len") (fun cdv A outer s H E hr => ⟨_, (pss_cons (ps_set (i := 1) sc__law_right.nd rfl (Or.inl rfl) (pe_cX (ok__law_house_in T) hr (by decide) px_of (by rfl) (pa_cons (pv 0) pa_nil))) (pss_cons (ps_if (pt_cmpR op_isN (pv 1) pe_non (nomark _)) (pss_cons (ps_if (pt_not (pt_val (pe_cX (ok__law_refused T) hr (by decide) px_of (by rfl) (pa_cons (C8.pe_gc (by rfl) T.v_house_of) (pa_cons (pv 0) pa_nil))))) (pss_cons (ps_ret pe_bl) pss_nil) pss_nil) pss_nil) (pss_cons (ps_set (i := 2) sc__law_right.nd rfl (Or.inl rfl) (pe_cQ (ok_house_of T) hr (by decide) (by rfl) (pa_cons (pv 0) pa_nil))) (pss_cons (ps_if (PW.pt (pw_or (pt_cmpR (ko_ne (K := K) rfl hr) (pe_mtX0 (ok_House_sizes T T.m_House_sizes) hr (by decide) px_of (pv 2)) (ke_ix (K := K) rfl hr (pv 1) pe_int (fun _ _ => rfl) (fun _ _ => rfl)) (nomark _)) (pw_or (pt_cmpR (ko_ne (K := K) rfl hr) (ke_fld (K := K) rfl (pv 2) rfl) (ke_ix (K := K) rfl hr (pv 1) pe_int (fun _ _ => rfl) (fun _ _ => rfl)) (nomark _)) (pw_or1 (pt_cmpR (ko_ne (K := K) rfl hr) (pe_cX (ok_house_text T) hr (by decide) px_of (by rfl) (pa_cons (pv 2) pa_nil)) (pv 0) (nomark _)))))) (pss_cons (ps_ret pe_bl) pss_nil) pss_nil) pss_nil))) (pss_cons (ps_if (pt_not (pt_val (pe_cX (ok__law_writes T) hr (by decide) px_of (by rfl) (pa_cons (pv 0) pa_nil)))) (pss_cons (ps_ret (pe_cX (ok__law_refused T) hr (by decide) px_of (by rfl) (pa_cons (C8.pe_gc (by rfl) T.v_routine_of) (pa_cons (pv 0) pa_nil)))) pss_nil) pss_nil) (pss_cons (ps_ret (pe_cmpR (ko_eq (K := K) rfl hr) (pe_cX (ok_routine_text T) hr (by decide) px_of (by rfl) (pa_cons (pe_cQ (ok_routine_of T) hr (by decide) (by rfl) (pa_cons (pv 0) pa_nil)) pa_nil)) (pv 0) (nomark _))) pss_nil)))), ?_⟩), hm, F.kp, hb⟩

  rintro es r F σ Q ⟨w, rfl, ⟨hw, hwf⟩, rfl⟩ s k
  simp only [J.cx_K, List.length_cons, List.length_nil, List.cons_append, List.nil_append, Nat.reduceAdd, Nat.reduceSub, List.reduceReplicate, List.append_nil] at s ⊢
  refine q_set s (ev_call (ea_cons (ev_v rfl) ea_nil) ⟨w, rfl, ⟨hw, hwf⟩, rfl⟩) fun σ F H s => ?_
  dsimp only [List.set, J.putS, List.nil_append, List.cons_append] at s
  cases hin : houseIn w with
  | none =>
    have e : hiS w = nS := by unfold hiS; rw [hin]
    rw [e] at s
    refine q_ifT s (et_Test (ev_op (ev_v rfl) ev_c op_isNn)) rfl fun σ F H s => ?_
    refine q_whenF s (et_not (et_B (ev_call (ea_cons ev_c (ea_cons (ev_v rfl) ea_nil)) ⟨_, _, rfl, .inl ⟨rfl, _, rfl, .inl ⟨w, rfl, hw, by unfold resH; rw [hin]⟩⟩, rfl⟩))) rfl fun σ F H s => ?_
    refine q_thru ?_
    refine q_when (b := !writesB w) s (et_not (et_B (ev_call (ea_cons (ev_v rfl) ea_nil) ⟨w, rfl, hw, rfl⟩))) (fun hb σ F H s => ?_) (fun hb σ F H s => ?_)
    · have hb : writesB w = false := by simpa using hb
      exact q_ret s (ev_call (ea_cons ev_c (ea_cons (ev_v rfl) ea_nil)) ⟨_, _, rfl, .inr ⟨rfl, _, rfl, .inl ⟨w, rfl, hw, .inr ⟨hb, rfl⟩⟩⟩, rfl⟩) k
    · have hb : writesB w = true := by simpa using hb
      have rb := routine_back hb
      have hm : (movesW w).length ≤ 30001 := by
        have := parts_len w
        unfold movesW
        split
        · simp
        · rw [List.length_map]; omega
      refine q_ret s (EvE.to (ev_op (ev_call (ea_cons (EvO.b (eo_call (ea_cons (ev_v rfl) ea_nil) ⟨_, rfl, .inl ⟨w, rfl, hw, .inl ⟨hb, rfl⟩⟩⟩)) ea_nil) ⟨movesW w, rfl, ⟨rb.1, hm⟩, rfl⟩) (ev_v rfl) jv_eqs) ?_) k
      rw [rb.2, decide_eq_true rfl]
  | some p =>
    obtain ⟨z, t⟩ := p
    have hb := house_back hin
    have e : hiS w = tupS [intsS z, bS t] := by unfold hiS; rw [hin]
    rw [e] at s
    refine q_ifF s (et_Test (ev_op (ev_v rfl) ev_c op_isNt)) rfl fun σ F H s => ?_
    refine q_set s (S := houseS C z t) (ev_call (ea_cons (ev_v rfl) ea_nil) ⟨_, rfl, .inl ⟨w, rfl, hw, by unfold resH; rw [hin]⟩⟩) fun σ F H s => ?_
    dsimp only [List.set, J.putS, List.nil_append, List.cons_append] at s
    have hi0 : EvE (tIx K (tVar 1) (tC (.int 0))) [Ent.v (sS w), Ent.v (tupS [intsS z, bS t]), Ent.v (houseS C z t)] (.v (intsS z)) := ev_ix (ev_v rfl) ev_c (jx_ts isR_v (by decide) rfl)
    have hi1 : EvE (tIx K (tVar 1) (tC (.int 1))) [Ent.v (sS w), Ent.v (tupS [intsS z, bS t]), Ent.v (houseS C z t)] (.v (bS t)) := ev_ix (ev_v rfl) ev_c (jx_ts isR_v (by decide) rfl)
    refine q_whenF (b := false) s (EvT.to (et_or (et_Test (ev_op (EvO.b (eo_meth (ev_v rfl) rfl ea_nil ⟨z, t, rfl, rfl⟩)) hi0 (jv_neSame (dat_il isR_b) (dat_il isR_v)))) fun _ => et_or (et_Test (ev_op (ev_fld (fs := hoF z t) (ev_v rfl) isR_v T.f_House_tap (by walk_at "lk")) hi1 jv_neb)) fun _ => et_Test (ev_op (ev_call (ea_cons (ev_v rfl) ea_nil) ⟨z, t, rfl, hb.1, rfl⟩) (ev_v rfl) jv_nes)) (by rw [hb.2.2]; simp)) rfl fun σ F H s => ?_
    refine q_thru ?_
    refine q_when (b := !writesB w) s (et_not (et_B (ev_call (ea_cons (ev_v rfl) ea_nil) ⟨w, rfl, hw, rfl⟩))) (fun hb σ F H s => ?_) (fun hb σ F H s => ?_)
    · have hb : writesB w = false := by simpa using hb
      exact q_ret s (ev_call (ea_cons ev_c (ea_cons (ev_v rfl) ea_nil)) ⟨_, _, rfl, .inr ⟨rfl, _, rfl, .inl ⟨w, rfl, hw, .inr ⟨hb, rfl⟩⟩⟩, rfl⟩) k
    · have hb : writesB w = true := by simpa using hb
      have rb := routine_back hb
      have hm : (movesW w).length ≤ 30001 := by
        have := parts_len w
        unfold movesW
        split
        · simp
        · rw [List.length_map]; omega
      refine q_ret s (EvE.to (ev_op (ev_call (ea_cons (EvO.b (eo_call (ea_cons (ev_v rfl) ea_nil) ⟨_, rfl, .inl ⟨w, rfl, hw, .inl ⟨hb, rfl⟩⟩⟩)) ea_nil) ⟨movesW w, rfl, ⟨rb.1, hm⟩, rfl⟩) (ev_v rfl) jv_eqs) ?_) k
      rw [rb.2, decide_eq_true rfl]

end
end Jug


namespace Jug
open PySem PySem.Spec L2 PyProof.Rows J
section
variable {P : Program} {w : World} {K : PySem.W.Frag} {mg : Str → Option Value} {base : Heap} {C : Cs}
def strL (l : List String) : List Str := l.map Str.ofString
def few1 : List Str := strL ["", " ", "jugs", "jugs ", "jugs tap", "jugs 0", "jugs 61", "jugs 60", "jugs 05", "jugs 3  5"]
def few2 : List Str := strL ["jugs 3 5 ", " jugs 3", "Jugs 3", "jugs 3 tap ", "jugs 3 Tap", "jugs 3 tap tap", "jugs tap 3"]
def few3 : List Str := strL ["jugs 3,5", "jugs -3", "jugs 1 1 1 1", "jugs 1 1 1 1 1", "jugs 60 60", "jugs 44 43"]
def few4 : List Str := strL ["jugs 43 45", "jugs 60 31", "jugs 60 32"]
def few5 : List Str := strL ["pour 0 0", "pour 0 4", "pour 0", "pour 0 1 2", "pour 00 1", "fill 3", "fill 4", "fill", "fill 0 1"]
def few6 : List Str := strL ["empty 0; ", "; empty 0", "empty 0;fill 1", "empty 0; fill 1", "empty  0", "Empty 0", "pour 0 -1"]
def few7 : List Str := [Str.ofString "jugs " ++ Txt.mul (Str.ofString "9") 4000, Str.ofString "fill " ++ Txt.mul (Str.ofString "1") 4000]
def few8 : List Str := strL ["fill +1", "fill 1_0", "fill\t1", "pour 10 1", "jugs 3\ttap"]
def fewL : List Str := few1 ++ few2 ++ few3 ++ few4 ++ few5 ++ few6 ++ few7 ++ few8
def okT (w : Str) : Prop := w.length ≤ 30000 ∧ wf w
instance (w : Str) : Decidable (okT w) := by unfold okT; exact inferInstance
theorem few_ok1 : ∀ w ∈ few1 ++ few2 ++ few3 ++ few4 ++ few5 ++ few6 ++ few8, okT w := by decide +kernel
theorem mul_len {z : Str} (hz : z.length = 1) : (Txt.mul z 4000).length = 4000 := by
  have z2 := PyProof.Rows.len_mul z 4000
  rw [hz, if_neg (by decide)] at z2
  omega
theorem len5 : (Str.ofString "jugs ").length = 5 ∧ (Str.ofString "fill ").length = 5 ∧ (Str.ofString "9").length = 1 ∧ (Str.ofString "1").length = 1 := by decide +kernel
theorem okT_app {a b : Str} (ha : a.length + b.length ≤ 30000) (wa : wf a) (wb : wf b) : okT (a ++ b) := by
  refine ⟨by rw [app_len]; exact ha, wf_iff.mpr fun c hc => ?_⟩
  rw [TL.tl_append] at hc
  rcases List.mem_append.mp hc with hc | hc
  · exact wf_iff.mp wa c hc
  · exact wf_iff.mp wb c hc
theorem fold_all {P : Nat → Prop} {a : Array Nat} (ha : ∀ c ∈ a.toList, P c) : ∀ (n : Nat) (acc : Array Nat), (∀ c ∈ acc.toList, P c) → ∀ c ∈ ((List.replicate n a).foldl (· ++ ·) acc).toList, P c
  | 0, _, h => h
  | n + 1, acc, h => by
    rw [List.replicate_succ, List.foldl_cons]
    refine fold_all ha n _ fun c hc => ?_
    rw [Array.toList_append] at hc
    exact (List.mem_append.mp hc).elim (h c) (ha c)
theorem mul_wf {z : Str} {n : Int} (h : wf z) : wf (Txt.mul z n) := by
  refine wf_iff.mpr ?_
  have hz := wf_iff.mp h
  unfold Txt.mul
  split
  · intro c hc
    cases hc
  · split
    · exact hz
    · exact fold_all hz _ _ (fun c hc => by cases hc)
theorem few_ok7 : ∀ w ∈ few7, okT w := by
  intro w hw
  have l := len5
  unfold few7 at hw
  rcases List.mem_cons.mp hw with rfl | hw
  · exact okT_app (by rw [mul_len l.2.2.1, l.1]; decide) (by decide +kernel) (mul_wf (by decide +kernel))
  · rw [List.mem_singleton.mp hw]
    exact okT_app (by rw [mul_len l.2.2.2, l.2.1]; decide) (by decide +kernel) (mul_wf (by decide +kernel))
theorem few_ok : ∀ w ∈ fewL, okT w := by
  intro w hw
  have h1 := few_ok1 w
  have h7 := few_ok7 w
  unfold fewL at hw
  simp only [List.mem_append] at hw h1
  rcases hw with (((((((h | h) | h) | h) | h) | h) | h) | h)
  · exact h1 (.inl (.inl (.inl (.inl (.inl (.inl h))))))
  · exact h1 (.inl (.inl (.inl (.inl (.inl (.inr h))))))
  · exact h1 (.inl (.inl (.inl (.inl (.inr h)))))
  · exact h1 (.inl (.inl (.inl (.inr h))))
  · exact h1 (.inl (.inl (.inr h)))
  · exact h1 (.inl (.inr h))
  · exact h7 h
  · exact h1 (.inr h)
theorem fl : few1.length = 10 ∧ few2.length = 7 ∧ few3.length = 6 ∧ few4.length = 3 ∧ few5.length = 9 ∧ few6.length = 7 ∧ few7.length = 2 ∧ few8.length = 5 := ⟨rfl, rfl, rfl, rfl, rfl, rfl, rfl, rfl⟩
def R_few : Rel := fun es r => es = [] ∧ r = .o (lstO (fewL.map sS))
/-! ### _law_few: slots 0:_law_some -/
abbrev s__law_few : Stmt := top 42
theorem sc__law_few : FnScope ["_law_some"] [] (defScope s__law_few) := ⟨rfl, rfl, rfl, by decide +kernel, rfl, by decide +kernel, by decide +kernel⟩
theorem ok__law_few (T : Top K mg C) : CalX P w K mg base 1 "_law_few" (SpOf R_few) := by
  obtain ⟨f, fd, F, hm, hb⟩ := T.d__law_few.ex
  refine ⟨f, fd, _, fn_ok F sc__law_few (by walk_at "len") (fun cdv A outer s H E hr => ⟨_, (pss_cons (ps_set (i := 0) sc__law_few.nd rfl (Or.inl rfl) (pe_lst (pa_cons pe_str (pa_cons pe_str (pa_cons pe_str (pa_cons pe_str (pa_cons pe_str (pa_cons pe_str (pa_cons pe_str (pa_cons pe_str (pa_cons pe_str (pa_cons pe_str pa_nil)))))))))))) (pss_cons (ps_set (i := 0) sc__law_few.nd rfl (Or.inl rfl) (pe_op (ko_add (K := K) rfl) (pv 0) (pe_lst (pa_cons pe_str (pa_cons pe_str (pa_cons pe_str (pa_cons pe_str (pa_cons pe_str (pa_cons pe_str (pa_cons pe_str pa_nil)))))))))) (pss_cons (ps_set (i := 0) sc__law_few.nd rfl (Or.inl rfl) (pe_op (ko_add (K := K) rfl) (pv 0) (pe_lst (pa_cons pe_str (pa_cons pe_str (pa_cons pe_str (pa_cons pe_str (pa_cons pe_str (pa_cons pe_str pa_nil))))))))) (pss_cons (ps_set (i := 0) sc__law_few.nd rfl (Or.inl rfl) (pe_op (ko_add (K := K) rfl) (pv 0) (pe_lst (pa_cons pe_str (pa_cons pe_str (pa_cons pe_str pa_nil)))))) (pss_cons (ps_set (i := 0) sc__law_few.nd rfl (Or.inl rfl) (pe_op (ko_add (K := K) rfl) (pv 0) (pe_lst (pa_cons pe_str (pa_cons pe_str (pa_cons pe_str (pa_cons pe_str (pa_cons pe_str (pa_cons pe_str (pa_cons pe_str (pa_cons pe_str (pa_cons pe_str pa_nil)))))))))))) (pss_cons (ps_set (i := 0) sc__law_few.nd rfl (Or.inl rfl) (pe_op (ko_add (K := K) rfl) (pv 0) (pe_lst (pa_cons pe_str (pa_cons pe_str (pa_cons pe_str (pa_cons pe_str (pa_cons pe_str (pa_cons pe_str (pa_cons pe_str pa_nil)))))))))) (pss_cons (ps_set (i := 0) sc__law_few.nd rfl (Or.inl rfl) (pe_op (ko_add (K := K) rfl) (pv 0) (pe_lst (pa_cons (pe_op (ko_add (K := K) rfl) pe_str (pe_op jo_muls pe_str pe_int)) (pa_cons (pe_op (ko_add (K := K) rfl) pe_str (pe_op jo_muls pe_str pe_int)) pa_nil))))) (pss_cons (ps_ret (pe_op (ko_add (K := K) rfl) (pv 0) (pe_lst (pa_cons pe_str (pa_cons pe_str (pa_cons pe_str (pa_cons pe_str (pa_cons pe_str pa_nil)))))))) pss_nil)))))))), ?_⟩), hm, F.kp, hb⟩

  rintro es r F σ Q ⟨rfl, rfl⟩ s k
  simp only [J.cx_K, List.length_cons, List.length_nil, List.cons_append, List.nil_append, Nat.reduceAdd, Nat.reduceSub, List.reduceReplicate, List.append_nil] at s ⊢
  have l := len5
  obtain ⟨l1, l2, l3, l4, l5, l6, l7, l8⟩ := fl
  refine q_setO s (o := lstO (few1.map sS)) (eo_lstN (ss := few1.map sS) (ea_consV ev_c (ea_consV ev_c (ea_consV ev_c (ea_consV ev_c (ea_consV ev_c (ea_consV ev_c (ea_consV ev_c (ea_consV ev_c (ea_consV ev_c (ea_consV ev_c ea_nilV)))))))))) (by rw [List.length_map]; omega)) fun σ F H s => ?_
  dsimp only [List.set, J.putS, List.nil_append, List.cons_append] at s
  refine q_setO s (o := lstO ((few1 ++ few2).map sS)) (EvO.to (eo_op (ev_ow rfl) (EvO.b (eo_lstN (ss := few2.map sS) (ea_consV ev_c (ea_consV ev_c (ea_consV ev_c (ea_consV ev_c (ea_consV ev_c (ea_consV ev_c (ea_consV ev_c ea_nilV))))))) (by rw [List.length_map]; omega))) (jo_addl (ts := few2.map sS) isR_b isR_b (by simp only [List.length_map, List.length_append]; omega))) (by rw [← List.map_append])) fun σ F H s => ?_
  dsimp only [List.set, J.putS, List.nil_append, List.cons_append] at s
  refine q_setO s (o := lstO ((few1 ++ few2 ++ few3).map sS)) (EvO.to (eo_op (ev_ow rfl) (EvO.b (eo_lstN (ss := few3.map sS) (ea_consV ev_c (ea_consV ev_c (ea_consV ev_c (ea_consV ev_c (ea_consV ev_c (ea_consV ev_c ea_nilV)))))) (by rw [List.length_map]; omega))) (jo_addl (ts := few3.map sS) isR_b isR_b (by simp only [List.length_map, List.length_append]; omega))) (by rw [← List.map_append])) fun σ F H s => ?_
  dsimp only [List.set, J.putS, List.nil_append, List.cons_append] at s
  refine q_setO s (o := lstO ((few1 ++ few2 ++ few3 ++ few4).map sS)) (EvO.to (eo_op (ev_ow rfl) (EvO.b (eo_lstN (ss := few4.map sS) (ea_consV ev_c (ea_consV ev_c (ea_consV ev_c ea_nilV))) (by rw [List.length_map]; omega))) (jo_addl (ts := few4.map sS) isR_b isR_b (by simp only [List.length_map, List.length_append]; omega))) (by rw [← List.map_append])) fun σ F H s => ?_
  dsimp only [List.set, J.putS, List.nil_append, List.cons_append] at s
  refine q_setO s (o := lstO ((few1 ++ few2 ++ few3 ++ few4 ++ few5).map sS)) (EvO.to (eo_op (ev_ow rfl) (EvO.b (eo_lstN (ss := few5.map sS) (ea_consV ev_c (ea_consV ev_c (ea_consV ev_c (ea_consV ev_c (ea_consV ev_c (ea_consV ev_c (ea_consV ev_c (ea_consV ev_c (ea_consV ev_c ea_nilV))))))))) (by rw [List.length_map]; omega))) (jo_addl (ts := few5.map sS) isR_b isR_b (by simp only [List.length_map, List.length_append]; omega))) (by rw [← List.map_append])) fun σ F H s => ?_
  dsimp only [List.set, J.putS, List.nil_append, List.cons_append] at s
  refine q_setO s (o := lstO ((few1 ++ few2 ++ few3 ++ few4 ++ few5 ++ few6).map sS)) (EvO.to (eo_op (ev_ow rfl) (EvO.b (eo_lstN (ss := few6.map sS) (ea_consV ev_c (ea_consV ev_c (ea_consV ev_c (ea_consV ev_c (ea_consV ev_c (ea_consV ev_c (ea_consV ev_c ea_nilV))))))) (by rw [List.length_map]; omega))) (jo_addl (ts := few6.map sS) isR_b isR_b (by simp only [List.length_map, List.length_append]; omega))) (by rw [← List.map_append])) fun σ F H s => ?_
  dsimp only [List.set, J.putS, List.nil_append, List.cons_append] at s
  refine q_setO s (o := lstO ((few1 ++ few2 ++ few3 ++ few4 ++ few5 ++ few6 ++ few7).map sS)) (EvO.to (eo_op (ev_ow rfl) (EvO.b (eo_lstN (ss := few7.map sS) (ea_consV (ev_op ev_c (ev_op ev_c (ev_c (v := .int 4000)) (jv_muls (k := 4000) (by decide +kernel) (by omega))) (jv_adds (by rw [show Txt.mul (Str.ofString "9") ((4000 : Nat) : Int) = Txt.mul (Str.ofString "9") 4000 from rfl, mul_len l.2.2.1, l.1]; decide))) (ea_consV (ev_op ev_c (ev_op ev_c (ev_c (v := .int 4000)) (jv_muls (k := 4000) (by decide +kernel) (by omega))) (jv_adds (by rw [show Txt.mul (Str.ofString "1") ((4000 : Nat) : Int) = Txt.mul (Str.ofString "1") 4000 from rfl, mul_len l.2.2.2, l.2.1]; decide))) ea_nilV)) (by rw [List.length_map]; omega))) (jo_addl (ts := few7.map sS) isR_b isR_b (by simp only [List.length_map, List.length_append]; omega))) (by rw [← List.map_append])) fun σ F H s => ?_
  dsimp only [List.set, J.putS, List.nil_append, List.cons_append] at s
  exact q_retO s (EvO.to (eo_op (ev_ow rfl) (EvO.b (eo_lstN (ss := few8.map sS) (ea_consV ev_c (ea_consV ev_c (ea_consV ev_c (ea_consV ev_c (ea_consV ev_c ea_nilV))))) (by rw [List.length_map]; omega))) (jo_addl (ts := few8.map sS) isR_b isR_b (by simp only [List.length_map, List.length_append]; omega))) (by rw [← List.map_append]; rfl)) k

end
end Jug


namespace Jug
open PySem PySem.Spec L2 PyProof.Rows J
section
variable {P : Program} {w : World} {K : PySem.W.Frag} {mg : Str → Option Value} {base : Heap} {C : Cs}
theorem ev_lend {te : TE} {δ : List Ent} {o : Own} (h : EvE te δ (.v (refS o))) : EvE te δ (.bo o) := fun F0 H0 F H σ s Q q => h F0 H0 F H σ s Q fun v F' H' g ⟨a, ho, e, hf, z⟩ => q v F' H' g ⟨a, ho, e, (s.grow g).fh a _ hf, z⟩
theorem St.drop {F0 H0 F H : Hp} {σ : L2.St} {δ : List Ent} (s : J.St F0 H0 F H σ δ) (i : Nat) : J.St F0 H0 F H σ (δ.set i .un) := by
  by_cases hi : i < σ.length
  · have z := s.set_un (i := i) σ[i]
    rw [List.set_getElem_self] at z
    exact z
  · rw [List.set_eq_of_length_le (by rw [← s.len]; omega)]
    exact s
def goodM : Mv → Prop
  | .pour i j => (i < 4 ∧ j < 4) ∧ i ≠ j
  | .fill i => i < 4
  | .empty i => i < 4
theorem good_small {m : Mv} (h : goodM m) : small m := by
  cases m with
  | pour i j => exact h.1
  | fill i => exact h
  | empty i => exact h
theorem all_good {n : Nat} {t : Bool} {m : Mv} (hn : n ≤ 4) (h : m ∈ allMoves n t) : goodM m := by
  unfold allMoves at h
  rcases List.mem_append.mp h with h | h
  · unfold pours at h
    obtain ⟨i, hi, h⟩ := List.mem_flatMap.mp h
    unfold poursOf at h
    obtain ⟨j, hj, rfl⟩ := List.mem_map.mp h
    obtain ⟨hj, hne⟩ := List.mem_filter.mp hj
    have hi := List.mem_range.mp hi
    have hj := List.mem_range.mp hj
    refine ⟨⟨by omega, by omega⟩, ?_⟩
    rintro rfl
    simp at hne
  · cases t with
    | false => rw [if_neg Bool.false_ne_true] at h; cases h
    | true =>
      rw [if_pos rfl] at h
      rcases List.mem_append.mp h with h | h
      · obtain ⟨j, hj, rfl⟩ := List.mem_map.mp h
        have hj := List.mem_range.mp hj
        show j < 4
        omega
      · obtain ⟨j, hj, rfl⟩ := List.mem_map.mp h
        have hj := List.mem_range.mp hj
        show j < 4
        omega
theorem good_right {m : Mv} (h : goodM m) : rightL (mtext m) = true ∧ 59 ∉ TL.tl (mtext m) ∧ okT (mtext m) := by
  cases m with
  | pour i j =>
    have : ∀ i < 4, ∀ j < 4, i ≠ j → rightL (mtext (.pour i j)) = true ∧ 59 ∉ TL.tl (mtext (.pour i j)) ∧ okT (mtext (.pour i j)) := by decide +kernel
    exact this i h.1.1 j h.1.2 h.2
  | fill i =>
    have : ∀ i < 4, rightL (mtext (.fill i)) = true ∧ 59 ∉ TL.tl (mtext (.fill i)) ∧ okT (mtext (.fill i)) := by decide +kernel
    exact this i h
  | empty i =>
    have : ∀ i < 4, rightL (mtext (.empty i)) = true ∧ 59 ∉ TL.tl (mtext (.empty i)) ∧ okT (mtext (.empty i)) := by decide +kernel
    exact this i h
theorem sc_tl : TL.tl scS = [59, 32] := by decide +kernel
theorem writes_rtext {ms : List Mv} (h : ∀ m ∈ ms, goodM m) : writesB (rtext ms) = true := by
  cases hm : ms with
  | nil => decide +kernel
  | cons a l =>
    rw [← hm]
    have e : partsW (rtext ms) = ms.map mtext := TL.split_join (y := scS) (s := 59) (S := [32]) sc_tl sc_ok.2 (by rw [hm]; simp) fun p hp => by
      obtain ⟨m, hm, rfl⟩ := List.mem_map.mp hp
      exact (good_right (h m hm)).2.1
    unfold writesB
    rw [e, List.all_eq_true.mpr fun p hp => by
      obtain ⟨m, hm, rfl⟩ := List.mem_map.mp hp
      exact (good_right (h m hm)).1, Bool.or_true]
theorem join_ok {y : Str} (hy : wf y) : ∀ parts : List Str, (∀ p ∈ parts, wf p) → wf (Str.join y parts)
  | [], _ => show wf Str.empty by decide +kernel
  | [p], h => h p (by simp)
  | p :: q :: r, h => by
    have ih := join_ok hy (q :: r) fun x hx => h x (List.mem_cons_of_mem _ hx)
    have e : TL.tl (Str.join y (p :: q :: r)) = TL.tl p ++ TL.tl y ++ TL.tl (Str.join y (q :: r)) := by
      show TL.tl (p ++ y ++ Str.join y (q :: r)) = _
      rw [TL.tl_append, TL.tl_append]
    refine wf_iff.mpr fun c hc => ?_
    rw [e] at hc
    rcases List.mem_append.mp hc with hc | hc
    · rcases List.mem_append.mp hc with hc | hc
      · exact wf_iff.mp (h p List.mem_cons_self) c hc
      · exact wf_iff.mp hy c hc
    · exact wf_iff.mp ih c hc
theorem rtext_ok {ms : List Mv} (h : ∀ m ∈ ms, goodM m) (hl : ms.length ≤ 6) : (rtext ms).length ≤ 100 ∧ wf (rtext ms) := by
  have e : rtext ms = Str.join scS (ms.map mtext) := TL.join_eq _ _
  rw [e]
  constructor
  · have z := StrLaws.join_length_le scS (ms.map mtext)
    have s := sum_le fun m hm => good_small (h m hm)
    rw [List.length_map, sp_len.2] at z
    omega
  · exact join_ok (by decide +kernel) _ fun p hp => by
      obtain ⟨m, hm, rfl⟩ := List.mem_map.mp hp
      exact (good_right (h m hm)).2.2.2
theorem strI_wf {a : Int} (h : 0 ≤ a ∧ a ≤ 99) : wf (strI a) := by
  have : ∀ i < 100, wf (strI ((i : Nat) : Int)) := by decide +kernel
  have e : a = ((a.toNat : Nat) : Int) := (Int.toNat_of_nonneg h.1).symm
  rw [e]
  exact this a.toNat (by omega)
theorem first_join {z : List Int} (h : HouseOk z) : (Txt.join spS ([jugsS] ++ z.map strI)).length ≤ 50 := by
  have h1 := sum2 (z := z) fun a ha => by have := h.sz a ha; omega
  have h2 := h.l4
  have e1 : jugsS.length = 4 := by decide +kernel
  have z2 := StrLaws.join_length_le spS ([jugsS] ++ z.map strI)
  rw [TL.join_eq]
  simp only [List.map_append, List.map_cons, List.map_nil, List.sum_append, List.sum_cons, List.sum_nil, List.length_append, List.length_cons, List.length_nil, List.length_map, sp_len.1, e1] at z2
  omega
theorem join_snoc {y x : Str} : ∀ {l : List Str}, l ≠ [] → Str.join y (l ++ [x]) = Str.join y l ++ (y ++ x)
  | [], h => absurd rfl h
  | [p], _ => app_assoc _ _ _
  | p :: q :: r, _ => by
    show p ++ y ++ Str.join y ((q :: r) ++ [x]) = p ++ y ++ Str.join y (q :: r) ++ (y ++ x)
    rw [join_snoc (l := q :: r) (by simp), app_assoc (p ++ y)]
def tapX : Str := Str.ofString " tap"
theorem tapX_eq : tapX = spS ++ tapS := by decide +kernel
theorem app_empty (a : Str) : a ++ sE = a := TL.ext_tl (by rw [TL.tl_append, sE_tl, List.append_nil])
theorem first_eq (z : List Int) (t : Bool) : Txt.join spS ([jugsS] ++ z.map strI) ++ (if t = true then tapX else sE) = htext z t := by
  unfold htext
  cases t with
  | true => rw [if_pos rfl, if_pos rfl, TL.join_eq, TL.join_eq, join_snoc (by simp), tapX_eq]
  | false => rw [if_neg Bool.false_ne_true, if_neg Bool.false_ne_true, List.append_nil, app_empty]
theorem htext_ok {z : List Int} (h : HouseOk z) (t : Bool) : (htext z t).length ≤ 100 ∧ wf (htext z t) := by
  constructor
  · rw [← first_eq, app_len]
    have := first_join h
    have e : tapX.length = 4 ∧ sE.length = 0 := by decide +kernel
    cases t
    · rw [if_neg Bool.false_ne_true]; omega
    · rw [if_pos rfl]; omega
  · unfold htext
    rw [TL.join_eq]
    refine join_ok (by decide +kernel) _ fun p hp => ?_
    have wj : wf jugsS ∧ wf tapS := by decide +kernel
    rcases List.mem_append.mp hp with hp | hp
    · rcases List.mem_append.mp hp with hp | hp
      · rw [List.mem_singleton.mp hp]; exact wj.1
      · obtain ⟨a, ha, rfl⟩ := List.mem_map.mp hp
        exact strI_wf (by have := h.sz a ha; omega)
    · cases t with
      | true => rw [if_pos rfl] at hp; rw [List.mem_singleton.mp hp]; exact wj.2
      | false => rw [if_neg Bool.false_ne_true] at hp; cases hp
theorem slice_ok {w : Str} {lo hi : Option Int} (h : wf w) : (Txt.slice w lo hi).length ≤ w.length ∧ wf (Txt.slice w lo hi) := by
  refine ⟨Txt.slice_le w lo hi, wf_iff.mpr fun c hc => ?_⟩
  rw [← C8.cutS_slice] at hc
  exact wf_iff.mp h c (List.mem_of_mem_drop (List.mem_of_mem_take hc))
theorem exists_first {α : Type} [DecidableEq α] {x : α} : ∀ {L : List α}, x ∈ L → ∃ n : Nat, L[n]? = some x ∧ ∀ m < n, L[m]? ≠ some x
  | a :: L, h => by
    by_cases e : a = x
    · exact ⟨0, by rw [e]; rfl, fun m hm => by omega⟩
    · obtain ⟨n, h1, h2⟩ := exists_first ((List.mem_cons.mp h).resolve_left fun q => e q.symm)
      refine ⟨n + 1, h1, fun m hm => ?_⟩
      cases m with
      | zero => intro q; exact e (Option.some.inj q)
      | succ m => exact h2 m (by omega)
theorem told_inj {a b : Mv} (h : toldL a = toldL b) : a = b := by
  cases a <;> cases b <;> simp [toldL] at h <;> simp only [Mv.pour.injEq, Mv.fill.injEq, Mv.empty.injEq] <;> omega
theorem place {M : List Mv} {m : Mv} (h : m ∈ M) : ∃ n : Nat, M[n]? = some m ∧ (M.map toldL)[n]? = some (toldL m) ∧ ∀ j < n, (M.map toldL)[j]? ≠ some (toldL m) := by
  obtain ⟨n, h1, h2⟩ := exists_first h
  refine ⟨n, h1, by rw [List.getElem?_map, h1]; rfl, fun j hj e => ?_⟩
  rw [List.getElem?_map] at e
  cases q : M[j]? with
  | none => rw [q] at e; cases e
  | some w =>
    rw [q] at e
    have := told_inj (Option.some.inj e)
    subst this
    exact h2 j hj q

end
end Jug


namespace Jug
open PySem PySem.Spec L2 PyProof.Rows J
section
variable {P : Program} {w : World} {K : PySem.W.Frag} {mg : Str → Option Value} {base : Heap} {C : Cs}
/-- the move drawn in the k-th turn -/
def mAt (ns : List Int) (M : List Mv) (k : Nat) : Mv := M.getD (drw (cell ns (3 + (k : Int))) 2 (M.length : Int)).toNat (.fill 0)
def tmS (ns : List Int) (M : List Mv) (n : Nat) : List Mv := (List.range n).map (mAt ns M)
def toldM (ns : List Int) (M : List Mv) : List Mv := if M = [] then [] else tmS ns M (drw (cell ns 2) 1 7).toNat
theorem mAt_get {ns : List Int} {M : List Mv} (h : M ≠ []) (k : Nat) : M[(drw (cell ns (3 + (k : Int))) 2 (M.length : Int)).toNat]? = some (mAt ns M k) ∧ mAt ns M k ∈ M := by
  have hl := List.length_pos_iff.mpr h
  have hb := drw_bd (c := cell ns (3 + (k : Int))) (k := 2) (m := (M.length : Int)) (by omega)
  have hi : (drw (cell ns (3 + (k : Int))) 2 (M.length : Int)).toNat < M.length := by omega
  have e : M[(drw (cell ns (3 + (k : Int))) 2 (M.length : Int)).toNat]? = some (mAt ns M k) := by
    unfold mAt
    rw [List.getD_eq_getElem?_getD, List.getElem?_eq_getElem hi]
    rfl
  exact ⟨e, List.mem_of_getElem? e⟩
theorem told_ok {ns : List Int} {M : List Mv} : (∀ m ∈ toldM ns M, m ∈ M) ∧ (toldM ns M).length ≤ 6 := by
  have hb := drw_bd (c := cell ns 2) (k := 1) (m := 7) (by omega)
  unfold toldM
  split
  · exact ⟨fun m hm => (by cases hm), by simp⟩
  · rename_i h
    refine ⟨fun m hm => ?_, by unfold tmS; rw [List.length_map, List.length_range]; omega⟩
    obtain ⟨k, _, rfl⟩ := List.mem_map.mp hm
    exact (mAt_get h k).2
def signS : Str := Str.ofString "0123456789jugs tapourfilemty;"
theorem sign_ok : signS.length = 29 ∧ wf signS := by decide +kernel
def R_law (K : PySem.W.Frag) : Rel := fun es r => ∃ ns : List Int, es = [.v (scrS K ns)] ∧ r = .v (bS true)
def thingsL : List Slot := [nS, iS 5, lstS [sS (Str.ofString "jugs 3")], bS true]
theorem thing_ty {K : PySem.W.Frag} : ∀ S ∈ thingsL, ∃ t, TyE K (.v S) t ∧ PySem.W.kitOne K t (.type "str") = some false := by
  intro S hS
  unfold thingsL at hS
  simp only [List.mem_cons, List.not_mem_nil, or_false] at hS
  rcases hS with rfl | rfl | rfl | rfl
  · exact ⟨_, ty_non, kt_ns⟩
  · exact ⟨_, ty_int, kt_is⟩
  · exact ⟨_, ty_lst isR_v, kt_ls⟩
  · exact ⟨_, ty_bl, kt_bs⟩
/-! ### law: slots 0:_law_script 1:_law_sizes_here 2:_law_tap 3:_law_moves 4:_law_told 5:_law_k 6:_law_first 7:_law_second 8:_law_every 9:_law_found 10:_law_cell 11:_law_others 12:_law_text 13:_law_at 14:_law_sign 15:_law_things 16:_law_size 17:_law_one 18:_law_thing -/
abbrev s_law : Stmt := top 43
theorem sc_law : FnScope ["_law_script", "_law_sizes_here", "_law_tap", "_law_moves", "_law_told", "_law_k", "_law_first", "_law_second", "_law_every", "_law_found", "_law_cell", "_law_others", "_law_text", "_law_at", "_law_sign", "_law_things", "_law_size", "_law_one", "_law_thing"] ["_law_script"] (defScope s_law) := ⟨rfl, rfl, rfl, by decide +kernel, rfl, by decide +kernel, by decide +kernel⟩
theorem ok_law_at (T : Top K mg C) {f : Addr} {fd : FuncData} (F : Fun K "law" "law" s_law f fd) : FnOk P w K mg base (CXJ P w) 9 f fd ["_law_script"] (SpOf (R_law K)) := by
  refine fn_ok F sc_law (by walk_at "len") (fun cdv A outer s H E hr => ⟨_, (pss_cons (ps_set (i := 1) sc_law.nd rfl (Or.inl rfl) (pe_cX (ok__law_sizes T) hr (by decide) px_of (by rfl) (pa_cons (pe_cX (ok__law_cell_at T) hr (by decide) px_of (by rfl) (pa_cons (pv 0) (pa_cons pe_int pa_nil))) pa_nil))) (pss_cons (ps_set (i := 2) sc_law.nd rfl (Or.inl rfl) (pe_cmpR (ko_eq (K := K) rfl hr) (pe_cX (ok__law_draw T) hr (by decide) px_of (by rfl) (pa_cons (pe_cX (ok__law_cell_at T) hr (by decide) px_of (by rfl) (pa_cons (pv 0) (pa_cons pe_int pa_nil))) (pa_cons pe_int (pa_cons pe_int pa_nil)))) pe_int (nomark _))) (pss_cons (ps_set (i := 3) sc_law.nd rfl (Or.inr rfl) (pe_cX (ok__law_all_moves T) hr (by decide) px_of (by rfl) (pa_cons (pv 1) (pa_cons (pv 2) pa_nil)))) (pss_cons (ps_set (i := 4) sc_law.nd rfl (Or.inl rfl) (pe_lst pa_nil)) (pss_cons (ps_if (pt_cmpR (ko_ne (K := K) rfl hr) (pv 3) (pe_lst pa_nil) (nomark _)) (pss_cons (ps_for (passes_of rfl) rfl (pi_range1 (by rfl) T.n_range (pa_cons (pe_cX (ok__law_draw T) hr (by decide) px_of (by rfl) (pa_cons (pe_cX (ok__law_cell_at T) hr (by decide) px_of (by rfl) (pa_cons (pv 0) (pa_cons pe_int pa_nil))) (pa_cons pe_int (pa_cons pe_int pa_nil)))) pa_nil)) (pg_name (i := 5) sc_law.nd rfl (Or.inl rfl)) (pss_cons (ps_expr (pe_bm PySem.F.plainAttrs_list PySem.F.slot_list_append PySem.F.type_list_append mt_append (pv 4) (pa_cons (ke_ix (K := K) rfl hr (pv 3) (pe_cX (ok__law_draw T) hr (by decide) px_of (by rfl) (pa_cons (pe_cX (ok__law_cell_at T) hr (by decide) px_of (by rfl) (pa_cons (pv 0) (pa_cons (pe_op (ko_add (K := K) rfl) pe_int (pv 5)) pa_nil))) (pa_cons pe_int (pa_cons (pe_callB (kc_len (K := K) rfl) (by rfl) T.n_len bt_len (pa_cons (pv 3) pa_nil)) pa_nil)))) (fun _ _ => rfl) (fun _ _ => rfl)) pa_nil))) pss_nil)) pss_nil) pss_nil) (pss_cons (ps_set (i := 6) sc_law.nd rfl (Or.inl rfl) (pe_op (ko_add (K := K) rfl) (ke_join (K := K) rfl pe_str (pe_op (ko_add (K := K) rfl) (pe_lst (pa_cons pe_str pa_nil)) (pe_lc (own := [("_law_size", 16)]) (g := gName 16) rfl sc_law.nd (ki_any (K := K) rfl (pv 1)) (blkOk_by (N := ["_law_script", "_law_sizes_here", "_law_tap", "_law_moves", "_law_told", "_law_k", "_law_first", "_law_second", "_law_every", "_law_found", "_law_cell", "_law_others", "_law_text", "_law_at", "_law_sign", "_law_things", "_law_size", "_law_one", "_law_thing"]) (sc := defScope s_law) (by decide +kernel)) (fun _ _ _ _ _ => pg_name (i := 16) sc_law.nd rfl (Or.inl rfl)) (fun _ _ _ _ _ => pts_nil) (fun _ _ _ _ _ => (pe_callTy kc_str (by rfl) T.n_str bt_str (pa_cons (pv 16) pa_nil)))))) (pe_ifExp (pt_val (pv 2)) pe_str pe_str))) (pss_cons (ps_set (i := 7) sc_law.nd rfl (Or.inl rfl) (ke_join (K := K) rfl pe_str (pe_lc (own := [("_law_one", 17)]) (g := gName 17) rfl sc_law.nd (ki_any (K := K) rfl (pv 4)) (blkOk_by (N := ["_law_script", "_law_sizes_here", "_law_tap", "_law_moves", "_law_told", "_law_k", "_law_first", "_law_second", "_law_every", "_law_found", "_law_cell", "_law_others", "_law_text", "_law_at", "_law_sign", "_law_things", "_law_size", "_law_one", "_law_thing"]) (sc := defScope s_law) (by decide +kernel)) (fun _ _ _ _ _ => pg_name (i := 17) sc_law.nd rfl (Or.inl rfl)) (fun _ _ _ _ _ => pts_nil) (fun _ _ _ _ _ => (pe_cX (ok__law_move_text T) hr (by decide) passN (by rfl) (pa_cons (pv 17) pa_nil)))))) (pss_cons (ps_set (i := 8) sc_law.nd rfl (Or.inr rfl) (pe_mtX0 (ok_House_moves T T.m_House_moves) hr (by decide) px_of (pe_mkX (ok_House___init__ T) hr (by decide) px_of (by rfl) (pa_cons (pv 1) (pa_cons (pv 2) pa_nil))))) (pss_cons (ps_if (PW.pt (pw_or (pt_cmpR (ko_ne (K := K) rfl hr) (pe_cX (ok_house_text T) hr (by decide) px_of (by rfl) (pa_cons (pe_mkX (ok_House___init__ T) hr (by decide) px_of (by rfl) (pa_cons (pv 1) (pa_cons (pv 2) pa_nil))) pa_nil)) (pv 6) (nomark _)) (pw_or1 (pt_cmpR (ko_ne (K := K) rfl hr) (pe_cX (ok_routine_text T) hr (by decide) px_of (by rfl) (pa_cons (pe_lc (own := [("_law_one", 17)]) (g := gName 17) rfl sc_law.nd (ki_any (K := K) rfl (pv 4)) (blkOk_by (N := ["_law_script", "_law_sizes_here", "_law_tap", "_law_moves", "_law_told", "_law_k", "_law_first", "_law_second", "_law_every", "_law_found", "_law_cell", "_law_others", "_law_text", "_law_at", "_law_sign", "_law_things", "_law_size", "_law_one", "_law_thing"]) (sc := defScope s_law) (by decide +kernel)) (fun _ _ _ _ _ => pg_name (i := 17) sc_law.nd rfl (Or.inl rfl)) (fun _ _ _ _ _ => pts_nil) (fun _ _ _ _ _ => (ke_ix (K := K) rfl hr (pv 8) (ke_index (K := K) rfl hr (pv 3) (pv 17)) (fun _ _ => rfl) (fun _ _ => rfl)))) pa_nil)) (pv 7) (nomark _))))) (pss_cons (ps_ret pe_bl) pss_nil) pss_nil) (pss_cons (ps_set (i := 9) sc_law.nd rfl (Or.inl rfl) (pe_cQ (ok_routine_of T) hr (by decide) (by rfl) (pa_cons (pv 7) pa_nil))) (pss_cons (ps_expr (pe_bm PySem.F.plainAttrs_list PySem.F.slot_list_append PySem.F.type_list_append mt_append (pv 9) (pa_cons pe_int pa_nil))) (pss_cons (ps_set (i := 10) sc_law.nd rfl (Or.inl rfl) (pe_op (ko_add (K := K) rfl) (pe_op (ko_add (K := K) rfl) (pe_cX (ok__law_cell_at T) hr (by decide) px_of (by rfl) (pa_cons (pv 0) (pa_cons pe_int pa_nil))) (pe_op jo_mul pe_int (pe_cX (ok__law_cell_at T) hr (by decide) px_of (by rfl) (pa_cons (pv 0) (pa_cons pe_int pa_nil))))) (pe_op jo_mul pe_int (pe_cX (ok__law_cell_at T) hr (by decide) px_of (by rfl) (pa_cons (pv 0) (pa_cons pe_int pa_nil)))))) (pss_cons (ps_set (i := 11) sc_law.nd rfl (Or.inl rfl) (pe_lst (pa_cons (pv 6) (pa_cons (pv 7) pa_nil)))) (pss_cons (ps_for (passes_of rfl) rfl (ki_any (K := K) rfl (pe_lst (pa_cons (pv 6) (pa_cons (pv 7) pa_nil)))) (pg_name (i := 12) sc_law.nd rfl (Or.inl rfl)) (pss_cons (ps_set (i := 13) sc_law.nd rfl (Or.inl rfl) (pe_cX (ok__law_draw T) hr (by decide) px_of (by rfl) (pa_cons (pv 10) (pa_cons pe_int (pa_cons (pe_op (ko_add (K := K) rfl) (pe_callB (kc_len (K := K) rfl) (by rfl) T.n_len bt_len (pa_cons (pv 12) pa_nil)) pe_int) pa_nil))))) (pss_cons (ps_set (i := 14) sc_law.nd rfl (Or.inl rfl) (ke_ix (K := K) rfl hr (pe_tup (pa_cons pe_str (pa_cons (ke_ix (K := K) rfl hr pe_str (pe_cX (ok__law_draw T) hr (by decide) px_of (by rfl) (pa_cons (pv 10) (pa_cons pe_int (pa_cons pe_int pa_nil)))) (fun _ _ => rfl) (fun _ _ => rfl)) pa_nil))) (pe_cX (ok__law_draw T) hr (by decide) px_of (by rfl) (pa_cons (pv 10) (pa_cons pe_int (pa_cons pe_int pa_nil)))) (fun _ _ => rfl) (fun _ _ => rfl))) (pss_cons (ps_expr (pe_bm PySem.F.plainAttrs_list PySem.F.slot_list_append PySem.F.type_list_append mt_append (pv 11) (pa_cons (pe_op (ko_add (K := K) rfl) (pe_op (ko_add (K := K) rfl) (pe_slice (ko_sl (K := K) rfl) (pv 12) po_none (po_some (pv 13))) (pv 14)) (pe_slice (ko_sl (K := K) rfl) (pv 12) (po_some (pe_op (ko_add (K := K) rfl) (pv 13) (pe_cX (ok__law_draw T) hr (by decide) px_of (by rfl) (pa_cons (pv 10) (pa_cons pe_int (pa_cons pe_int pa_nil)))))) po_none)) pa_nil))) (pss_cons (ps_set (i := 10) sc_law.nd rfl (Or.inl rfl) (pe_op (ko_add (K := K) rfl) (pv 10) pe_int)) pss_nil))))) (pss_cons (ps_if (pt_not (pt_val (pe_callB (kc_all (K := K) rfl rfl) (by rfl) T.n_all bt_all (pa_cons (pe_lc (own := [("_law_text", 12)]) (g := gName 12) rfl sc_law.nd (ki_any (K := K) rfl (pe_op (ko_add (K := K) rfl) (pv 11) (pe_cX0 (ok__law_few T) hr (by decide) px_of (by rfl)))) (blkOk_by (N := ["_law_script", "_law_sizes_here", "_law_tap", "_law_moves", "_law_told", "_law_k", "_law_first", "_law_second", "_law_every", "_law_found", "_law_cell", "_law_others", "_law_text", "_law_at", "_law_sign", "_law_things", "_law_size", "_law_one", "_law_thing"]) (sc := defScope s_law) (by decide +kernel)) (fun _ _ _ _ _ => pg_name (i := 12) sc_law.nd rfl (Or.inl rfl)) (fun _ _ _ _ _ => pts_nil) (fun _ _ _ _ _ => (pe_cX (ok__law_right T) hr (by decide) passN (by rfl) (pa_cons (pv 12) pa_nil)))) pa_nil)))) (pss_cons (ps_ret pe_bl) pss_nil) pss_nil) (pss_cons (ps_set (i := 15) sc_law.nd rfl (Or.inl rfl) (pe_lst (pa_cons pe_non (pa_cons pe_int (pa_cons (pe_lst (pa_cons pe_str pa_nil)) (pa_cons pe_bl pa_nil)))))) (pss_cons (ps_ret (pe_callB (kc_all (K := K) rfl rfl) (by rfl) T.n_all bt_all (pa_cons (pe_lc (own := [("_law_thing", 18)]) (g := gName 18) rfl sc_law.nd (ki_any (K := K) rfl (pv 15)) (blkOk_by (N := ["_law_script", "_law_sizes_here", "_law_tap", "_law_moves", "_law_told", "_law_k", "_law_first", "_law_second", "_law_every", "_law_found", "_law_cell", "_law_others", "_law_text", "_law_at", "_law_sign", "_law_things", "_law_size", "_law_one", "_law_thing"]) (sc := defScope s_law) (by decide +kernel)) (fun _ _ _ _ _ => pg_name (i := 18) sc_law.nd rfl (Or.inl rfl)) (fun _ _ _ _ _ => pts_nil) (fun _ _ _ _ _ => (pe_and (pe_cX (ok__law_refused T) hr (by decide) passN (by rfl) (pa_cons (C8.pe_gc (by rfl) T.v_house_of) (pa_cons (pv 18) pa_nil))) (pe_one (pe_cX (ok__law_refused T) hr (by decide) passN (by rfl) (pa_cons (C8.pe_gc (by rfl) T.v_routine_of) (pa_cons (pv 18) pa_nil))))))) pa_nil))) pss_nil))))))))))))))))), ?_⟩)

  rintro es r F σ Q ⟨ns, rfl, rfl⟩ s k
  simp only [J.cx_K, List.length_cons, List.length_nil, List.cons_append, List.nil_append, Nat.reduceAdd, Nat.reduceSub, List.reduceReplicate, List.append_nil] at s ⊢
  have cl : ∀ {δ : List Ent} {j : Int}, δ[0]? = some (.v (scrS K ns)) → 0 ≤ j → ∀ {te : TE}, EvE te δ (.v (iS j)) → EvAs (tCons (tVar 0) (tCons te tNil)) δ [.v (scrS K ns), .v (iS j)] := fun h0 _ _ hj => ea_cons (ev_v h0) (ea_cons hj ea_nil)
  refine q_setO s (eo_call (ea_cons (ev_call (cl rfl (by omega) ev_c) ⟨ns, 0, rfl, by omega, rfl⟩) ea_nil) ⟨cell ns 0, rfl, rfl⟩) fun σ F H s => ?_
  dsimp only [List.set, J.putS, List.nil_append, List.cons_append] at s
  refine q_freeze s 1 rfl fun F s => ?_
  dsimp only [List.set, J.putS, List.nil_append, List.cons_append] at s
  have hz := szs_ok (cell ns 0)
  generalize szs (cell ns 0) = z at s hz
  have hz4 := hz.l4
  refine q_set s (ev_op (ev_call (ea_cons (ev_call (cl rfl (by omega) ev_c) ⟨ns, 1, rfl, by omega, rfl⟩) (ea_cons ev_c (ea_cons ev_c ea_nil))) ⟨_, 0, 2, rfl, by omega, rfl⟩) ev_c jv_eqi) fun σ F H s => ?_
  dsimp only [List.set, J.putS, List.nil_append, List.cons_append] at s
  generalize decide (drw (cell ns 1) 0 2 = 0) = t at s
  refine q_setO s (eo_call (ea_cons (ev_v rfl) (ea_cons (ev_v rfl) ea_nil)) ⟨z, t, rfl, hz4, rfl⟩) fun σ F H s => ?_
  dsimp only [List.set, J.putS, List.nil_append, List.cons_append] at s
  refine q_freeze s 3 rfl fun F s => ?_
  dsimp only [List.set, J.putS, List.nil_append, List.cons_append] at s
  have hgood : ∀ m ∈ allMoves z.length t, goodM m := fun m hm => all_good hz4 hm
  have hM : (allMoves z.length t).length ≤ 40000 := by
    unfold allMoves
    have h1 := flat_len (poursOf_len z.length) (List.range z.length)
    rw [List.length_range] at h1
    have h2 : z.length * z.length ≤ 4 * 4 := Nat.mul_le_mul hz4 hz4
    have h3 : (pours z.length).length ≤ 16 := Nat.le_trans h1 h2
    rw [List.length_append]
    split
    · rw [List.length_append, List.length_map, List.length_map, List.length_range]; omega
    · simp; omega
  generalize hMM : allMoves z.length t = M at s hgood hM
  refine q_setO s (o := lstO (([] : List Mv).map tldS)) (eo_lstN ea_nilV (Nat.le_of_ble_eq_true rfl)) fun σ F H s => ?_
  dsimp only [List.set, J.putS, List.nil_append, List.cons_append] at s
  have htold := told_ok (ns := ns) (M := M)
  refine q_join (b := !decide (M = [])) (δ' := [.v (scrS K ns), .v (intsS z), .v (bS t), .v (lstS (M.map tldS)), .ow (lstO ((toldM ns M).map tldS)), .un, .un, .un, .un, .un, .un, .un, .un, .un, .un, .un, .un, .un, .un]) s (et_Test (EvE.to (ev_op (ev_v rfl) (EvO.b (eo_lstN (ss := ([] : List Slot)) ea_nilV (Nat.le_of_ble_eq_true rfl))) (jv_neD (dat_ltp (L := M.map toldL) (by rw [List.map_map]; exact isR_v)) (dat_ltp (L := []) isR_b))) (by cases M <;> rfl))) (fun hb σ F H k2 s => ?_) (fun hb => ?_) (fun σ F H s => ?_)
  · have hne : M ≠ [] := by simpa using hb
    have hb := drw_bd (c := cell ns 2) (k := 1) (m := 7) (by omega)
    have hl := List.length_pos_iff.mpr hne
    refine q_forR (n := (drw (cell ns 2) 1 7).toNat) s (ea_cons (ev_call (ea_cons (ev_call (cl rfl (by omega) ev_c) ⟨ns, 2, rfl, by omega, rfl⟩) (ea_cons ev_c (ea_cons ev_c ea_nil))) ⟨_, 1, 7, rfl, by omega, rfl⟩) ea_nil) rfl (by omega) (fun n d => ∃ e, d = [.v (scrS K ns), .v (intsS z), .v (bS t), .v (lstS (M.map tldS)), .ow (lstO ((tmS ns M n).map tldS)), e, .un, .un, .un, .un, .un, .un, .un, .un, .un, .un, .un, .un, .un]) ⟨_, rfl⟩ ?_ ?_
    · rintro n δ' σ F H hn ⟨e, rfl⟩ s
      dsimp only [List.set, J.putS, List.nil_append, List.cons_append] at s
      have hd := drw_bd (c := cell ns (3 + (n : Int))) (k := 2) (m := (M.length : Int)) (by omega)
      refine q_app s rfl (S := tldS (mAt ns M n)) (ev_ix (ev_v rfl) (ev_call (ea_cons (ev_call (cl rfl (j := 3 + (n : Int)) (by omega) (ev_op ev_c (ev_v rfl) jv_add)) ⟨ns, 3 + (n : Int), rfl, by omega, rfl⟩) (ea_cons ev_c (ea_cons (ev_cb (ea_cons (ev_v rfl) ea_nil) (cb_lenM isR_v)) ea_nil))) ⟨_, 2, (M.length : Int), rfl, by omega, rfl⟩) (jx_l (f := tldS) (xs := M) isR_v hd.1 (mAt_get hne n).1)) (by rw [List.length_map]; unfold tmS; rw [List.length_map, List.length_range]; omega) fun σ F H s => ?_
      dsimp only [List.set, J.putS, List.nil_append, List.cons_append] at s
      refine q_nx s ⟨.v (iS (n : Int)), ?_⟩
      unfold tmS
      rw [List.range_succ, List.map_append, List.map_append]
      rfl
    · rintro δ' σ F H ⟨e, rfl⟩ s
      have s2 := St.drop s 5
      refine k2 σ F H ?_
      have e1 : toldM ns M = tmS ns M (drw (cell ns 2) 1 7).toNat := by unfold toldM; rw [if_neg hne]
      rw [e1]
      exact s2
  · have he : M = [] := by simpa using hb
    have e1 : toldM ns M = [] := by unfold toldM; rw [if_pos he]
    rw [e1]
  · generalize toldM ns M = ms at s htold
    have hms : ∀ m ∈ ms, goodM m := fun m hm => hgood m (htold.1 m hm)
    have hfo := htext_ok hz t
    have hse := rtext_ok hms htold.2
    have hfj := first_join hz
    have htl : (Txt.join (Str.ofString " ") ([jugsS] ++ z.map strI)).length + (if t = true then tapX else sE).length ≤ 100000 := by
      have hfj : (Txt.join (Str.ofString " ") ([jugsS] ++ z.map strI)).length ≤ 50 := hfj
      have e : tapX.length = 4 ∧ sE.length = 0 := by decide +kernel
      cases t
      · rw [if_neg Bool.false_ne_true]; omega
      · rw [if_pos rfl]; omega
    refine q_set s (S := sS (htext z t)) (EvE.to (ev_op (ev_join (ys := [jugsS] ++ z.map strI) ev_c (EvO.b (EvO.to (eo_op (EvO.b (eo_lstN (ss := [jugsS].map sS) (ea_consV ev_c ea_nilV) (Nat.le_of_ble_eq_true rfl))) (EvO.b (eo_lcM iS z (fun a => sS (strI a)) (ev_v rfl) isR_v (by omega) (fun a ha => ev_cb (ea_cons (ev_v rfl) ea_nil) (cb_str (log99 (by have := hz.sz a ha; omega)))))) (jo_addl isR_b isR_b (by simp; omega))) (by rw [List.map_append, List.map_map]; rfl))) isR_b (by have := htext_sum hz false; rw [if_neg Bool.false_ne_true, List.append_nil] at this; exact this)) (ev_if (b := t) (e := .v (sS (if t = true then tapX else sE))) (et_B (ev_v rfl)) (fun h => EvE.to ev_c (by rw [if_pos h]; rfl)) (fun h => EvE.to ev_c (by rw [h, if_neg Bool.false_ne_true]; rfl))) (jv_adds htl)) (by rw [← first_eq z t]; rfl)) fun σ F H s => ?_
    dsimp only [List.set, J.putS, List.nil_append, List.cons_append] at s
    have hsum := sum_le fun m hm => good_small (hms m hm)
    refine q_set s (S := sS (rtext ms)) (ev_join (ys := ms.map mtext) ev_c (EvO.b (EvO.to (eo_lcM tldS ms (fun m => sS (mtext m)) (ev_ow rfl) isR_b (by omega) (fun m hm => ev_call (ea_cons (ev_v rfl) ea_nil) ⟨m, rfl, good_small (hms m hm), rfl⟩)) (by rw [List.map_map]; rfl))) isR_b (by rw [List.length_map, show (Str.ofString "; ").length = 2 from by decide +kernel]; omega)) fun σ F H s => ?_
    dsimp only [List.set, J.putS, List.nil_append, List.cons_append] at s
    have hmk : ∀ {δ : List Ent}, δ[1]? = some (.v (intsS z)) → δ[2]? = some (.v (bS t)) → EvE (tMake C.House (SpInit C.House (R_House C)) [] E (tCons (tVar 1) (tCons (tVar 2) tNil))) δ (.v (houseS C z t)) := fun h1 h2 => ev_make (ea_cons (ev_lend (ev_v h1)) (ea_cons (ev_v h2) ea_nil)) ⟨z, t, rfl, by omega, .inl ⟨hz, rfl⟩⟩
    refine q_setO s (o := lstO (M.map (moveS C))) (by rw [← hMM]; exact eo_meth (hmk rfl rfl) rfl ea_nil ⟨z, t, rfl, hz4, rfl⟩) fun σ F H s => ?_
    dsimp only [List.set, J.putS, List.nil_append, List.cons_append] at s
    refine q_freeze s 8 rfl fun F s => ?_
    dsimp only [List.set, J.putS, List.nil_append, List.cons_append] at s
    refine q_whenF (b := false) s (EvT.to (et_or (et_Test (ev_op (ev_call (ea_cons (hmk rfl rfl) ea_nil) ⟨z, t, rfl, hz, rfl⟩) (ev_v rfl) jv_nes)) fun _ => et_Test (ev_op (ev_call (ea_cons (EvO.b (eo_lcM tldS ms (moveS C) (ev_ow rfl) isR_b (by omega) (fun m hm => by
      obtain ⟨n, p1, p2, p3⟩ := place (htold.1 m hm)
      exact ev_ix (ev_v rfl) (ev_indexL (L := M.map toldL) (x := toldL m) (n := n) (ev_v rfl) (by rw [List.map_map]; exact isR_v) (ev_v rfl) p2 p3) (jx_l (f := moveS C) (xs := M) isR_v (by omega) (by rw [Int.toNat_natCast]; exact p1))))) ea_nil) ⟨ms, rfl, ⟨fun m hm => good_small (hms m hm), by omega⟩, rfl⟩) (ev_v rfl) jv_nes)) (by simp)) rfl fun σ F H s => ?_
    refine q_setO s (eo_call (ea_cons (ev_v rfl) ea_nil) ⟨_, rfl, .inl ⟨rtext ms, rfl, by omega, .inl ⟨writes_rtext hms, rfl⟩⟩⟩) fun σ F H s => ?_
    dsimp only [List.set, J.putS, List.nil_append, List.cons_append] at s
    have hpl := parts_len (rtext ms)
    have hmw : (movesW (rtext ms)).length ≤ 200 := by
      unfold movesW
      split
      · simp
      · rw [List.length_map]; omega
    refine q_app s rfl (S := iS 0) ev_c (by rw [List.length_map]; omega) fun σ F H s => ?_
    dsimp only [List.set, J.putS, List.nil_append, List.cons_append] at s
    refine q_set s (ev_op (ev_op (ev_call (cl rfl (by omega) ev_c) ⟨ns, 10, rfl, by omega, rfl⟩) (ev_op ev_c (ev_call (cl rfl (by omega) ev_c) ⟨ns, 0, rfl, by omega, rfl⟩) (op_I (.inl ⟨by omega, by omega⟩))) jv_add) (ev_op ev_c (ev_call (cl rfl (by omega) ev_c) ⟨ns, 1, rfl, by omega, rfl⟩) (op_I (.inl ⟨by omega, by omega⟩))) jv_add) fun σ F H s => ?_
    dsimp only [List.set, J.putS, List.nil_append, List.cons_append] at s
    refine q_setO s (o := lstO ([htext z t, rtext ms].map sS)) (eo_lstN (ss := [htext z t, rtext ms].map sS) (ea_consV (ev_v rfl) (ea_consV (ev_v rfl) ea_nilV)) (Nat.le_of_ble_eq_true rfl)) fun σ F H s => ?_
    dsimp only [List.set, J.putS, List.nil_append, List.cons_append] at s
    refine q_forL s (EvO.v (eo_lstN (ss := [htext z t, rtext ms].map sS) (ea_consV (ev_v rfl) (ea_consV (ev_v rfl) ea_nilV)) (Nat.le_of_ble_eq_true rfl))) (fun n d => ∃ (os : List Str) (c : Int) (e12 e13 e14 : Ent), (os.length = 2 + n ∧ ∀ o ∈ os, okT o) ∧ d = [.v (scrS K ns), .v (intsS z), .v (bS t), .v (lstS (M.map tldS)), .ow (lstO (ms.map tldS)), .un, .v (sS (htext z t)), .v (sS (rtext ms)), .v (lstS (M.map (moveS C))), .ow (lstO ((movesW (rtext ms)).map (moveS C) ++ [iS 0])), .v (iS c), .ow (lstO (os.map sS)), e12, e13, e14, .un, .un, .un, .un]) ⟨[htext z t, rtext ms], _, _, _, _, ⟨rfl, fun o ho => by
      simp only [List.mem_cons, List.not_mem_nil, or_false] at ho
      rcases ho with rfl | rfl
      · exact ⟨by omega, hfo.2⟩
      · exact ⟨by omega, hse.2⟩⟩, rfl⟩ ?_ ?_
    · rintro F1 bs n T' δ' σ F H hT ⟨os, c, e12, e13, e14, ⟨hos, hok⟩, rfl⟩ s
      have hn2 : n < 2 := (List.getElem?_eq_some_iff.mp hT).1
      obtain ⟨w, hw, rfl⟩ := mapGet (l := [htext z t, rtext ms]) hT
      have hwo : w.length ≤ 100 ∧ wf w := by
        have := List.mem_of_getElem? hw
        simp only [List.mem_cons, List.not_mem_nil, or_false] at this
        rcases this with rfl | rfl
        · exact hfo
        · exact hse
      dsimp only [List.set, J.putS, List.nil_append, List.cons_append] at s
      refine q_set s (ev_call (ea_cons (ev_v rfl) (ea_cons ev_c (ea_cons (ev_op (ev_cb (ea_cons (ev_v rfl) ea_nil) (cb_lens (by omega))) ev_c jv_add) ea_nil))) ⟨c, 3, (w.length : Int) + 1, rfl, by omega, rfl⟩) fun σ F H s => ?_
      dsimp only [List.set, J.putS, List.nil_append, List.cons_append] at s
      generalize drw c 3 ((w.length : Int) + 1) = a at s
      have d4 := drw_bd (c := c) (k := 4) (m := 29) (by omega)
      have d5 := drw_bd (c := c) (k := 5) (m := 2) (by omega)
      obtain ⟨i4, hi4⟩ : ∃ i : Nat, drw c 4 29 = (i : Int) := ⟨(drw c 4 29).toNat, by omega⟩
      have hch : wf ⟨#[(TL.tl signS).getD i4 0]⟩ := wf_iff.mpr fun x hx => by
        have hl : i4 < (TL.tl signS).length := by rw [← TL.len_tl, sign_ok.1]; omega
        rw [List.mem_singleton.mp hx, List.getD_eq_getElem?_getD, List.getElem?_eq_getElem hl]
        exact wf_iff.mp sign_ok.2 _ (List.getElem_mem hl)
      obtain ⟨sg, hsg, hsl⟩ : ∃ sg, [sE, (⟨#[(TL.tl signS).getD i4 0]⟩ : Str)][(drw c 5 2).toNat]? = some sg ∧ (sg.length ≤ 1 ∧ wf sg) := by
        have hcase : (drw c 5 2).toNat = 0 ∨ (drw c 5 2).toNat = 1 := by omega
        rcases hcase with h | h <;> rw [h]
        · exact ⟨_, rfl, by decide +kernel, by decide +kernel⟩
        · exact ⟨_, rfl, Nat.le_refl 1, hch⟩
      refine q_set s (S := sS sg) (ev_ix (EvE.to (e1 := .v (tupS ([sE, (⟨#[(TL.tl signS).getD i4 0]⟩ : Str)].map sS))) (ev_tupN (ea_consV ev_c (ea_consV (ev_ix (ev_c (v := .str signS)) (EvE.to (ev_call (ea_cons (ev_v rfl) (ea_cons ev_c (ea_cons ev_c ea_nil))) ⟨c, 4, 29, rfl, by omega, rfl⟩) (by rw [hi4])) (jx_c (by rw [sign_ok.1]; omega) (by rw [sign_ok.1]; omega))) ea_nilV)) (Nat.le_of_ble_eq_true rfl)) rfl) (ev_call (ea_cons (ev_v rfl) (ea_cons ev_c (ea_cons ev_c ea_nil))) ⟨c, 5, 2, rfl, by omega, rfl⟩) (jx_t (f := sS) (xs := [sE, (⟨#[(TL.tl signS).getD i4 0]⟩ : Str)]) isR_v d5.1 hsg)) fun σ F H s => ?_
      dsimp only [List.set, J.putS, List.nil_append, List.cons_append] at s
      have k1 := slice_ok (lo := none) (hi := some a) hwo.2
      have k2 := slice_ok (lo := some (a + drw c 6 2)) (hi := none) hwo.2
      refine q_app s rfl (S := sS (Txt.slice w none (some a) ++ sg ++ Txt.slice w (some (a + drw c 6 2)) none)) (ev_op (ev_op (ev_slS (ev_v rfl) eo_none (eo_some (ev_v rfl)) (by omega)) (ev_v rfl) (jv_adds (by omega))) (ev_slS (ev_v rfl) (eo_some (ev_op (ev_v rfl) (ev_call (ea_cons (ev_v rfl) (ea_cons ev_c (ea_cons ev_c ea_nil))) ⟨c, 6, 2, rfl, by omega, rfl⟩) jv_add)) eo_none (by omega)) (jv_adds (by rw [app_len]; omega))) (by rw [List.length_map]; omega) fun σ F H s => ?_
      dsimp only [List.set, J.putS, List.nil_append, List.cons_append] at s
      refine q_set s (ev_op (ev_v rfl) ev_c jv_add) fun σ F H s => ?_
      dsimp only [List.set, J.putS, List.nil_append, List.cons_append] at s
      refine q_nx s ⟨os ++ [Txt.slice w none (some a) ++ sg ++ Txt.slice w (some (a + drw c 6 2)) none], c + 1, _, _, _, ⟨by rw [List.length_append, hos]; rfl, fun o ho => ?_⟩, by rw [List.map_append]; rfl⟩
      rcases List.mem_append.mp ho with ho | ho
      · exact hok o ho
      · rw [List.mem_singleton.mp ho]
        exact okT_app (by rw [app_len]; omega) (okT_app (by omega) k1.2 hsl.2).2 k2.2
    · rintro δ' σ F H ⟨os, c, e12, e13, e14, ⟨hos, hok⟩, rfl⟩ s
      have hos : os.length = 4 := hos
      have hfl : fewL.length = 49 := by
        obtain ⟨l1, l2, l3, l4, l5, l6, l7, l8⟩ := fl
        unfold fewL
        simp only [List.length_append]
        omega
      have hall : ∀ w ∈ os ++ fewL, okT w := fun w hw => (List.mem_append.mp hw).elim (hok w) (few_ok w)
      refine q_whenF (b := false) s (EvT.to (et_not (et_B (ev_cb (ea_cons (EvO.b (EvO.to (eo_lcM sS (os ++ fewL) (fun _ => bS true) (EvO.b (EvO.to (eo_op (ev_ow rfl) (EvO.b (eo_call ea_nil ⟨rfl, rfl⟩)) (jo_addl (ts := fewL.map sS) isR_b isR_b (by rw [List.length_map, List.length_map]; omega))) (by rw [← List.map_append]))) isR_b (by rw [List.length_append]; omega) (fun w hw => ev_call (ea_cons (ev_v rfl) ea_nil) ⟨w, rfl, hall w hw, rfl⟩)) (show _ = lstO (((os ++ fewL).map fun _ => true).map bS) from by rw [List.map_map]; rfl))) ea_nil) (cb_all isR_b)))) (by simp)) rfl fun σ F H s => ?_
      refine q_setO s (o := lstO thingsL) (eo_lstN (ss := thingsL) (ea_consV ev_c (ea_consV ev_c (ea_consV (EvO.v (eo_lstN (ss := [sS (Str.ofString "jugs 3")]) (ea_consV ev_c ea_nilV) (Nat.le_of_ble_eq_true rfl))) (ea_consV ev_c ea_nilV)))) (Nat.le_of_ble_eq_true rfl)) fun σ F H s => ?_
      dsimp only [List.set, J.putS, List.nil_append, List.cons_append] at s
      refine q_ret s (EvE.to (ev_cb (ea_cons (EvO.b (EvO.to (eo_lcM (fun S : Slot => S) thingsL (fun _ => bS true) (ev_ow rfl) (by rw [List.map_id']; exact isR_b) (by decide) (fun S hS => by
        obtain ⟨ty, h1, h2⟩ := thing_ty (K := K) S hS
        exact EvE.to (ev_and (ev_call (ea_cons ev_c (ea_cons (ev_v rfl) ea_nil)) ⟨_, _, rfl, .inl ⟨rfl, _, rfl, .inr ⟨ty, h1, h2, rfl⟩⟩, rfl⟩) fun _ => ev_call (ea_cons ev_c (ea_cons (ev_v rfl) ea_nil)) ⟨_, _, rfl, .inr ⟨rfl, _, rfl, .inr ⟨ty, h1, h2, rfl⟩⟩, rfl⟩) rfl)) (show _ = lstO ((thingsL.map fun _ => true).map bS) from by rw [List.map_map]; rfl))) ea_nil) (cb_all isR_b)) (by rfl)) k

end
end Jug
namespace Jug
open PySem PySem.Spec L2 PyProof.Rows J
section
theorem all_mk {l : PySem.W.OpenLaw} {w : World} {K : PySem.W.Frag} {h : Heap} {mg : Str → Option Value} {fa : Addr} (X : K.In h) (G : h.Ns mainGlobals mg) (hfa : mg "law" = some (.ref fa))
    {c_Move : Addr}
    {c_Pour : Addr}
    {c_Fill : Addr}
    {c_Empty : Addr}
    {c_House : Addr}
    {f0 : Addr} {od0 an0 : Option Addr} {sl0 : Array (Option Value)} {oc0 kV0 dc0 pm0 cd0 ct0 : Value}
    {f1 : Addr} {od1 an1 : Option Addr} {sl1 : Array (Option Value)} {oc1 kV1 dc1 pm1 cd1 ct1 : Value}
    {f2 : Addr} {od2 an2 : Option Addr} {sl2 : Array (Option Value)} {oc2 kV2 dc2 pm2 cd2 ct2 : Value}
    {f3 : Addr} {od3 an3 : Option Addr} {sl3 : Array (Option Value)} {oc3 kV3 dc3 pm3 cd3 ct3 : Value}
    {f4 : Addr} {od4 an4 : Option Addr} {sl4 : Array (Option Value)} {oc4 kV4 dc4 pm4 cd4 ct4 : Value}
    {f5 : Addr} {od5 an5 : Option Addr} {sl5 : Array (Option Value)} {oc5 kV5 dc5 pm5 cd5 ct5 : Value}
    {c_JugError : Addr}
    {c_BadHouse : Addr}
    {c_BadState : Addr}
    {c_BadMove : Addr}
    {c_BadGoal : Addr}
    {c_BadText : Addr}
    {u_MOST_JUGS : Value}
    {u_GREATEST : Value}
    {u_MOST_STATES : Value}
    {u_FIGURES : Value}
    {f6 : Addr} {od6 an6 : Option Addr} {sl6 : Array (Option Value)} {oc6 kV6 dc6 pm6 cd6 ct6 : Value}
    {f7 : Addr} {od7 an7 : Option Addr} {sl7 : Array (Option Value)} {oc7 kV7 dc7 pm7 cd7 ct7 : Value}
    {f8 : Addr} {od8 an8 : Option Addr} {sl8 : Array (Option Value)} {oc8 kV8 dc8 pm8 cd8 ct8 : Value}
    {f9 : Addr} {od9 an9 : Option Addr} {sl9 : Array (Option Value)} {oc9 kV9 dc9 pm9 cd9 ct9 : Value}
    {f10 : Addr} {od10 an10 : Option Addr} {sl10 : Array (Option Value)} {oc10 kV10 dc10 pm10 cd10 ct10 : Value}
    {f11 : Addr} {od11 an11 : Option Addr} {sl11 : Array (Option Value)} {oc11 kV11 dc11 pm11 cd11 ct11 : Value}
    {f12 : Addr} {od12 an12 : Option Addr} {sl12 : Array (Option Value)} {oc12 kV12 dc12 pm12 cd12 ct12 : Value}
    {f13 : Addr} {od13 an13 : Option Addr} {sl13 : Array (Option Value)} {oc13 kV13 dc13 pm13 cd13 ct13 : Value}
    {f14 : Addr} {od14 an14 : Option Addr} {sl14 : Array (Option Value)} {oc14 kV14 dc14 pm14 cd14 ct14 : Value}
    {f15 : Addr} {od15 an15 : Option Addr} {sl15 : Array (Option Value)} {oc15 kV15 dc15 pm15 cd15 ct15 : Value}
    {f16 : Addr} {od16 an16 : Option Addr} {sl16 : Array (Option Value)} {oc16 kV16 dc16 pm16 cd16 ct16 : Value}
    {f17 : Addr} {od17 an17 : Option Addr} {sl17 : Array (Option Value)} {oc17 kV17 dc17 pm17 cd17 ct17 : Value}
    {f18 : Addr} {od18 an18 : Option Addr} {sl18 : Array (Option Value)} {oc18 kV18 dc18 pm18 cd18 ct18 : Value}
    {f19 : Addr} {od19 an19 : Option Addr} {sl19 : Array (Option Value)} {oc19 kV19 dc19 pm19 cd19 ct19 : Value}
    {f20 : Addr} {od20 an20 : Option Addr} {sl20 : Array (Option Value)} {oc20 kV20 dc20 pm20 cd20 ct20 : Value}
    {f21 : Addr} {od21 an21 : Option Addr} {sl21 : Array (Option Value)} {oc21 kV21 dc21 pm21 cd21 ct21 : Value}
    {f22 : Addr} {od22 an22 : Option Addr} {sl22 : Array (Option Value)} {oc22 kV22 dc22 pm22 cd22 ct22 : Value}
    {f23 : Addr} {od23 an23 : Option Addr} {sl23 : Array (Option Value)} {oc23 kV23 dc23 pm23 cd23 ct23 : Value}
    {f24 : Addr} {od24 an24 : Option Addr} {sl24 : Array (Option Value)} {oc24 kV24 dc24 pm24 cd24 ct24 : Value}
    {f25 : Addr} {od25 an25 : Option Addr} {sl25 : Array (Option Value)} {oc25 kV25 dc25 pm25 cd25 ct25 : Value}
    {f26 : Addr} {od26 an26 : Option Addr} {sl26 : Array (Option Value)} {oc26 kV26 dc26 pm26 cd26 ct26 : Value}
    {f27 : Addr} {od27 an27 : Option Addr} {sl27 : Array (Option Value)} {oc27 kV27 dc27 pm27 cd27 ct27 : Value}
    (ac_Move : PySem.W.nsIn K mainGlobals "Move" = some (some (.ref c_Move)))
    (ac_Pour : PySem.W.nsIn K mainGlobals "Pour" = some (some (.ref c_Pour)))
    (ac_Fill : PySem.W.nsIn K mainGlobals "Fill" = some (some (.ref c_Fill)))
    (ac_Empty : PySem.W.nsIn K mainGlobals "Empty" = some (some (.ref c_Empty)))
    (ac_House : PySem.W.nsIn K mainGlobals "House" = some (some (.ref c_House)))
    (pg_Pour : PySem.W.plainGet K c_Pour Str.empty = true)
    (hd_Pour : PySem.W.hasDictIn K c_Pour = true)
    (po_Pour : PySem.W.plainOver K c_Pour = true)
    (sa_Pour : PySem.W.findIn K (.ref c_Pour) "__setattr__" = some (some (.builtin "object.__setattr__")))
    (pg_Fill : PySem.W.plainGet K c_Fill Str.empty = true)
    (hd_Fill : PySem.W.hasDictIn K c_Fill = true)
    (po_Fill : PySem.W.plainOver K c_Fill = true)
    (sa_Fill : PySem.W.findIn K (.ref c_Fill) "__setattr__" = some (some (.builtin "object.__setattr__")))
    (pg_Empty : PySem.W.plainGet K c_Empty Str.empty = true)
    (hd_Empty : PySem.W.hasDictIn K c_Empty = true)
    (po_Empty : PySem.W.plainOver K c_Empty = true)
    (sa_Empty : PySem.W.findIn K (.ref c_Empty) "__setattr__" = some (some (.builtin "object.__setattr__")))
    (pg_House : PySem.W.plainGet K c_House Str.empty = true)
    (hd_House : PySem.W.hasDictIn K c_House = true)
    (po_House : PySem.W.plainOver K c_House = true)
    (sa_House : PySem.W.findIn K (.ref c_House) "__setattr__" = some (some (.builtin "object.__setattr__")))
    (ha_Pour : PySem.W.findIn K (.ref c_Pour) "__class__" = some (some (.builtin "object.__class__")))
    (hm_Pour : PySem.W.mroIn K c_Pour (.type "object") = some true)
    (hn : PySem.W.specialIn K (.builtin "object.__class__") "__get__" = some (some (.builtin "getset_descriptor.__get__")))
    (tk : PySem.W.takesIn K (.builtin "object.__class__") = some true)
    (nf_Pour_one : PySem.W.findIn K (.ref c_Pour) "one" = some none)
    (nf_Pour_other : PySem.W.findIn K (.ref c_Pour) "other" = some none)
    (ai_Pour : PySem.W.findIn K (.ref c_Pour) "__init__" = some (some (.ref f0)))
    (l0 : K.lookup f0 = some ⟨oc0, od0, .func (PySem.W.fnOf "__init__" "Pour.__init__" (defArgs (inClass (top 13) 0)) (defBody (inClass (top 13) 0)) (defScope (inClass (top 13) 0)) .none kV0 dc0 pm0 an0 cd0 ct0), sl0⟩)
    (c0 : PySem.W.codeIn K cd0 "Pour.__init__" = true)
    (k0 : PySem.W.keepIn K (.ref f0) = true)
    (ji_Pour : PySem.W.isFn K (.ref f0) = true)
    (mk_Pour : PySem.W.makesIn K c_Pour = true)
    (kc_Pour : PySem.W.keepIn K (.ref c_Pour) = true)
    (is_Pour_Move : PySem.W.kitOne K (.ref c_Pour) (.ref c_Move) = some true)
    (is_Pour_Pour : PySem.W.kitOne K (.ref c_Pour) (.ref c_Pour) = some true)
    (ha_Fill : PySem.W.findIn K (.ref c_Fill) "__class__" = some (some (.builtin "object.__class__")))
    (hm_Fill : PySem.W.mroIn K c_Fill (.type "object") = some true)
    (nf_Fill_jug : PySem.W.findIn K (.ref c_Fill) "jug" = some none)
    (ai_Fill : PySem.W.findIn K (.ref c_Fill) "__init__" = some (some (.ref f1)))
    (l1 : K.lookup f1 = some ⟨oc1, od1, .func (PySem.W.fnOf "__init__" "Fill.__init__" (defArgs (inClass (top 14) 0)) (defBody (inClass (top 14) 0)) (defScope (inClass (top 14) 0)) .none kV1 dc1 pm1 an1 cd1 ct1), sl1⟩)
    (c1 : PySem.W.codeIn K cd1 "Fill.__init__" = true)
    (k1 : PySem.W.keepIn K (.ref f1) = true)
    (ji_Fill : PySem.W.isFn K (.ref f1) = true)
    (mk_Fill : PySem.W.makesIn K c_Fill = true)
    (kc_Fill : PySem.W.keepIn K (.ref c_Fill) = true)
    (is_Fill_Move : PySem.W.kitOne K (.ref c_Fill) (.ref c_Move) = some true)
    (is_Fill_Pour : PySem.W.kitOne K (.ref c_Fill) (.ref c_Pour) = some false)
    (is_Fill_Fill : PySem.W.kitOne K (.ref c_Fill) (.ref c_Fill) = some true)
    (ha_Empty : PySem.W.findIn K (.ref c_Empty) "__class__" = some (some (.builtin "object.__class__")))
    (hm_Empty : PySem.W.mroIn K c_Empty (.type "object") = some true)
    (nf_Empty_jug : PySem.W.findIn K (.ref c_Empty) "jug" = some none)
    (ai_Empty : PySem.W.findIn K (.ref c_Empty) "__init__" = some (some (.ref f2)))
    (l2 : K.lookup f2 = some ⟨oc2, od2, .func (PySem.W.fnOf "__init__" "Empty.__init__" (defArgs (inClass (top 15) 0)) (defBody (inClass (top 15) 0)) (defScope (inClass (top 15) 0)) .none kV2 dc2 pm2 an2 cd2 ct2), sl2⟩)
    (c2 : PySem.W.codeIn K cd2 "Empty.__init__" = true)
    (k2 : PySem.W.keepIn K (.ref f2) = true)
    (ji_Empty : PySem.W.isFn K (.ref f2) = true)
    (mk_Empty : PySem.W.makesIn K c_Empty = true)
    (kc_Empty : PySem.W.keepIn K (.ref c_Empty) = true)
    (is_Empty_Move : PySem.W.kitOne K (.ref c_Empty) (.ref c_Move) = some true)
    (is_Empty_Pour : PySem.W.kitOne K (.ref c_Empty) (.ref c_Pour) = some false)
    (is_Empty_Fill : PySem.W.kitOne K (.ref c_Empty) (.ref c_Fill) = some false)
    (nf_House_told : PySem.W.findIn K (.ref c_House) "told" = some none)
    (nf_House_tap : PySem.W.findIn K (.ref c_House) "tap" = some none)
    (ai_House : PySem.W.findIn K (.ref c_House) "__init__" = some (some (.ref f3)))
    (l3 : K.lookup f3 = some ⟨oc3, od3, .func (PySem.W.fnOf "__init__" "House.__init__" (defArgs (inClass (top 20) 0)) (defBody (inClass (top 20) 0)) (defScope (inClass (top 20) 0)) .none kV3 dc3 pm3 an3 cd3 ct3), sl3⟩)
    (c3 : PySem.W.codeIn K cd3 "House.__init__" = true)
    (k3 : PySem.W.keepIn K (.ref f3) = true)
    (ji_House : PySem.W.isFn K (.ref f3) = true)
    (mk_House : PySem.W.makesIn K c_House = true)
    (kc_House : PySem.W.keepIn K (.ref c_House) = true)
    (am_House_sizes : PySem.W.findIn K (.ref c_House) "sizes" = some (some (.ref f4)))
    (l4 : K.lookup f4 = some ⟨oc4, od4, .func (PySem.W.fnOf "sizes" "House.sizes" (defArgs (inClass (top 20) 1)) (defBody (inClass (top 20) 1)) (defScope (inClass (top 20) 1)) .none kV4 dc4 pm4 an4 cd4 ct4), sl4⟩)
    (c4 : PySem.W.codeIn K cd4 "House.sizes" = true)
    (k4 : PySem.W.keepIn K (.ref f4) = true)
    (jm_House_sizes : PySem.W.isFn K (.ref f4) = true)
    (am_House_moves : PySem.W.findIn K (.ref c_House) "moves" = some (some (.ref f5)))
    (l5 : K.lookup f5 = some ⟨oc5, od5, .func (PySem.W.fnOf "moves" "House.moves" (defArgs (inClass (top 20) 3)) (defBody (inClass (top 20) 3)) (defScope (inClass (top 20) 3)) .none kV5 dc5 pm5 an5 cd5 ct5), sl5⟩)
    (c5 : PySem.W.codeIn K cd5 "House.moves" = true)
    (k5 : PySem.W.keepIn K (.ref f5) = true)
    (jm_House_moves : PySem.W.isFn K (.ref f5) = true)
    (ax_JugError : PySem.W.nsIn K mainGlobals "JugError" = some (some (.ref c_JugError)))
    (xi_JugError : PySem.W.excIn K c_JugError [.type "ValueError", .type "Exception", .type "BaseException", .type "object"] "ValueError.__new__" = true)
    (xk_JugError : PySem.W.keepIn K (.ref c_JugError) = true)
    (xb_JugError : PySem.W.subIn K (.ref c_JugError) (.type "BaseException") = some true)
    (xt_JugError : PySem.W.typeIn K (.ref c_JugError) = some (.type "type"))
    (ax_BadHouse : PySem.W.nsIn K mainGlobals "BadHouse" = some (some (.ref c_BadHouse)))
    (xi_BadHouse : PySem.W.excIn K c_BadHouse [.type "ValueError", .type "Exception", .type "BaseException", .type "object"] "ValueError.__new__" = true)
    (xk_BadHouse : PySem.W.keepIn K (.ref c_BadHouse) = true)
    (xb_BadHouse : PySem.W.subIn K (.ref c_BadHouse) (.type "BaseException") = some true)
    (xt_BadHouse : PySem.W.typeIn K (.ref c_BadHouse) = some (.type "type"))
    (ax_BadState : PySem.W.nsIn K mainGlobals "BadState" = some (some (.ref c_BadState)))
    (xi_BadState : PySem.W.excIn K c_BadState [.type "ValueError", .type "Exception", .type "BaseException", .type "object"] "ValueError.__new__" = true)
    (xk_BadState : PySem.W.keepIn K (.ref c_BadState) = true)
    (xb_BadState : PySem.W.subIn K (.ref c_BadState) (.type "BaseException") = some true)
    (xt_BadState : PySem.W.typeIn K (.ref c_BadState) = some (.type "type"))
    (ax_BadMove : PySem.W.nsIn K mainGlobals "BadMove" = some (some (.ref c_BadMove)))
    (xi_BadMove : PySem.W.excIn K c_BadMove [.type "ValueError", .type "Exception", .type "BaseException", .type "object"] "ValueError.__new__" = true)
    (xk_BadMove : PySem.W.keepIn K (.ref c_BadMove) = true)
    (xb_BadMove : PySem.W.subIn K (.ref c_BadMove) (.type "BaseException") = some true)
    (xt_BadMove : PySem.W.typeIn K (.ref c_BadMove) = some (.type "type"))
    (ax_BadGoal : PySem.W.nsIn K mainGlobals "BadGoal" = some (some (.ref c_BadGoal)))
    (xi_BadGoal : PySem.W.excIn K c_BadGoal [.type "ValueError", .type "Exception", .type "BaseException", .type "object"] "ValueError.__new__" = true)
    (xk_BadGoal : PySem.W.keepIn K (.ref c_BadGoal) = true)
    (xb_BadGoal : PySem.W.subIn K (.ref c_BadGoal) (.type "BaseException") = some true)
    (xt_BadGoal : PySem.W.typeIn K (.ref c_BadGoal) = some (.type "type"))
    (ax_BadText : PySem.W.nsIn K mainGlobals "BadText" = some (some (.ref c_BadText)))
    (xi_BadText : PySem.W.excIn K c_BadText [.type "ValueError", .type "Exception", .type "BaseException", .type "object"] "ValueError.__new__" = true)
    (xk_BadText : PySem.W.keepIn K (.ref c_BadText) = true)
    (xb_BadText : PySem.W.subIn K (.ref c_BadText) (.type "BaseException") = some true)
    (xt_BadText : PySem.W.typeIn K (.ref c_BadText) = some (.type "type"))
    (ed_BadHouse : PySem.W.hasDictIn K c_BadHouse = true)
    (es_BadHouse_BadHouse : PySem.W.subIn K (.ref c_BadHouse) (.ref c_BadHouse) = some true)
    (ed_BadMove : PySem.W.hasDictIn K c_BadMove = true)
    (es_BadMove_BadMove : PySem.W.subIn K (.ref c_BadMove) (.ref c_BadMove) = some true)
    (eg_BadText : PySem.W.findIn K (.ref c_BadText) "__getattribute__" = some (some (.builtin "BaseException.__getattribute__")))
    (ek_BadText : PySem.W.findIn K (.ref c_BadText) "__getattr__" = some none)
    (ed_BadText : PySem.W.hasDictIn K c_BadText = true)
    (ea_BadText : PySem.W.findIn K (.ref c_BadText) "__class__" = some (some (.builtin "object.__class__")))
    (em0_BadText : PySem.W.mroIn K c_BadText (.type "object") = some true)
    (ed_JugError : PySem.W.hasDictIn K c_JugError = true)
    (es_BadText_JugError : PySem.W.subIn K (.ref c_BadText) (.ref c_JugError) = some true)
    (isx_BadText_BadHouse : PySem.W.kitOne K (.ref c_BadText) (.ref c_BadHouse) = some false)
    (isx_BadText_BadState : PySem.W.kitOne K (.ref c_BadText) (.ref c_BadState) = some false)
    (isx_BadText_BadMove : PySem.W.kitOne K (.ref c_BadText) (.ref c_BadMove) = some false)
    (es_BadText_BadMove : PySem.W.subIn K (.ref c_BadText) (.ref c_BadMove) = some false)
    (isx_BadText_BadGoal : PySem.W.kitOne K (.ref c_BadText) (.ref c_BadGoal) = some false)
    (isx_BadText_BadText : PySem.W.kitOne K (.ref c_BadText) (.ref c_BadText) = some true)
    (isxv_BadText : PySem.W.kitOne K (.ref c_BadText) (.type "ValueError") = some true)
    (ag_MOST_JUGS : PySem.W.nsIn K mainGlobals "MOST_JUGS" = some (some u_MOST_JUGS))
    (rg_MOST_JUGS : RelV (.int 4) u_MOST_JUGS)
    (ag_GREATEST : PySem.W.nsIn K mainGlobals "GREATEST" = some (some u_GREATEST))
    (rg_GREATEST : RelV (.int 60) u_GREATEST)
    (ag_MOST_STATES : PySem.W.nsIn K mainGlobals "MOST_STATES" = some (some u_MOST_STATES))
    (rg_MOST_STATES : RelV (.int 2000) u_MOST_STATES)
    (ag_FIGURES : PySem.W.nsIn K mainGlobals "FIGURES" = some (some u_FIGURES))
    (rg_FIGURES : RelV (.str "0123456789") u_FIGURES)
    (ad_within : PySem.W.nsIn K mainGlobals "within" = some (some (.ref f6)))
    (l6 : K.lookup f6 = some ⟨oc6, od6, .func (PySem.W.fnOf "within" "within" (defArgs (top 10)) (defBody (top 10)) (defScope (top 10)) .none kV6 dc6 pm6 an6 cd6 ct6), sl6⟩)
    (c6 : PySem.W.codeIn K cd6 "within" = true)
    (k6 : PySem.W.keepIn K (.ref f6) = true)
    (ad_check_jug : PySem.W.nsIn K mainGlobals "check_jug" = some (some (.ref f7)))
    (l7 : K.lookup f7 = some ⟨oc7, od7, .func (PySem.W.fnOf "check_jug" "check_jug" (defArgs (top 11)) (defBody (top 11)) (defScope (top 11)) .none kV7 dc7 pm7 an7 cd7 ct7), sl7⟩)
    (c7 : PySem.W.codeIn K cd7 "check_jug" = true)
    (k7 : PySem.W.keepIn K (.ref f7) = true)
    (ad_check_moves : PySem.W.nsIn K mainGlobals "check_moves" = some (some (.ref f8)))
    (l8 : K.lookup f8 = some ⟨oc8, od8, .func (PySem.W.fnOf "check_moves" "check_moves" (defArgs (top 16)) (defBody (top 16)) (defScope (top 16)) .none kV8 dc8 pm8 an8 cd8 ct8), sl8⟩)
    (c8 : PySem.W.codeIn K cd8 "check_moves" = true)
    (k8 : PySem.W.keepIn K (.ref f8) = true)
    (ad_house_text : PySem.W.nsIn K mainGlobals "house_text" = some (some (.ref f9)))
    (l9 : K.lookup f9 = some ⟨oc9, od9, .func (PySem.W.fnOf "house_text" "house_text" (defArgs (top 23)) (defBody (top 23)) (defScope (top 23)) .none kV9 dc9 pm9 an9 cd9 ct9), sl9⟩)
    (c9 : PySem.W.codeIn K cd9 "house_text" = true)
    (k9 : PySem.W.keepIn K (.ref f9) = true)
    (ad_move_text : PySem.W.nsIn K mainGlobals "move_text" = some (some (.ref f10)))
    (l10 : K.lookup f10 = some ⟨oc10, od10, .func (PySem.W.fnOf "move_text" "move_text" (defArgs (top 24)) (defBody (top 24)) (defScope (top 24)) .none kV10 dc10 pm10 an10 cd10 ct10), sl10⟩)
    (c10 : PySem.W.codeIn K cd10 "move_text" = true)
    (k10 : PySem.W.keepIn K (.ref f10) = true)
    (ad_routine_text : PySem.W.nsIn K mainGlobals "routine_text" = some (some (.ref f11)))
    (l11 : K.lookup f11 = some ⟨oc11, od11, .func (PySem.W.fnOf "routine_text" "routine_text" (defArgs (top 25)) (defBody (top 25)) (defScope (top 25)) .none kV11 dc11 pm11 an11 cd11 ct11), sl11⟩)
    (c11 : PySem.W.codeIn K cd11 "routine_text" = true)
    (k11 : PySem.W.keepIn K (.ref f11) = true)
    (ad_number_in : PySem.W.nsIn K mainGlobals "number_in" = some (some (.ref f12)))
    (l12 : K.lookup f12 = some ⟨oc12, od12, .func (PySem.W.fnOf "number_in" "number_in" (defArgs (top 26)) (defBody (top 26)) (defScope (top 26)) .none kV12 dc12 pm12 an12 cd12 ct12), sl12⟩)
    (c12 : PySem.W.codeIn K cd12 "number_in" = true)
    (k12 : PySem.W.keepIn K (.ref f12) = true)
    (ad_house_of : PySem.W.nsIn K mainGlobals "house_of" = some (some (.ref f13)))
    (l13 : K.lookup f13 = some ⟨oc13, od13, .func (PySem.W.fnOf "house_of" "house_of" (defArgs (top 27)) (defBody (top 27)) (defScope (top 27)) .none kV13 dc13 pm13 an13 cd13 ct13), sl13⟩)
    (c13 : PySem.W.codeIn K cd13 "house_of" = true)
    (k13 : PySem.W.keepIn K (.ref f13) = true)
    (ad_move_of : PySem.W.nsIn K mainGlobals "move_of" = some (some (.ref f14)))
    (l14 : K.lookup f14 = some ⟨oc14, od14, .func (PySem.W.fnOf "move_of" "move_of" (defArgs (top 28)) (defBody (top 28)) (defScope (top 28)) .none kV14 dc14 pm14 an14 cd14 ct14), sl14⟩)
    (c14 : PySem.W.codeIn K cd14 "move_of" = true)
    (k14 : PySem.W.keepIn K (.ref f14) = true)
    (ad_routine_of : PySem.W.nsIn K mainGlobals "routine_of" = some (some (.ref f15)))
    (l15 : K.lookup f15 = some ⟨oc15, od15, .func (PySem.W.fnOf "routine_of" "routine_of" (defArgs (top 29)) (defBody (top 29)) (defScope (top 29)) .none kV15 dc15 pm15 an15 cd15 ct15), sl15⟩)
    (c15 : PySem.W.codeIn K cd15 "routine_of" = true)
    (k15 : PySem.W.keepIn K (.ref f15) = true)
    (ad__law_cell_at : PySem.W.nsIn K mainGlobals "_law_cell_at" = some (some (.ref f16)))
    (l16 : K.lookup f16 = some ⟨oc16, od16, .func (PySem.W.fnOf "_law_cell_at" "_law_cell_at" (defArgs (top 31)) (defBody (top 31)) (defScope (top 31)) .none kV16 dc16 pm16 an16 cd16 ct16), sl16⟩)
    (c16 : PySem.W.codeIn K cd16 "_law_cell_at" = true)
    (k16 : PySem.W.keepIn K (.ref f16) = true)
    (ad__law_draw : PySem.W.nsIn K mainGlobals "_law_draw" = some (some (.ref f17)))
    (l17 : K.lookup f17 = some ⟨oc17, od17, .func (PySem.W.fnOf "_law_draw" "_law_draw" (defArgs (top 32)) (defBody (top 32)) (defScope (top 32)) .none kV17 dc17 pm17 an17 cd17 ct17), sl17⟩)
    (c17 : PySem.W.codeIn K cd17 "_law_draw" = true)
    (k17 : PySem.W.keepIn K (.ref f17) = true)
    (ad__law_sizes : PySem.W.nsIn K mainGlobals "_law_sizes" = some (some (.ref f18)))
    (l18 : K.lookup f18 = some ⟨oc18, od18, .func (PySem.W.fnOf "_law_sizes" "_law_sizes" (defArgs (top 33)) (defBody (top 33)) (defScope (top 33)) .none kV18 dc18 pm18 an18 cd18 ct18), sl18⟩)
    (c18 : PySem.W.codeIn K cd18 "_law_sizes" = true)
    (k18 : PySem.W.keepIn K (.ref f18) = true)
    (ad__law_all_moves : PySem.W.nsIn K mainGlobals "_law_all_moves" = some (some (.ref f19)))
    (l19 : K.lookup f19 = some ⟨oc19, od19, .func (PySem.W.fnOf "_law_all_moves" "_law_all_moves" (defArgs (top 35)) (defBody (top 35)) (defScope (top 35)) .none kV19 dc19 pm19 an19 cd19 ct19), sl19⟩)
    (c19 : PySem.W.codeIn K cd19 "_law_all_moves" = true)
    (k19 : PySem.W.keepIn K (.ref f19) = true)
    (ad__law_move_text : PySem.W.nsIn K mainGlobals "_law_move_text" = some (some (.ref f20)))
    (l20 : K.lookup f20 = some ⟨oc20, od20, .func (PySem.W.fnOf "_law_move_text" "_law_move_text" (defArgs (top 36)) (defBody (top 36)) (defScope (top 36)) .none kV20 dc20 pm20 an20 cd20 ct20), sl20⟩)
    (c20 : PySem.W.codeIn K cd20 "_law_move_text" = true)
    (k20 : PySem.W.keepIn K (.ref f20) = true)
    (ad__law_number : PySem.W.nsIn K mainGlobals "_law_number" = some (some (.ref f21)))
    (l21 : K.lookup f21 = some ⟨oc21, od21, .func (PySem.W.fnOf "_law_number" "_law_number" (defArgs (top 37)) (defBody (top 37)) (defScope (top 37)) .none kV21 dc21 pm21 an21 cd21 ct21), sl21⟩)
    (c21 : PySem.W.codeIn K cd21 "_law_number" = true)
    (k21 : PySem.W.keepIn K (.ref f21) = true)
    (ad__law_house_in : PySem.W.nsIn K mainGlobals "_law_house_in" = some (some (.ref f22)))
    (l22 : K.lookup f22 = some ⟨oc22, od22, .func (PySem.W.fnOf "_law_house_in" "_law_house_in" (defArgs (top 38)) (defBody (top 38)) (defScope (top 38)) .none kV22 dc22 pm22 an22 cd22 ct22), sl22⟩)
    (c22 : PySem.W.codeIn K cd22 "_law_house_in" = true)
    (k22 : PySem.W.keepIn K (.ref f22) = true)
    (ad__law_writes : PySem.W.nsIn K mainGlobals "_law_writes" = some (some (.ref f23)))
    (l23 : K.lookup f23 = some ⟨oc23, od23, .func (PySem.W.fnOf "_law_writes" "_law_writes" (defArgs (top 39)) (defBody (top 39)) (defScope (top 39)) .none kV23 dc23 pm23 an23 cd23 ct23), sl23⟩)
    (c23 : PySem.W.codeIn K cd23 "_law_writes" = true)
    (k23 : PySem.W.keepIn K (.ref f23) = true)
    (ad__law_refused : PySem.W.nsIn K mainGlobals "_law_refused" = some (some (.ref f24)))
    (l24 : K.lookup f24 = some ⟨oc24, od24, .func (PySem.W.fnOf "_law_refused" "_law_refused" (defArgs (top 40)) (defBody (top 40)) (defScope (top 40)) .none kV24 dc24 pm24 an24 cd24 ct24), sl24⟩)
    (c24 : PySem.W.codeIn K cd24 "_law_refused" = true)
    (k24 : PySem.W.keepIn K (.ref f24) = true)
    (ad__law_right : PySem.W.nsIn K mainGlobals "_law_right" = some (some (.ref f25)))
    (l25 : K.lookup f25 = some ⟨oc25, od25, .func (PySem.W.fnOf "_law_right" "_law_right" (defArgs (top 41)) (defBody (top 41)) (defScope (top 41)) .none kV25 dc25 pm25 an25 cd25 ct25), sl25⟩)
    (c25 : PySem.W.codeIn K cd25 "_law_right" = true)
    (k25 : PySem.W.keepIn K (.ref f25) = true)
    (ad__law_few : PySem.W.nsIn K mainGlobals "_law_few" = some (some (.ref f26)))
    (l26 : K.lookup f26 = some ⟨oc26, od26, .func (PySem.W.fnOf "_law_few" "_law_few" (defArgs (top 42)) (defBody (top 42)) (defScope (top 42)) .none kV26 dc26 pm26 an26 cd26 ct26), sl26⟩)
    (c26 : PySem.W.codeIn K cd26 "_law_few" = true)
    (k26 : PySem.W.keepIn K (.ref f26) = true)
    (ad_law : PySem.W.nsIn K mainGlobals "law" = some (some (.ref f27)))
    (l27 : K.lookup f27 = some ⟨oc27, od27, .func (PySem.W.fnOf "law" "law" (defArgs (top 43)) (defBody (top 43)) (defScope (top 43)) .none kV27 dc27 pm27 an27 cd27 ct27), sl27⟩)
    (c27 : PySem.W.codeIn K cd27 "law" = true)
    (k27 : PySem.W.keepIn K (.ref f27) = true)
    (zn_ValueError : PySem.W.nsIn K mainGlobals "ValueError" = some none)
    (zn_all : PySem.W.nsIn K mainGlobals "all" = some none)
    (zn_any : PySem.W.nsIn K mainGlobals "any" = some none)
    (zn_bool : PySem.W.nsIn K mainGlobals "bool" = some none)
    (zn_int : PySem.W.nsIn K mainGlobals "int" = some none)
    (zn_isinstance : PySem.W.nsIn K mainGlobals "isinstance" = some none)
    (zn_len : PySem.W.nsIn K mainGlobals "len" = some none)
    (zn_list : PySem.W.nsIn K mainGlobals "list" = some none)
    (zn_min : PySem.W.nsIn K mainGlobals "min" = some none)
    (zn_range : PySem.W.nsIn K mainGlobals "range" = some none)
    (zn_str : PySem.W.nsIn K mainGlobals "str" = some none)
    : ∃ fd : FuncData, (∀ (s : Shared) (v : Value), BindsTo s fd ⟨[v], []⟩ [("_law_script", v)]) ∧ ∀ base : Heap, K.In base → base.Ns mainGlobals mg → FnOk l.prog w K mg base (CXJ l.prog w) 9 fa fd ["_law_script"] (SpOf (R_law K)) := by
  cases hfa.symm.trans (PySem.W.mg_of X G ad_law)
  have F0 := fun_mk (st := inClass (top 13) 0) l0 c0 k0
  have b0 := F0.binds (ps := ["self", "one", "other"]) fun _ _ _ _ _ _ us hl => match us, hl with | [_, _, _], _ => rfl
  have F1 := fun_mk (st := inClass (top 14) 0) l1 c1 k1
  have b1 := F1.binds (ps := ["self", "jug"]) fun _ _ _ _ _ _ us hl => match us, hl with | [_, _], _ => rfl
  have F2 := fun_mk (st := inClass (top 15) 0) l2 c2 k2
  have b2 := F2.binds (ps := ["self", "jug"]) fun _ _ _ _ _ _ us hl => match us, hl with | [_, _], _ => rfl
  have F3 := fun_mk (st := inClass (top 20) 0) l3 c3 k3
  have b3 := F3.binds (ps := ["self", "sizes", "tap"]) fun _ _ _ _ _ _ us hl => match us, hl with | [_, _, _], _ => rfl
  have F4 := fun_mk (st := inClass (top 20) 1) l4 c4 k4
  have b4 := F4.binds (ps := ["self"]) fun _ _ _ _ _ _ us hl => match us, hl with | [_], _ => rfl
  have F5 := fun_mk (st := inClass (top 20) 3) l5 c5 k5
  have b5 := F5.binds (ps := ["self"]) fun _ _ _ _ _ _ us hl => match us, hl with | [_], _ => rfl
  have F6 := fun_mk (st := top 10) l6 c6 k6
  have b6 := F6.binds (ps := ["number", "low", "high"]) fun _ _ _ _ _ _ us hl => match us, hl with | [_, _, _], _ => rfl
  have F7 := fun_mk (st := top 11) l7 c7 k7
  have b7 := F7.binds (ps := ["jug"]) fun _ _ _ _ _ _ us hl => match us, hl with | [_], _ => rfl
  have F8 := fun_mk (st := top 16) l8 c8 k8
  have b8 := F8.binds (ps := ["moves"]) fun _ _ _ _ _ _ us hl => match us, hl with | [_], _ => rfl
  have F9 := fun_mk (st := top 23) l9 c9 k9
  have b9 := F9.binds (ps := ["house"]) fun _ _ _ _ _ _ us hl => match us, hl with | [_], _ => rfl
  have F10 := fun_mk (st := top 24) l10 c10 k10
  have b10 := F10.binds (ps := ["move"]) fun _ _ _ _ _ _ us hl => match us, hl with | [_], _ => rfl
  have F11 := fun_mk (st := top 25) l11 c11 k11
  have b11 := F11.binds (ps := ["moves"]) fun _ _ _ _ _ _ us hl => match us, hl with | [_], _ => rfl
  have F12 := fun_mk (st := top 26) l12 c12 k12
  have b12 := F12.binds (ps := ["word"]) fun _ _ _ _ _ _ us hl => match us, hl with | [_], _ => rfl
  have F13 := fun_mk (st := top 27) l13 c13 k13
  have b13 := F13.binds (ps := ["text"]) fun _ _ _ _ _ _ us hl => match us, hl with | [_], _ => rfl
  have F14 := fun_mk (st := top 28) l14 c14 k14
  have b14 := F14.binds (ps := ["text"]) fun _ _ _ _ _ _ us hl => match us, hl with | [_], _ => rfl
  have F15 := fun_mk (st := top 29) l15 c15 k15
  have b15 := F15.binds (ps := ["text"]) fun _ _ _ _ _ _ us hl => match us, hl with | [_], _ => rfl
  have F16 := fun_mk (st := top 31) l16 c16 k16
  have b16 := F16.binds (ps := ["_law_script", "_law_k"]) fun _ _ _ _ _ _ us hl => match us, hl with | [_, _], _ => rfl
  have F17 := fun_mk (st := top 32) l17 c17 k17
  have b17 := F17.binds (ps := ["_law_cell", "_law_k", "_law_many"]) fun _ _ _ _ _ _ us hl => match us, hl with | [_, _, _], _ => rfl
  have F18 := fun_mk (st := top 33) l18 c18 k18
  have b18 := F18.binds (ps := ["_law_cell"]) fun _ _ _ _ _ _ us hl => match us, hl with | [_], _ => rfl
  have F19 := fun_mk (st := top 35) l19 c19 k19
  have b19 := F19.binds (ps := ["_law_sizes_here", "_law_tap"]) fun _ _ _ _ _ _ us hl => match us, hl with | [_, _], _ => rfl
  have F20 := fun_mk (st := top 36) l20 c20 k20
  have b20 := F20.binds (ps := ["_law_told"]) fun _ _ _ _ _ _ us hl => match us, hl with | [_], _ => rfl
  have F21 := fun_mk (st := top 37) l21 c21 k21
  have b21 := F21.binds (ps := ["_law_text", "_law_most"]) fun _ _ _ _ _ _ us hl => match us, hl with | [_, _], _ => rfl
  have F22 := fun_mk (st := top 38) l22 c22 k22
  have b22 := F22.binds (ps := ["_law_text"]) fun _ _ _ _ _ _ us hl => match us, hl with | [_], _ => rfl
  have F23 := fun_mk (st := top 39) l23 c23 k23
  have b23 := F23.binds (ps := ["_law_text"]) fun _ _ _ _ _ _ us hl => match us, hl with | [_], _ => rfl
  have F24 := fun_mk (st := top 40) l24 c24 k24
  have b24 := F24.binds (ps := ["_law_ask", "_law_text"]) fun _ _ _ _ _ _ us hl => match us, hl with | [_, _], _ => rfl
  have F25 := fun_mk (st := top 41) l25 c25 k25
  have b25 := F25.binds (ps := ["_law_text"]) fun _ _ _ _ _ _ us hl => match us, hl with | [_], _ => rfl
  have F26 := fun_mk (st := top 42) l26 c26 k26
  have b26 := F26.binds (ps := []) fun _ _ _ _ _ _ us hl => match us, hl with | [], _ => rfl
  have F27 := fun_mk (st := top 43) l27 c27 k27
  have b27 := F27.binds (ps := ["_law_script"]) fun _ _ _ _ _ _ us hl => match us, hl with | [_], _ => rfl
  have T : Top K mg ⟨c_Move, c_Pour, c_Fill, c_Empty, c_House, c_JugError, c_BadHouse, c_BadState, c_BadMove, c_BadGoal, c_BadText, f13, f15⟩ := {
    k_Move := ⟨_, PySem.W.mg_of X G ac_Move, rfl⟩
    k_Pour := ⟨_, PySem.W.mg_of X G ac_Pour, rfl⟩
    ik_Pour := ⟨⟨pg_Pour, hd_Pour, po_Pour, sa_Pour⟩, ha_Pour, hn, tk, hm_Pour⟩
    f_Pour_one := ⟨⟨pg_Pour, hd_Pour, po_Pour, sa_Pour⟩, nf_Pour_one⟩
    f_Pour_other := ⟨⟨pg_Pour, hd_Pour, po_Pour, sa_Pour⟩, nf_Pour_other⟩
    i_Pour := ⟨_, _, F0, ⟨mk_Pour, ai_Pour, ji_Pour, kc_Pour⟩, PySem.W.mg_of X G ac_Pour, b0⟩
    is_Pour_Move := is_Pour_Move
    is_Pour_Pour := is_Pour_Pour
    k_Fill := ⟨_, PySem.W.mg_of X G ac_Fill, rfl⟩
    ik_Fill := ⟨⟨pg_Fill, hd_Fill, po_Fill, sa_Fill⟩, ha_Fill, hn, tk, hm_Fill⟩
    f_Fill_jug := ⟨⟨pg_Fill, hd_Fill, po_Fill, sa_Fill⟩, nf_Fill_jug⟩
    i_Fill := ⟨_, _, F1, ⟨mk_Fill, ai_Fill, ji_Fill, kc_Fill⟩, PySem.W.mg_of X G ac_Fill, b1⟩
    is_Fill_Move := is_Fill_Move
    is_Fill_Pour := is_Fill_Pour
    is_Fill_Fill := is_Fill_Fill
    ik_Empty := ⟨⟨pg_Empty, hd_Empty, po_Empty, sa_Empty⟩, ha_Empty, hn, tk, hm_Empty⟩
    f_Empty_jug := ⟨⟨pg_Empty, hd_Empty, po_Empty, sa_Empty⟩, nf_Empty_jug⟩
    i_Empty := ⟨_, _, F2, ⟨mk_Empty, ai_Empty, ji_Empty, kc_Empty⟩, PySem.W.mg_of X G ac_Empty, b2⟩
    is_Empty_Move := is_Empty_Move
    is_Empty_Pour := is_Empty_Pour
    is_Empty_Fill := is_Empty_Fill
    f_House_told := ⟨⟨pg_House, hd_House, po_House, sa_House⟩, nf_House_told⟩
    f_House_tap := ⟨⟨pg_House, hd_House, po_House, sa_House⟩, nf_House_tap⟩
    i_House := ⟨_, _, F3, ⟨mk_House, ai_House, ji_House, kc_House⟩, PySem.W.mg_of X G ac_House, b3⟩
    m_House_sizes := ⟨_, _, F4, ⟨pg_House, hd_House, po_House, sa_House⟩, ⟨am_House_sizes, jm_House_sizes, k4⟩, b4⟩
    m_House_moves := ⟨_, _, F5, ⟨pg_House, hd_House, po_House, sa_House⟩, ⟨am_House_moves, jm_House_moves, k5⟩, b5⟩
    x_JugError := ⟨xi_JugError, PySem.W.mg_of X G ax_JugError, xk_JugError, xb_JugError, xt_JugError⟩
    x_BadHouse := ⟨xi_BadHouse, PySem.W.mg_of X G ax_BadHouse, xk_BadHouse, xb_BadHouse, xt_BadHouse⟩
    x_BadState := ⟨xi_BadState, PySem.W.mg_of X G ax_BadState, xk_BadState, xb_BadState, xt_BadState⟩
    x_BadMove := ⟨xi_BadMove, PySem.W.mg_of X G ax_BadMove, xk_BadMove, xb_BadMove, xt_BadMove⟩
    x_BadGoal := ⟨xi_BadGoal, PySem.W.mg_of X G ax_BadGoal, xk_BadGoal, xb_BadGoal, xt_BadGoal⟩
    x_BadText := ⟨xi_BadText, PySem.W.mg_of X G ax_BadText, xk_BadText, xb_BadText, xt_BadText⟩
    em_BadHouse_BadHouse := PySem.W.exm_ref xb_BadHouse ed_BadHouse xt_BadHouse es_BadHouse_BadHouse
    em_BadMove_BadMove := PySem.W.exm_ref xb_BadMove ed_BadMove xt_BadMove es_BadMove_BadMove
    ec_BadText := ⟨eg_BadText, ek_BadText, xb_BadText, ed_BadText, ea_BadText, hn, tk, em0_BadText⟩
    em_BadText_JugError := PySem.W.exm_ref xb_JugError ed_JugError xt_JugError es_BadText_JugError
    isx_BadText_BadHouse := isx_BadText_BadHouse
    isx_BadText_BadState := isx_BadText_BadState
    isx_BadText_BadMove := isx_BadText_BadMove
    em_BadText_BadMove := PySem.W.exm_ref xb_BadMove ed_BadMove xt_BadMove es_BadText_BadMove
    isx_BadText_BadGoal := isx_BadText_BadGoal
    isx_BadText_BadText := isx_BadText_BadText
    isxv_BadText := isxv_BadText
    g_MOST_JUGS := ⟨_, PySem.W.mg_of X G ag_MOST_JUGS, rg_MOST_JUGS⟩
    g_GREATEST := ⟨_, PySem.W.mg_of X G ag_GREATEST, rg_GREATEST⟩
    g_MOST_STATES := ⟨_, PySem.W.mg_of X G ag_MOST_STATES, rg_MOST_STATES⟩
    g_FIGURES := ⟨_, PySem.W.mg_of X G ag_FIGURES, rg_FIGURES⟩
    d_within := ⟨_, _, F6, PySem.W.mg_of X G ad_within, b6⟩
    d_check_jug := ⟨_, _, F7, PySem.W.mg_of X G ad_check_jug, b7⟩
    d_check_moves := ⟨_, _, F8, PySem.W.mg_of X G ad_check_moves, b8⟩
    d_house_text := ⟨_, _, F9, PySem.W.mg_of X G ad_house_text, b9⟩
    d_move_text := ⟨_, _, F10, PySem.W.mg_of X G ad_move_text, b10⟩
    d_routine_text := ⟨_, _, F11, PySem.W.mg_of X G ad_routine_text, b11⟩
    d_number_in := ⟨_, _, F12, PySem.W.mg_of X G ad_number_in, b12⟩
    d_house_of := ⟨_, _, F13, PySem.W.mg_of X G ad_house_of, b13⟩
    d_move_of := ⟨_, _, F14, PySem.W.mg_of X G ad_move_of, b14⟩
    d_routine_of := ⟨_, _, F15, PySem.W.mg_of X G ad_routine_of, b15⟩
    d__law_cell_at := ⟨_, _, F16, PySem.W.mg_of X G ad__law_cell_at, b16⟩
    d__law_draw := ⟨_, _, F17, PySem.W.mg_of X G ad__law_draw, b17⟩
    d__law_sizes := ⟨_, _, F18, PySem.W.mg_of X G ad__law_sizes, b18⟩
    d__law_all_moves := ⟨_, _, F19, PySem.W.mg_of X G ad__law_all_moves, b19⟩
    d__law_move_text := ⟨_, _, F20, PySem.W.mg_of X G ad__law_move_text, b20⟩
    d__law_number := ⟨_, _, F21, PySem.W.mg_of X G ad__law_number, b21⟩
    d__law_house_in := ⟨_, _, F22, PySem.W.mg_of X G ad__law_house_in, b22⟩
    d__law_writes := ⟨_, _, F23, PySem.W.mg_of X G ad__law_writes, b23⟩
    d__law_refused := ⟨_, _, F24, PySem.W.mg_of X G ad__law_refused, b24⟩
    d__law_right := ⟨_, _, F25, PySem.W.mg_of X G ad__law_right, b25⟩
    d__law_few := ⟨_, _, F26, PySem.W.mg_of X G ad__law_few, b26⟩
    d_law := ⟨_, _, F27, PySem.W.mg_of X G ad_law, b27⟩
    v_house_of := ⟨_, PySem.W.mg_of X G ad_house_of, rfl⟩
    v_routine_of := ⟨_, PySem.W.mg_of X G ad_routine_of, rfl⟩
    n_ValueError := PySem.W.mg_none_of X G zn_ValueError
    n_all := PySem.W.mg_none_of X G zn_all
    n_any := PySem.W.mg_none_of X G zn_any
    n_bool := PySem.W.mg_none_of X G zn_bool
    n_int := PySem.W.mg_none_of X G zn_int
    n_isinstance := PySem.W.mg_none_of X G zn_isinstance
    n_len := PySem.W.mg_none_of X G zn_len
    n_list := PySem.W.mg_none_of X G zn_list
    n_min := PySem.W.mg_none_of X G zn_min
    n_range := PySem.W.mg_none_of X G zn_range
    n_str := PySem.W.mg_none_of X G zn_str
  }
  exact ⟨_, fun s v => .of_eq rfl, fun base _ _ => ok_law_at T F27⟩
theorem walk {l : PySem.W.OpenLaw} {q : Program} {loose : List Str} {XP : (Str → Option Value) → Heap → Prop} {YP : World → Heap → Prop} {d : DefRec} {K : Params → PySem.W.Frag} (hn : l.most = some 63) (hdf : d.params.defaults = [])
    (hY : ∀ (w : World) (h : Heap), YP w h → (K w.params).In h)
    (F : ∀ (w : World) (mg : Str → Option Value) (fa : Addr) (h : Heap), (K w.params).In h → h.Ns mainGlobals mg → mg d.name = some (.ref fa) →
      ∃ fd : FuncData, (∀ (s : Shared) (u : Value), BindsTo s fd ⟨[u], []⟩ [("_law_script", u)]) ∧ ∀ base : Heap, (K w.params).In base → base.Ns mainGlobals mg → FnOk l.prog w (K w.params) mg base (CXJ l.prog w) 9 fa fd ["_law_script"] (SpOf (R_law (K w.params)))) :
    PySem.W.WalkO q loose XP YP l.row.toRowW d [] (fun f vs => PySem.call f vs) :=
  L2.walk_of (n := 63) (k := 9) (x := "_law_script") (CX := fun w => CXJ l.prog w) (sp := fun w => SpOf (R_law (K w.params))) hn (by decide) hdf ⟨rfl, by decide, by decide⟩ hY F (fun w H a ns hl _ hS => ⟨H, [.v (scrS (K w.params) ns)], .v (bS true), Same.refl H, fun _ _ h => h, .cons ⟨a, rfl, hS⟩ .nil, ⟨ns, rfl, rfl⟩, fun v F' H' g hv => hv⟩) fun _ _ _ _ _ ⟨_, _, _, _, _, _, _, _, _, _, _, _, z⟩ => z
end
end Jug

open PySem PySem.W PyProof.Rows in
set_option maxRecDepth 100000 in
set_option maxHeartbeats 0 in
theorem PySem.Challenge.cw_jughouse_k07_written_holds : PySem.Challenge.rw_jughouse_k07_written.Holds := by
  w_on; o_law; k_head; (case hw => w_witness2)
  k_fill
  refine Jug.walk (l := PySem.Challenge.rw_jughouse_k07_written) rfl rfl (fun w h Y => PySem.W.kIn_of Y) ?F
  case F =>
    intro w mg fa h KX G hmg
    refine' Jug.all_mk KX G hmg ?ac_Move ?ac_Pour ?ac_Fill ?ac_Empty ?ac_House ?pg_Pour ?hd_Pour ?po_Pour ?sa_Pour ?pg_Fill ?hd_Fill ?po_Fill ?sa_Fill ?pg_Empty ?hd_Empty ?po_Empty ?sa_Empty ?pg_House ?hd_House ?po_House ?sa_House ?ha_Pour ?hm_Pour ?hn ?tk ?nf_Pour_one ?nf_Pour_other ?ai_Pour ?l0 ?c0 ?k0 ?ji_Pour ?mk_Pour ?kc_Pour ?is_Pour_Move ?is_Pour_Pour ?ha_Fill ?hm_Fill ?nf_Fill_jug ?ai_Fill ?l1 ?c1 ?k1 ?ji_Fill ?mk_Fill ?kc_Fill ?is_Fill_Move ?is_Fill_Pour ?is_Fill_Fill ?ha_Empty ?hm_Empty ?nf_Empty_jug ?ai_Empty ?l2 ?c2 ?k2 ?ji_Empty ?mk_Empty ?kc_Empty ?is_Empty_Move ?is_Empty_Pour ?is_Empty_Fill ?nf_House_told ?nf_House_tap ?ai_House ?l3 ?c3 ?k3 ?ji_House ?mk_House ?kc_House ?am_House_sizes ?l4 ?c4 ?k4 ?jm_House_sizes ?am_House_moves ?l5 ?c5 ?k5 ?jm_House_moves ?ax_JugError ?xi_JugError ?xk_JugError ?xb_JugError ?xt_JugError ?ax_BadHouse ?xi_BadHouse ?xk_BadHouse ?xb_BadHouse ?xt_BadHouse ?ax_BadState ?xi_BadState ?xk_BadState ?xb_BadState ?xt_BadState ?ax_BadMove ?xi_BadMove ?xk_BadMove ?xb_BadMove ?xt_BadMove ?ax_BadGoal ?xi_BadGoal ?xk_BadGoal ?xb_BadGoal ?xt_BadGoal ?ax_BadText ?xi_BadText ?xk_BadText ?xb_BadText ?xt_BadText ?ed_BadHouse ?es_BadHouse_BadHouse ?ed_BadMove ?es_BadMove_BadMove ?eg_BadText ?ek_BadText ?ed_BadText ?ea_BadText ?em0_BadText ?ed_JugError ?es_BadText_JugError ?isx_BadText_BadHouse ?isx_BadText_BadState ?isx_BadText_BadMove ?es_BadText_BadMove ?isx_BadText_BadGoal ?isx_BadText_BadText ?isxv_BadText ?ag_MOST_JUGS ?rg_MOST_JUGS ?ag_GREATEST ?rg_GREATEST ?ag_MOST_STATES ?rg_MOST_STATES ?ag_FIGURES ?rg_FIGURES ?ad_within ?l6 ?c6 ?k6 ?ad_check_jug ?l7 ?c7 ?k7 ?ad_check_moves ?l8 ?c8 ?k8 ?ad_house_text ?l9 ?c9 ?k9 ?ad_move_text ?l10 ?c10 ?k10 ?ad_routine_text ?l11 ?c11 ?k11 ?ad_number_in ?l12 ?c12 ?k12 ?ad_house_of ?l13 ?c13 ?k13 ?ad_move_of ?l14 ?c14 ?k14 ?ad_routine_of ?l15 ?c15 ?k15 ?ad__law_cell_at ?l16 ?c16 ?k16 ?ad__law_draw ?l17 ?c17 ?k17 ?ad__law_sizes ?l18 ?c18 ?k18 ?ad__law_all_moves ?l19 ?c19 ?k19 ?ad__law_move_text ?l20 ?c20 ?k20 ?ad__law_number ?l21 ?c21 ?k21 ?ad__law_house_in ?l22 ?c22 ?k22 ?ad__law_writes ?l23 ?c23 ?k23 ?ad__law_refused ?l24 ?c24 ?k24 ?ad__law_right ?l25 ?c25 ?k25 ?ad__law_few ?l26 ?c26 ?k26 ?ad_law ?l27 ?c27 ?k27 ?zn_ValueError ?zn_all ?zn_any ?zn_bool ?zn_int ?zn_isinstance ?zn_len ?zn_list ?zn_min ?zn_range ?zn_str
    (case ac_Move => k_is)
    (case ac_Pour => k_is)
    (case ac_Fill => k_is)
    (case ac_Empty => k_is)
    (case ac_House => k_is)
    (case pg_Pour => k_is)
    (case hd_Pour => k_is)
    (case po_Pour => k_is)
    (case sa_Pour => k_is)
    (case pg_Fill => k_is)
    (case hd_Fill => k_is)
    (case po_Fill => k_is)
    (case sa_Fill => k_is)
    (case pg_Empty => k_is)
    (case hd_Empty => k_is)
    (case po_Empty => k_is)
    (case sa_Empty => k_is)
    (case pg_House => k_is)
    (case hd_House => k_is)
    (case po_House => k_is)
    (case sa_House => k_is)
    (case ha_Pour => k_is)
    (case hm_Pour => k_is)
    (case hn => k_is)
    (case tk => k_is)
    (case nf_Pour_one => k_is)
    (case nf_Pour_other => k_is)
    (case ai_Pour => k_is)
    (case l0 => k_is)
    (case c0 => k_is)
    (case k0 => k_is)
    (case ji_Pour => k_is)
    (case mk_Pour => k_is)
    (case kc_Pour => k_is)
    (case is_Pour_Move => kit_is)
    (case is_Pour_Pour => kit_is)
    (case ha_Fill => k_is)
    (case hm_Fill => k_is)
    (case nf_Fill_jug => k_is)
    (case ai_Fill => k_is)
    (case l1 => k_is)
    (case c1 => k_is)
    (case k1 => k_is)
    (case ji_Fill => k_is)
    (case mk_Fill => k_is)
    (case kc_Fill => k_is)
    (case is_Fill_Move => kit_is)
    (case is_Fill_Pour => kit_is)
    (case is_Fill_Fill => kit_is)
    (case ha_Empty => k_is)
    (case hm_Empty => k_is)
    (case nf_Empty_jug => k_is)
    (case ai_Empty => k_is)
    (case l2 => k_is)
    (case c2 => k_is)
    (case k2 => k_is)
    (case ji_Empty => k_is)
    (case mk_Empty => k_is)
    (case kc_Empty => k_is)
    (case is_Empty_Move => kit_is)
    (case is_Empty_Pour => kit_is)
    (case is_Empty_Fill => kit_is)
    (case nf_House_told => k_is)
    (case nf_House_tap => k_is)
    (case ai_House => k_is)
    (case l3 => k_is)
    (case c3 => k_is)
    (case k3 => k_is)
    (case ji_House => k_is)
    (case mk_House => k_is)
    (case kc_House => k_is)
    (case am_House_sizes => k_is)
    (case l4 => k_is)
    (case c4 => k_is)
    (case k4 => k_is)
    (case jm_House_sizes => k_is)
    (case am_House_moves => k_is)
    (case l5 => k_is)
    (case c5 => k_is)
    (case k5 => k_is)
    (case jm_House_moves => k_is)
    (case ax_JugError => k_is)
    (case xi_JugError => k_exc)
    (case xk_JugError => k_is)
    (case xb_JugError => k_is)
    (case xt_JugError => k_is)
    (case ax_BadHouse => k_is)
    (case xi_BadHouse => k_exc)
    (case xk_BadHouse => k_is)
    (case xb_BadHouse => k_is)
    (case xt_BadHouse => k_is)
    (case ax_BadState => k_is)
    (case xi_BadState => k_exc)
    (case xk_BadState => k_is)
    (case xb_BadState => k_is)
    (case xt_BadState => k_is)
    (case ax_BadMove => k_is)
    (case xi_BadMove => k_exc)
    (case xk_BadMove => k_is)
    (case xb_BadMove => k_is)
    (case xt_BadMove => k_is)
    (case ax_BadGoal => k_is)
    (case xi_BadGoal => k_exc)
    (case xk_BadGoal => k_is)
    (case xb_BadGoal => k_is)
    (case xt_BadGoal => k_is)
    (case ax_BadText => k_is)
    (case xi_BadText => k_exc)
    (case xk_BadText => k_is)
    (case xb_BadText => k_is)
    (case xt_BadText => k_is)
    (case ed_BadHouse => k_is)
    (case es_BadHouse_BadHouse => k_is)
    (case ed_BadMove => k_is)
    (case es_BadMove_BadMove => k_is)
    (case eg_BadText => k_is)
    (case ek_BadText => k_is)
    (case ed_BadText => k_is)
    (case ea_BadText => k_is)
    (case em0_BadText => k_is)
    (case ed_JugError => k_is)
    (case es_BadText_JugError => k_is)
    (case isx_BadText_BadHouse => kit_is)
    (case isx_BadText_BadState => kit_is)
    (case isx_BadText_BadMove => kit_is)
    (case es_BadText_BadMove => k_is)
    (case isx_BadText_BadGoal => kit_is)
    (case isx_BadText_BadText => kit_is)
    (case isxv_BadText => kit_is)
    (case ag_MOST_JUGS => k_is)
    (case rg_MOST_JUGS => exact ⟨_, rfl⟩)
    (case ag_GREATEST => k_is)
    (case rg_GREATEST => exact ⟨_, rfl⟩)
    (case ag_MOST_STATES => k_is)
    (case rg_MOST_STATES => exact ⟨_, rfl⟩)
    (case ag_FIGURES => k_is)
    (case rg_FIGURES => exact ⟨_, rfl⟩)
    (case ad_within => k_is)
    (case l6 => k_is)
    (case c6 => k_is)
    (case k6 => k_is)
    (case ad_check_jug => k_is)
    (case l7 => k_is)
    (case c7 => k_is)
    (case k7 => k_is)
    (case ad_check_moves => k_is)
    (case l8 => k_is)
    (case c8 => k_is)
    (case k8 => k_is)
    (case ad_house_text => k_is)
    (case l9 => k_is)
    (case c9 => k_is)
    (case k9 => k_is)
    (case ad_move_text => k_is)
    (case l10 => k_is)
    (case c10 => k_is)
    (case k10 => k_is)
    (case ad_routine_text => k_is)
    (case l11 => k_is)
    (case c11 => k_is)
    (case k11 => k_is)
    (case ad_number_in => k_is)
    (case l12 => k_is)
    (case c12 => k_is)
    (case k12 => k_is)
    (case ad_house_of => k_is)
    (case l13 => k_is)
    (case c13 => k_is)
    (case k13 => k_is)
    (case ad_move_of => k_is)
    (case l14 => k_is)
    (case c14 => k_is)
    (case k14 => k_is)
    (case ad_routine_of => k_is)
    (case l15 => k_is)
    (case c15 => k_is)
    (case k15 => k_is)
    (case ad__law_cell_at => k_is)
    (case l16 => k_is)
    (case c16 => k_is)
    (case k16 => k_is)
    (case ad__law_draw => k_is)
    (case l17 => k_is)
    (case c17 => k_is)
    (case k17 => k_is)
    (case ad__law_sizes => k_is)
    (case l18 => k_is)
    (case c18 => k_is)
    (case k18 => k_is)
    (case ad__law_all_moves => k_is)
    (case l19 => k_is)
    (case c19 => k_is)
    (case k19 => k_is)
    (case ad__law_move_text => k_is)
    (case l20 => k_is)
    (case c20 => k_is)
    (case k20 => k_is)
    (case ad__law_number => k_is)
    (case l21 => k_is)
    (case c21 => k_is)
    (case k21 => k_is)
    (case ad__law_house_in => k_is)
    (case l22 => k_is)
    (case c22 => k_is)
    (case k22 => k_is)
    (case ad__law_writes => k_is)
    (case l23 => k_is)
    (case c23 => k_is)
    (case k23 => k_is)
    (case ad__law_refused => k_is)
    (case l24 => k_is)
    (case c24 => k_is)
    (case k24 => k_is)
    (case ad__law_right => k_is)
    (case l25 => k_is)
    (case c25 => k_is)
    (case k25 => k_is)
    (case ad__law_few => k_is)
    (case l26 => k_is)
    (case c26 => k_is)
    (case k26 => k_is)
    (case ad_law => k_is)
    (case l27 => k_is)
    (case c27 => k_is)
    (case k27 => k_is)
    (case zn_ValueError => k_is)
    (case zn_all => k_is)
    (case zn_any => k_is)
    (case zn_bool => k_is)
    (case zn_int => k_is)
    (case zn_isinstance => k_is)
    (case zn_len => k_is)
    (case zn_list => k_is)
    (case zn_min => k_is)
    (case zn_range => k_is)
    (case zn_str => k_is)


