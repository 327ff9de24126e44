import PyProof.Rows.All
import Wide.All
import OpenK.AllK
import Wide.FinOn
import HandS.ForMost
import HandS.Exc
import HandS.ExcOwn
import HandS.TryOnly
import HandS.WordsExc
import HandS.IsInst
import HandS.TupAny
import HandS.Deep
import HandS.Wide
import HandS.Conv
import HandS.Codes
import HandS.ExcCtx
import HandS.SuiteRaise
import HandS.HotCalls
import HandS.CallLocal
import HandS.ExcIs
import HandS.DeepEq
import HandS.Style
import HandS.TupSets
import HandS.SortRule
import KE.KDictSum
import KE.SortData
import HandS.Rev
import HandS.StrMore
import KE.KxIndex
import HandS.Lambda
import HandS.Nested
import HandS.EndTab
import HandS.EndOwn
import KE.KNestM
import PySem.Challenge.RW_jughouse_k08_refused
set_option Elab.async false
set_option linter.all false
set_option maxRecDepth 100000
set_option maxHeartbeats 4000000
/-! J: an abstract store of pure data with ownership, over the hand layer. -/
namespace J
open PySem PySem.Spec L2

/-- what a call lets out: exceptions whose context is None -/
abbrev CXJ := L2N.CX
/-- every tuple of H stands in F -/
def TupIn (F H : Hp) : Prop := ∀ a vs, H a = some (.tup vs) → F a = some (.tup vs)
/-! ### heaps: F is the part of H that never changes any more -/
structure Grow (F H F' H' : Hp) : Prop where
  ff : Same F F'
  hh : Same H H'
  fh : Same F' H'
  nw : ∀ a, H a ≠ none → F a = none → F' a = none
  tt : TupIn F H → TupIn F' H'
theorem Grow.refl {F H : Hp} (fh : Same F H) : Grow F H F H := ⟨Same.refl F, Same.refl H, fh, fun _ _ h => h, fun t => t⟩
theorem Grow.trans {F H F1 H1 F2 H2 : Hp} (a : Grow F H F1 H1) (b : Grow F1 H1 F2 H2) : Grow F H F2 H2 :=
  ⟨a.ff.trans b.ff, a.hh.trans b.hh, b.fh, fun x h n => b.nw x (fun e => h (a.hh.free e)) (a.nw x h n), fun t => b.tt (a.tt t)⟩
theorem same_upd {H : Hp} {p : Addr} {o : HO} (h : H p = none) : Same H (upd H p o) := fun b u e => by
  rw [upd_ne (ne_of_none e h)]
  exact e
theorem same_updR {F H : Hp} {p : Addr} {o : HO} (s : Same F H) (h : F p = none) : Same F (upd H p o) := fun b u e => by
  rw [upd_ne (ne_of_none e h)]
  exact s b u e
/-- a new object, not yet in F -/
theorem tt_upd {F H : Hp} {p : Addr} {o : HO} (t : TupIn F H) (hn : ∀ vs, o ≠ .tup vs) : TupIn F (upd H p o) := fun a vs e => by
  by_cases ha : a = p
  · subst ha
    rw [upd_same] at e
    exact absurd (Option.some.inj e) (hn vs)
  · rw [upd_ne ha] at e
    exact t a vs e
theorem Grow.newH {F H : Hp} {p : Addr} {o : HO} (fh : Same F H) (h : H p = none) (hn : ∀ vs, o ≠ .tup vs := by intro _ h; cases h) : Grow F H F (upd H p o) :=
  ⟨Same.refl F, same_upd h, same_updR fh (fh.free h), fun _ _ n => n, fun t => tt_upd t hn⟩
/-- a new object, in F at once -/
theorem Grow.newF {F H : Hp} {p : Addr} {o : HO} (fh : Same F H) (h : H p = none) : Grow F H (upd F p o) (upd H p o) := by
  refine ⟨same_upd (fh.free h), same_upd h, fun b u e => ?_, fun a ha n => ?_, fun t a vs e => ?_⟩
  · by_cases hb : b = p
    · subst hb
      rw [upd_same] at e ⊢
      exact e
    · rw [upd_ne hb] at e ⊢
      exact fh b u e
  · have hne : a ≠ p := fun e => ha (by rw [e]; exact h)
    rw [upd_ne hne]
    exact n
  · by_cases ha : a = p
    · subst ha
      rw [upd_same] at e ⊢
      exact e
    · rw [upd_ne ha] at e ⊢
      exact t a vs e
/-- freezing what is new since (F, H) -/
theorem Grow.freeze {F H F' H' : Hp} {p : Addr} {o : HO} (g : Grow F H F' H') (h : H p = none) (hf : F' p = none) (hp : H' p = some o) : Grow F H (upd F' p o) H' := by
  refine ⟨g.ff.trans (same_upd hf), g.hh, fun b u e => ?_, fun a ha n => ?_, fun t a vs e => same_upd hf _ _ (g.tt t a vs e)⟩
  · by_cases hb : b = p
    · subst hb
      rw [upd_same] at e
      rw [← e]
      exact hp
    · rw [upd_ne hb] at e
      exact g.fh b u e
  · have hne : a ≠ p := fun e => ha (by rw [e]; exact h)
    rw [upd_ne hne]
    exact g.nw a ha n

/-! ### what a value is, what an object is -/
structure Slot where
  P : Hp → V → Prop
  mono : ∀ {H H' : Hp} {v : V}, Same H H' → P H v → P H' v
structure Own where
  P : Hp → Addr → HO → Prop
  mono : ∀ {H H' : Hp} {a : Addr} {o : HO}, Same H H' → P H a o → P H' a o
/-- a constant -/
def kS (x : V) : Slot := ⟨fun _ v => v = x, fun _ h => h⟩
abbrev iS (i : Int) : Slot := kS (.int i)
abbrev bS (b : Bool) : Slot := kS (.bl b)
abbrev sS (s : Str) : Slot := kS (.str s)
abbrev nS : Slot := kS .non
/-- what stands for ever at an address -/
def refS (o : Own) : Slot := ⟨fun F v => ∃ a ho, v = .ref a ∧ F a = some ho ∧ o.P F a ho, fun {H H' v} s ⟨a, ho, e, h, p⟩ => ⟨a, ho, e, s a _ h, o.mono s p⟩⟩
abbrev PairS (F : Hp) : List V → List Slot → Prop := Paired fun v S => S.P F v
theorem PairS.mono {F F' : Hp} {vs : List V} {ss : List Slot} (s : Same F F') (h : PairS F vs ss) : PairS F' vs ss := Paired.mapP h fun _ S p => S.mono s p
def lstO (ss : List Slot) : Own := ⟨fun F _ ho => ∃ vs, ho = .lst vs ∧ PairS F vs ss, fun s ⟨vs, e, p⟩ => ⟨vs, e, PairS.mono s p⟩⟩
def tupO (ss : List Slot) : Own := ⟨fun F _ ho => ∃ vs, ho = .tup vs ∧ PairS F vs ss, fun s ⟨vs, e, p⟩ => ⟨vs, e, PairS.mono s p⟩⟩
abbrev PairF (F : Hp) : List (Str × V) → List (Str × Slot) → Prop := Paired fun p q => p.1 = q.1 ∧ q.2.P F p.2
def insO (C : Addr) (fs : List (Str × Slot)) : Own :=
  ⟨fun F _ ho => ∃ dx fv, ho = .ins C dx fv ∧ PairF F fv fs, fun s ⟨dx, fv, e, p⟩ => ⟨dx, fv, e, Paired.mapP p fun _ q z => ⟨z.1, q.2.mono s z.2⟩⟩⟩
/-- a dict with tuple keys (the empty one is both), with keys that are ints or texts -/
def dicO (kvs : List (List Key × Slot)) : Own :=
  ⟨fun F _ ho => ∃ kv, ho = .dT kv ∧ Paired (fun (p : List Key × V) (q : List Key × Slot) => p.1 = q.1 ∧ q.2.P F p.2) kv kvs, fun s ⟨kv, e, p⟩ => ⟨kv, e, Paired.mapP p fun _ q z => ⟨z.1, q.2.mono s z.2⟩⟩⟩
def dikO (kvs : List (Key × Slot)) : Own :=
  ⟨fun F _ ho => ∃ kv, ho = .dK kv ∧ Paired (fun (p : Key × V) (q : Key × Slot) => p.1 = q.1 ∧ q.2.P F p.2) kv kvs, fun s ⟨kv, e, p⟩ => ⟨kv, e, Paired.mapP p fun _ q z => ⟨z.1, q.2.mono s z.2⟩⟩⟩
abbrev lstS (ss : List Slot) : Slot := refS (lstO ss)
abbrev tupS (ss : List Slot) : Slot := refS (tupO ss)
abbrev objS (C : Addr) (fs : List (Str × Slot)) : Slot := refS (insO C fs)

/-! ### the abstract store -/
inductive Ent where
  | un
  | v (S : Slot)
  /-- one's own: may be changed -/
  | ow (o : Own)
  /-- lent: stands as it is while the call runs -/
  | bo (o : Own)
  /-- a new instance whose fields are own objects -/
  | ni (C : Addr) (fs : List (Str × Own))
def ArgOk (F H : Hp) (v : V) : Ent → Prop
  | .v S => S.P F v
  | .bo o => ∃ p ho, v = .ref p ∧ H p = some ho ∧ o.P F p ho
  | _ => False
theorem ArgOk.grow {F H F' H' : Hp} {v : V} {e : Ent} (g : Grow F H F' H') (h : ArgOk F H v e) : ArgOk F' H' v e := by
  cases e with
  | un => exact h
  | v S => exact S.mono g.ff h
  | ow o => exact h
  | ni C fs => exact h
  | bo o =>
    obtain ⟨p, ho, e, hp, q⟩ := h
    exact ⟨p, ho, e, g.hh p _ hp, o.mono g.ff q⟩
def NiF (H0 F H : Hp) (fv : List (Str × V)) (fs : List (Str × Own)) : Prop := Paired (fun a b => a.1 = b.1 ∧ ∃ q ho, a.2 = V.ref q ∧ H0 q = none ∧ F q = none ∧ H q = some ho ∧ b.2.P F q ho) fv fs
/-- a is one of the own objects of the instance in slot i -/
def NiA (F : Hp) (σ : L2.St) (i : Nat) (a : Addr) : Prop := ∃ p C dx fv, σ[i]? = some (some (.ref p)) ∧ F p = some (.ins C dx fv) ∧ V.ref a ∈ fv.map (·.2)
theorem NiA.unset {F : Hp} {σ : L2.St} {i j : Nat} {a : Addr} {x : Option V} (h : NiA F (σ.set j x) i a) (ne : j ≠ i) : NiA F σ i a := by
  obtain ⟨p, C, dx, fv, e, q⟩ := h
  rw [List.getElem?_set_ne ne] at e
  exact ⟨p, C, dx, fv, e, q⟩
structure St (F0 H0 F H : Hp) (σ : L2.St) (δ : List Ent) : Prop where
  g : Grow F0 H0 F H
  len : σ.length = δ.length
  at_ : ∀ (i : Nat) (S : Slot), δ[i]? = some (.v S) → ∃ v, σ[i]? = some (some v) ∧ S.P F v
  ow : ∀ (i : Nat) (o : Own), δ[i]? = some (.ow o) → ∃ p ho, σ[i]? = some (some (.ref p)) ∧ H0 p = none ∧ F p = none ∧ H p = some ho ∧ o.P F p ho
  bo : ∀ (i : Nat) (o : Own), δ[i]? = some (.bo o) → ∃ p ho, σ[i]? = some (some (.ref p)) ∧ H0 p = some ho ∧ o.P F p ho
  sep : ∀ (i j : Nat) (o o' : Own) (p : Addr), i ≠ j → δ[i]? = some (.ow o) → δ[j]? = some (.ow o') → σ[i]? = some (some (.ref p)) → σ[j]? = some (some (.ref p)) → False
  tt : TupIn F H
  ni : ∀ (i : Nat) (C : Addr) (fs : List (Str × Own)), δ[i]? = some (.ni C fs) → ∃ p dx fv, σ[i]? = some (some (.ref p)) ∧ F p = some (.ins C dx fv) ∧ (fv.map (·.2)).Nodup ∧ NiF H0 F H fv fs
  sepn : ∀ (i j : Nat) (o : Own) (a : Addr) (C : Addr) (fs : List (Str × Own)), δ[i]? = some (.ni C fs) → δ[j]? = some (.ow o) → NiA F σ i a → σ[j]? = some (some (.ref a)) → False
section
variable {F0 H0 F H F' H' : Hp} {σ : L2.St} {δ : List Ent}
theorem St.fh (s : St F0 H0 F H σ δ) : Same F H := s.g.fh
theorem NiF.grow (g : Grow F H F' H') {fv : List (Str × V)} {fs : List (Str × Own)} (h : NiF H0 F H fv fs) : NiF H0 F' H' fv fs :=
  Paired.mapP h fun _ b ⟨e, q, ho, e1, h0, hf, hp, z⟩ => ⟨e, q, ho, e1, h0, g.nw q (by rw [hp]; exact fun z => nomatch z) hf, g.hh q _ hp, b.2.mono g.ff z⟩
/-- the own objects of an instance are new and no part of F -/
theorem NiF.mem {fv : List (Str × V)} {fs : List (Str × Own)} (h : NiF H0 F H fv fs) {a : Addr} (ha : V.ref a ∈ fv.map (·.2)) : H0 a = none ∧ F a = none ∧ ∃ ho, H a = some ho := by
  induction h with
  | nil => cases ha
  | @cons x y _ _ p _ ih =>
    obtain ⟨_, q, ho, e1, h0, hf, hp, _⟩ := p
    rcases List.mem_cons.mp ha with e | ha
    · have e : V.ref a = x.2 := e
      rw [e1] at e
      cases e
      exact ⟨h0, hf, ho, hp⟩
    · exact ih ha
theorem NiF.frameH {p : Addr} {u : HO} {fv : List (Str × V)} {fs : List (Str × Own)} (h : NiF H0 F H fv fs) (far : ∀ {a : Addr}, V.ref a ∈ fv.map (·.2) → a ≠ p) : NiF H0 F (upd H p u) fv fs := by
  induction h with
  | nil => exact .nil
  | @cons x y _ _ pp _ ih =>
    obtain ⟨e0, q, ho2, e1, z0, zf, zp, zz⟩ := pp
    refine .cons ⟨e0, q, ho2, e1, z0, zf, ?_, zz⟩ (ih fun ha => far (List.mem_cons_of_mem _ ha))
    rw [upd_ne (far (by rw [← e1]; exact List.mem_cons_self))]
    exact zp
theorem NiF.frameF {p : Addr} {u : HO} (sm : Same F (upd F p u)) {fv : List (Str × V)} {fs : List (Str × Own)} (h : NiF H0 F H fv fs) (far : ∀ {a : Addr}, V.ref a ∈ fv.map (·.2) → a ≠ p) : NiF H0 (upd F p u) H fv fs := by
  induction h with
  | nil => exact .nil
  | @cons x y _ _ pp _ ih =>
    obtain ⟨e0, q2, ho2, e1, z0, zf, zp, zz⟩ := pp
    refine .cons ⟨e0, q2, ho2, e1, z0, ?_, zp, y.2.mono sm zz⟩ (ih fun ha => far (List.mem_cons_of_mem _ ha))
    rw [upd_ne (far (by rw [← e1]; exact List.mem_cons_self))]
    exact zf
theorem St.niA (s : St F0 H0 F H σ δ) {i : Nat} {C : Addr} {fs : List (Str × Own)} (h : δ[i]? = some (.ni C fs)) {a : Addr} (ha : NiA F σ i a) : H0 a = none ∧ F a = none ∧ ∃ ho, H a = some ho := by
  obtain ⟨p, dx, fv, e, hp, _, z⟩ := s.ni i C fs h
  obtain ⟨p', C', dx', fv', e', hp', hm⟩ := ha
  rw [e] at e'
  cases e'
  rw [hp] at hp'
  cases hp'
  exact z.mem hm
theorem NiA.back {F F' : Hp} {σ : L2.St} {i : Nat} {a : Addr} (sm : Same F F') {p C dx : Addr} {fv : List (Str × V)} (e : σ[i]? = some (some (.ref p))) (hp : F p = some (.ins C dx fv)) (h : NiA F' σ i a) : NiA F σ i a := by
  obtain ⟨p', C', dx', fv', e', hp', hm⟩ := h
  rw [e] at e'
  cases e'
  rw [sm _ _ hp] at hp'
  cases hp'
  exact ⟨p, C, dx, fv, e, hp, hm⟩
theorem St.grow (s : St F0 H0 F H σ δ) (g : Grow F H F' H') : St F0 H0 F' H' σ δ where
  g := s.g.trans g
  len := s.len
  at_ := fun i S h => let ⟨v, e, p⟩ := s.at_ i S h; ⟨v, e, S.mono g.ff p⟩
  ow := fun i o h => let ⟨p, ho, e, h0, hf, hp, q⟩ := s.ow i o h; ⟨p, ho, e, h0, g.nw p (by rw [hp]; exact fun z => nomatch z) hf, g.hh p _ hp, o.mono g.ff q⟩
  bo := fun i o h => let ⟨p, ho, e, hp, q⟩ := s.bo i o h; ⟨p, ho, e, hp, o.mono g.ff q⟩
  sep := s.sep
  tt := g.tt s.tt
  ni := fun i C fs h => let ⟨p, dx, fv, e, hp, nd, z⟩ := s.ni i C fs h; ⟨p, dx, fv, e, g.ff p _ hp, nd, z.grow g⟩
  sepn := fun i j o a C fs h1 h2 h3 h4 => let ⟨p, dx, fv, e, hp, nd, z⟩ := s.ni i C fs h1; s.sepn i j o a C fs h1 h2 (h3.back g.ff e hp) h4
/-- F0 taken anew -/
def Base (F0 H0 F1 : Hp) : Prop := ∀ {F' H' : Hp}, Grow F1 H0 F' H' → Grow F0 H0 F' H'
theorem St.base (s : St F0 H0 F H σ δ) : Base F0 H0 F := fun g => ⟨s.g.ff.trans g.ff, g.hh, g.fh, fun a h n => g.nw a h (s.g.nw a h n), fun t => g.tt fun a vs e => s.g.ff a _ (t a vs e)⟩
theorem St.rebase (s : St F0 H0 F H σ δ) : St F H0 F H σ δ := ⟨⟨Same.refl F, s.g.hh, s.g.fh, fun _ _ n => n, fun _ => s.tt⟩, s.len, s.at_, s.ow, s.bo, s.sep, s.tt, s.ni, s.sepn⟩
theorem St.unbase {F1 : Hp} (b : Base F0 H0 F1) (s : St F1 H0 F H σ δ) : St F0 H0 F H σ δ := ⟨b s.g, s.len, s.at_, s.ow, s.bo, s.sep, s.tt, s.ni, s.sepn⟩
theorem get_set {α : Type} {l : List α} {i j : Nat} {x y : α} (h : (l.set i x)[j]? = some y) : (j = i ∧ y = x ∧ i < l.length) ∨ (j ≠ i ∧ l[j]? = some y) := by
  by_cases e : j = i
  · subst e
    have hl : j < l.length := by
      have := (List.getElem?_eq_some_iff.mp h).1
      rwa [List.length_set] at this
    rw [List.getElem?_set_self hl] at h
    exact .inl ⟨rfl, (Option.some.inj h).symm, hl⟩
  · rw [List.getElem?_set_ne (fun z => e z.symm)] at h
    exact .inr ⟨e, h⟩
theorem St.set_v (s : St F0 H0 F H σ δ) {i : Nat} {v : V} {S : Slot} (p : S.P F v) : St F0 H0 F H (σ.set i (some v)) (δ.set i (.v S)) where
  g := s.g
  tt := s.tt
  ni := fun k C fs h => by
    rcases get_set h with ⟨rfl, e, hl⟩ | ⟨ne, h⟩
    · cases e
    · obtain ⟨p, dx, fv, e, q⟩ := s.ni k C fs h
      exact ⟨p, dx, fv, by rw [List.getElem?_set_ne (fun z => ne z.symm)]; exact e, q⟩
  sepn := fun k j o a C fs h1 h2 h3 h4 => by
    rcases get_set h1 with ⟨rfl, e, hl⟩ | ⟨ne1, h1⟩
    · cases e
    · rcases get_set h2 with ⟨rfl, e, hl⟩ | ⟨ne2, h2⟩
      · cases e
      · rw [List.getElem?_set_ne (fun z => ne2 z.symm)] at h4
        exact s.sepn k j o a C fs h1 h2 (h3.unset fun z => ne1 z.symm) h4
  len := by rw [List.length_set, List.length_set]; exact s.len
  at_ := fun j S' h => by
    rcases get_set h with ⟨rfl, e, hl⟩ | ⟨ne, h⟩
    · cases e
      exact ⟨v, List.getElem?_set_self (by rw [s.len]; exact hl), p⟩
    · obtain ⟨w, e, q⟩ := s.at_ j S' h
      exact ⟨w, by rw [List.getElem?_set_ne (fun z => ne z.symm)]; exact e, q⟩
  ow := fun j o h => by
    rcases get_set h with ⟨rfl, e, hl⟩ | ⟨ne, h⟩
    · cases e
    · obtain ⟨w, ho, e, q⟩ := s.ow j o h
      exact ⟨w, ho, by rw [List.getElem?_set_ne (fun z => ne z.symm)]; exact e, q⟩
  bo := fun j o h => by
    rcases get_set h with ⟨rfl, e, hl⟩ | ⟨ne, h⟩
    · cases e
    · obtain ⟨w, ho, e, q⟩ := s.bo j o h
      exact ⟨w, ho, by rw [List.getElem?_set_ne (fun z => ne z.symm)]; exact e, q⟩
  sep := fun j k o o' a ne h1 h2 h3 h4 => by
    rcases get_set h1 with ⟨rfl, e, hl⟩ | ⟨ne1, h1⟩
    · cases e
    · rcases get_set h2 with ⟨rfl, e, hl⟩ | ⟨ne2, h2⟩
      · cases e
      · rw [List.getElem?_set_ne (fun z => ne1 z.symm)] at h3
        rw [List.getElem?_set_ne (fun z => ne2 z.symm)] at h4
        exact s.sep j k o o' a ne h1 h2 h3 h4
/-- a slot forgotten -/
theorem St.set_un (s : St F0 H0 F H σ δ) {i : Nat} (x : Option V) : St F0 H0 F H (σ.set i x) (δ.set i .un) where
  g := s.g
  tt := s.tt
  ni := fun k C fs h => by
    rcases get_set h with ⟨rfl, e, hl⟩ | ⟨ne, h⟩
    · cases e
    · obtain ⟨p, dx, fv, e, q⟩ := s.ni k C fs h
      exact ⟨p, dx, fv, by rw [List.getElem?_set_ne (fun z => ne z.symm)]; exact e, q⟩
  sepn := fun k j o a C fs h1 h2 h3 h4 => by
    rcases get_set h1 with ⟨rfl, e, hl⟩ | ⟨ne1, h1⟩
    · cases e
    · rcases get_set h2 with ⟨rfl, e, hl⟩ | ⟨ne2, h2⟩
      · cases e
      · rw [List.getElem?_set_ne (fun z => ne2 z.symm)] at h4
        exact s.sepn k j o a C fs h1 h2 (h3.unset fun z => ne1 z.symm) h4
  len := by rw [List.length_set, List.length_set]; exact s.len
  at_ := fun j S' h => by
    rcases get_set h with ⟨rfl, e, hl⟩ | ⟨ne, h⟩
    · cases e
    · obtain ⟨w, e, q⟩ := s.at_ j S' h
      exact ⟨w, by rw [List.getElem?_set_ne (fun z => ne z.symm)]; exact e, q⟩
  ow := fun j o h => by
    rcases get_set h with ⟨rfl, e, hl⟩ | ⟨ne, h⟩
    · cases e
    · obtain ⟨w, ho, e, q⟩ := s.ow j o h
      exact ⟨w, ho, by rw [List.getElem?_set_ne (fun z => ne z.symm)]; exact e, q⟩
  bo := fun j o h => by
    rcases get_set h with ⟨rfl, e, hl⟩ | ⟨ne, h⟩
    · cases e
    · obtain ⟨w, ho, e, q⟩ := s.bo j o h
      exact ⟨w, ho, by rw [List.getElem?_set_ne (fun z => ne z.symm)]; exact e, q⟩
  sep := fun j k o o' a ne h1 h2 h3 h4 => by
    rcases get_set h1 with ⟨rfl, e, hl⟩ | ⟨ne1, h1⟩
    · cases e
    · rcases get_set h2 with ⟨rfl, e, hl⟩ | ⟨ne2, h2⟩
      · cases e
      · rw [List.getElem?_set_ne (fun z => ne1 z.symm)] at h3
        rw [List.getElem?_set_ne (fun z => ne2 z.symm)] at h4
        exact s.sep j k o o' a ne h1 h2 h3 h4
/-- a new object given to a slot -/
theorem St.set_ow (s : St F0 H0 F H σ δ) {i : Nat} {p : Addr} {ho : HO} {o : Own} (g : Grow F H F' H') (hn : H p = none) (hf : F' p = none) (hp : H' p = some ho) (q : o.P F' p ho) :
    St F0 H0 F' H' (σ.set i (some (.ref p))) (δ.set i (.ow o)) where
  g := s.g.trans g
  tt := g.tt s.tt
  ni := fun k C fs h => by
    rcases get_set h with ⟨rfl, e, hl⟩ | ⟨ne, h⟩
    · cases e
    · obtain ⟨p, dx, fv, e, q⟩ := (s.grow g).ni k C fs h
      exact ⟨p, dx, fv, by rw [List.getElem?_set_ne (fun z => ne z.symm)]; exact e, q⟩
  sepn := fun k j o2 a C fs h1 h2 h3 h4 => by
    rcases get_set h1 with ⟨_, e, _⟩ | ⟨ne1, g1⟩
    · cases e
    · have g3 := h3.unset fun z => ne1 z.symm
      rcases get_set h2 with ⟨z2, e, hl⟩ | ⟨ne2, g2⟩
      · rw [z2, List.getElem?_set_self (by rw [s.len]; exact hl)] at h4
        have ea : p = a := by cases h4; rfl
        rw [← ea] at g3
        obtain ⟨p', dx, fv, e', hp', nd, z⟩ := s.ni k C fs g1
        obtain ⟨_, _, ho, hh⟩ := s.niA g1 (g3.back g.ff e' hp')
        rw [hn] at hh
        cases hh
      · rw [List.getElem?_set_ne (fun z => ne2 z.symm)] at h4
        exact (s.grow g).sepn k j o2 a C fs g1 g2 g3 h4
  len := by rw [List.length_set, List.length_set]; exact s.len
  at_ := fun j S' h => by
    rcases get_set h with ⟨rfl, e, hl⟩ | ⟨ne, h⟩
    · cases e
    · obtain ⟨w, e, q⟩ := (s.grow g).at_ j S' h
      exact ⟨w, by rw [List.getElem?_set_ne (fun z => ne z.symm)]; exact e, q⟩
  ow := fun j o' h => by
    rcases get_set h with ⟨rfl, e, hl⟩ | ⟨ne, h⟩
    · cases e
      exact ⟨p, ho, List.getElem?_set_self (by rw [s.len]; exact hl), s.g.hh.free hn, hf, hp, q⟩
    · obtain ⟨w, ho, e, q⟩ := (s.grow g).ow j o' h
      exact ⟨w, ho, by rw [List.getElem?_set_ne (fun z => ne z.symm)]; exact e, q⟩
  bo := fun j o h => by
    rcases get_set h with ⟨rfl, e, hl⟩ | ⟨ne, h⟩
    · cases e
    · obtain ⟨w, ho, e, q⟩ := (s.grow g).bo j o h
      exact ⟨w, ho, by rw [List.getElem?_set_ne (fun z => ne z.symm)]; exact e, q⟩
  sep := fun j k o1 o2 a ne h1 h2 h3 h4 => by
    have away : ∀ {m : Nat} {o3 : Own}, δ[m]? = some (.ow o3) → σ[m]? = some (some (V.ref p)) → False := fun {m o3} hm hs => by
      obtain ⟨w, hw, e, _, _, hh, _⟩ := s.ow m o3 hm
      rw [hs] at e
      cases e
      rw [hn] at hh
      cases hh
    rcases get_set h1 with ⟨z1, e, hl⟩ | ⟨ne1, g1⟩
    · rcases get_set h2 with ⟨z2, e', hl'⟩ | ⟨ne2, g2⟩
      · exact ne (z1.trans z2.symm)
      · rw [z1, List.getElem?_set_self (by rw [s.len]; exact hl)] at h3
        rw [List.getElem?_set_ne (fun z => ne2 z.symm)] at h4
        cases h3
        exact away g2 h4
    · rw [List.getElem?_set_ne (fun z => ne1 z.symm)] at h3
      rcases get_set h2 with ⟨z2, e', hl'⟩ | ⟨ne2, g2⟩
      · rw [z2, List.getElem?_set_self (by rw [s.len]; exact hl')] at h4
        cases h4
        exact away g1 h3
      · rw [List.getElem?_set_ne (fun z => ne2 z.symm)] at h4
        exact s.sep j k o1 o2 a ne g1 g2 h3 h4
/-- an own object changed -/
theorem St.mut (s : St F0 H0 F H σ δ) {i : Nat} {p : Addr} {ho : HO} {o o' : Own} (hi : δ[i]? = some (.ow o)) (hs : σ[i]? = some (some (.ref p))) (q : o'.P F p ho) (hn : ∀ vs, ho ≠ .tup vs := by intro _ h; cases h) :
    St F0 H0 F (upd H p ho) σ (δ.set i (.ow o')) := by
  obtain ⟨p', ho', e, h0, hf, hp, _⟩ := s.ow i o hi
  rw [hs] at e
  cases e
  have hl : i < δ.length := (List.getElem?_eq_some_iff.mp hi).1
  refine ⟨⟨s.g.ff, same_updR s.g.hh h0, same_updR s.g.fh hf, s.g.nw, fun _ => tt_upd s.tt hn⟩, by rw [List.length_set]; exact s.len, fun j S' h => ?_, fun j o2 h => ?_, fun j o2 h => ?_, fun j k o1 o2 a ne h1 h2 h3 h4 => ?_, tt_upd s.tt hn, fun k C fs h => ?_, fun k j o2 a C fs h1 h2 h3 h4 => ?_⟩
  · rcases get_set h with ⟨rfl, e, _⟩ | ⟨ne, h⟩
    · cases e
    · exact s.at_ j S' h
  · rcases get_set h with ⟨rfl, e, _⟩ | ⟨ne, h⟩
    · cases e
      exact ⟨p, ho, hs, h0, hf, upd_same, q⟩
    · obtain ⟨w, ho2, e, z0, zf, zp, zq⟩ := s.ow j o2 h
      have hne : w ≠ p := fun z => by
        subst z
        exact s.sep j i o2 o w ne h hi e hs
      exact ⟨w, ho2, e, z0, zf, by rw [upd_ne hne]; exact zp, zq⟩
  · rcases get_set h with ⟨rfl, e, _⟩ | ⟨ne, h⟩
    · cases e
    · exact s.bo j o2 h
  · have h1' : ∃ o3, δ[j]? = some (.ow o3) := by
      rcases get_set h1 with ⟨rfl, e, _⟩ | ⟨_, h⟩
      · exact ⟨o, hi⟩
      · exact ⟨o1, h⟩
    have h2' : ∃ o3, δ[k]? = some (.ow o3) := by
      rcases get_set h2 with ⟨rfl, e, _⟩ | ⟨_, h⟩
      · exact ⟨o, hi⟩
      · exact ⟨o2, h⟩
    obtain ⟨o3, h1'⟩ := h1'
    obtain ⟨o4, h2'⟩ := h2'
    exact s.sep j k o3 o4 a ne h1' h2' h3 h4
  · rcases get_set h with ⟨rfl, e, _⟩ | ⟨ne, h⟩
    · cases e
    · obtain ⟨p2, dx, fv, e2, hp2, nd, z⟩ := s.ni k C fs h
      refine ⟨p2, dx, fv, e2, hp2, nd, ?_⟩
      have far : ∀ {a : Addr}, V.ref a ∈ fv.map (·.2) → a ≠ p := fun {a} ha z => by
        subst z
        exact s.sepn k i o a C fs h hi ⟨p2, C, dx, fv, e2, hp2, ha⟩ hs
      exact z.frameH far
  · rcases get_set h1 with ⟨_, e, _⟩ | ⟨ne1, g1⟩
    · cases e
    · rcases get_set h2 with ⟨z2, e, _⟩ | ⟨ne2, g2⟩
      · exact s.sepn k i o a C fs g1 hi h3 (z2 ▸ h4)
      · exact s.sepn k j o2 a C fs g1 g2 h3 h4
/-- an own object never changed any more -/
theorem St.freeze (s : St F0 H0 F H σ δ) {i : Nat} {o : Own} (hi : δ[i]? = some (.ow o)) : ∃ F', St F0 H0 F' H σ (δ.set i (.v (refS o))) := by
  obtain ⟨p, ho, hs, h0, hf, hp, q⟩ := s.ow i o hi
  have hl : i < δ.length := (List.getElem?_eq_some_iff.mp hi).1
  have sm : Same F (upd F p ho) := same_upd hf
  refine ⟨upd F p ho, s.g.freeze h0 hf hp, by rw [List.length_set]; exact s.len, fun j S' h => ?_, fun j o2 h => ?_, fun j o2 h => ?_, fun j k o1 o2 a ne h1 h2 h3 h4 => ?_, fun a vs e => sm _ _ (s.tt a vs e), fun k C fs h => ?_, fun k j o2 a C fs h1 h2 h3 h4 => ?_⟩
  · rcases get_set h with ⟨rfl, e, _⟩ | ⟨ne, h⟩
    · cases e
      exact ⟨.ref p, hs, p, ho, rfl, upd_same, o.mono sm q⟩
    · obtain ⟨w, e, q⟩ := s.at_ j S' h
      exact ⟨w, e, S'.mono sm q⟩
  · rcases get_set h with ⟨rfl, e, _⟩ | ⟨ne, h⟩
    · cases e
    · obtain ⟨w, ho2, e, z0, zf, zp, zq⟩ := s.ow j o2 h
      have hne : w ≠ p := fun z => by
        subst z
        exact s.sep j i o2 o w ne h hi e hs
      exact ⟨w, ho2, e, z0, by rw [upd_ne hne]; exact zf, zp, o2.mono sm zq⟩
  · rcases get_set h with ⟨rfl, e, _⟩ | ⟨ne, h⟩
    · cases e
    · obtain ⟨w, ho2, e, z0, zq⟩ := s.bo j o2 h
      exact ⟨w, ho2, e, z0, o2.mono sm zq⟩
  · rcases get_set h1 with ⟨rfl, e, _⟩ | ⟨_, h1⟩
    · cases e
    · rcases get_set h2 with ⟨rfl, e, _⟩ | ⟨_, h2⟩
      · cases e
      · exact s.sep j k o1 o2 a ne h1 h2 h3 h4
  · rcases get_set h with ⟨rfl, e, _⟩ | ⟨ne, h⟩
    · cases e
    · obtain ⟨p2, dx, fv, e2, hp2, nd, z⟩ := s.ni k C fs h
      refine ⟨p2, dx, fv, e2, sm _ _ hp2, nd, ?_⟩
      have far : ∀ {a : Addr}, V.ref a ∈ fv.map (·.2) → a ≠ p := fun {a} ha z => by
        subst z
        exact s.sepn k i o a C fs h hi ⟨p2, C, dx, fv, e2, hp2, ha⟩ hs
      exact z.frameF sm far
  · rcases get_set h1 with ⟨_, e, _⟩ | ⟨ne1, g1⟩
    · cases e
    · rcases get_set h2 with ⟨_, e, _⟩ | ⟨ne2, g2⟩
      · cases e
      · obtain ⟨p2, dx, fv, e2, hp2, nd, z⟩ := s.ni k C fs g1
        exact s.sepn k j o2 a C fs g1 g2 (h3.back sm e2 hp2) h4
end
end J

namespace J
open PySem PySem.Spec L2

/-! ### judgements -/
/-- an expression gives what e says -/
def EvE (te : TE) (δ : List Ent) (e : Ent) : Prop := ∀ (F0 H0 F H : Hp) (σ : L2.St), St F0 H0 F H σ δ → ∀ Q : VK, (∀ v F' H', Grow F H F' H' → ArgOk F' H' v e → Q v H') → te σ H Q
/-- .. a new object -/
def EvO (te : TE) (δ : List Ent) (o : Own) : Prop := ∀ (F0 H0 F H : Hp) (σ : L2.St), St F0 H0 F H σ δ → ∀ Q : VK, (∀ p ho F' H', Grow F H F' H' → H p = none → F' p = none → H' p = some ho → o.P F' p ho → Q (.ref p) H') → te σ H Q
def EvT (tt : TT) (δ : List Ent) (b : Bool) : Prop := ∀ (F0 H0 F H : Hp) (σ : L2.St), St F0 H0 F H σ δ → ∀ Q : Bool → Hp → Prop, (∀ F' H', Grow F H F' H' → Q b H') → tt σ H Q
def EvAs (ta : TA) (δ : List Ent) (es : List Ent) : Prop := ∀ (F0 H0 F H : Hp) (σ : L2.St), St F0 H0 F H σ δ → ∀ Q : List V → Hp → Prop, (∀ vs F' H', Grow F H F' H' → Paired (ArgOk F' H') vs es → Q vs H') → ta σ H Q
/-- .. raises: E is the wish -/
def EvX (te : TE) (δ : List Ent) (E : XK) (c : Addr) : Prop := ∀ (F0 H0 F H : Hp) (σ : L2.St), St F0 H0 F H σ δ → (∀ F' H', Grow F H F' H' → E (.ref c) none H') → ∀ Q : VK, te σ H Q
section
variable {te ta tb : TE} {tt tu : TT} {δ : List Ent} {e e1 e2 e3 : Ent} {o : Own} {S : Slot}
theorem EvO.v (h : EvO te δ o) : EvE te δ (.v (refS o)) := fun F0 H0 F H σ s Q q => h F0 H0 F H σ s Q fun p ho F' H' g hn hf hp ho' =>
  q _ (upd F' p ho) H' (g.freeze hn hf hp) ⟨p, ho, rfl, upd_same, o.mono (same_upd hf) ho'⟩
theorem EvO.b (h : EvO te δ o) : EvE te δ (.bo o) := fun F0 H0 F H σ s Q q => h F0 H0 F H σ s Q fun p ho F' H' g hn hf hp ho' => q _ F' H' g ⟨p, ho, rfl, hp, ho'⟩
theorem EvE.b (h : EvE te δ (.v (refS o))) : EvE te δ (.bo o) := fun F0 H0 F H σ s Q q => h F0 H0 F H σ s Q fun v F' H' g ⟨p, ho, e, hp, z⟩ => q v F' H' g ⟨p, ho, e, g.fh p _ hp, z⟩
theorem EvE.to (h : EvE te δ e) (k : e = e1) : EvE te δ e1 := k ▸ h
theorem EvO.to {o' : Own} (h : EvO te δ o) (k : o = o') : EvO te δ o' := k ▸ h
theorem EvT.to {a b : Bool} (h : EvT tt δ a) (k : a = b) : EvT tt δ b := k ▸ h
/-- names -/
theorem ev_v {i : Nat} (h : δ[i]? = some (.v S)) : EvE (tVar i) δ (.v S) := fun F0 H0 F H σ s Q q => let ⟨v, e, p⟩ := s.at_ i S h; ⟨v, e, q v F H (Grow.refl s.fh) p⟩
theorem ev_ow {i : Nat} (h : δ[i]? = some (.ow o)) : EvE (tVar i) δ (.bo o) := fun F0 H0 F H σ s Q q => let ⟨p, ho, e, _, _, hp, z⟩ := s.ow i o h; ⟨.ref p, e, q _ F H (Grow.refl s.fh) ⟨p, ho, rfl, hp, z⟩⟩
theorem ev_bo {i : Nat} (h : δ[i]? = some (.bo o)) : EvE (tVar i) δ (.bo o) := fun F0 H0 F H σ s Q q =>
  let ⟨p, ho, e, hp, z⟩ := s.bo i o h
  ⟨.ref p, e, q _ F H (Grow.refl s.fh) ⟨p, ho, rfl, s.g.hh p _ hp, z⟩⟩
theorem ev_c {v : V} : EvE (tC v) δ (.v (kS v)) := fun F0 H0 F H σ s Q q => q v F H (Grow.refl s.fh) rfl

/-! ### operators on values -/
def OpE (r : R2) (e1 e2 e3 : Ent) : Prop := ∀ (F H : Hp) (x y : V), Same F H → ArgOk F H x e1 → ArgOk F H y e2 → ∀ Q : VK, (∀ v F' H', Grow F H F' H' → ArgOk F' H' v e3 → Q v H') → r x y H Q
def OpO (r : R2) (e1 e2 : Ent) (o : Own) : Prop := ∀ (F H : Hp) (x y : V), Same F H → ArgOk F H x e1 → ArgOk F H y e2 → ∀ Q : VK, (∀ p ho F' H', Grow F H F' H' → H p = none → F' p = none → H' p = some ho → o.P F' p ho → Q (.ref p) H') → r x y H Q
theorem ev_op {r : R2} (ha : EvE ta δ e1) (hb : EvE tb δ e2) (hr : OpE r e1 e2 e3) : EvE (tOp r ta tb) δ e3 := fun F0 H0 F H σ s Q q =>
  ha F0 H0 F H σ s _ fun x F1 H1 g1 a1 => hb F0 H0 F1 H1 σ (s.grow g1) _ fun y F2 H2 g2 a2 => hr F2 H2 x y g2.fh (a1.grow g2) a2 Q fun v F3 H3 g3 a3 => q v F3 H3 ((g1.trans g2).trans g3) a3
theorem eo_op {r : R2} (ha : EvE ta δ e1) (hb : EvE tb δ e2) (hr : OpO r e1 e2 o) : EvO (tOp r ta tb) δ o := fun F0 H0 F H σ s Q q =>
  ha F0 H0 F H σ s _ fun x F1 H1 g1 a1 => hb F0 H0 F1 H1 σ (s.grow g1) _ fun y F2 H2 g2 a2 => hr F2 H2 x y g2.fh (a1.grow g2) a2 Q fun p ho F3 H3 g3 hn hf hp z =>
    q p ho F3 H3 ((g1.trans g2).trans g3) ((g1.hh.trans g2.hh).free hn) hf hp z
def UnE (r : V → Hp → VK → Prop) (e1 e2 : Ent) : Prop := ∀ (F H : Hp) (x : V), Same F H → ArgOk F H x e1 → ∀ Q : VK, (∀ v F' H', Grow F H F' H' → ArgOk F' H' v e2 → Q v H') → r x H Q
theorem ev_un {r : V → Hp → VK → Prop} (ha : EvE ta δ e1) (hr : UnE r e1 e2) : EvE (tUn r ta) δ e2 := fun F0 H0 F H σ s Q q =>
  ha F0 H0 F H σ s _ fun x F1 H1 g1 a1 => hr F1 H1 x g1.fh a1 Q fun v F3 H3 g3 a3 => q v F3 H3 (g1.trans g3) a3
theorem OpE.inl {r r' : R2} (h : OpE r e1 e2 e3) : OpE (fun x y H Q => r x y H Q ∨ r' x y H Q) e1 e2 e3 := fun F H x y s a b Q q => .inl (h F H x y s a b Q q)
theorem OpE.inr {r r' : R2} (h : OpE r' e1 e2 e3) : OpE (fun x y H Q => r x y H Q ∨ r' x y H Q) e1 e2 e3 := fun F H x y s a b Q q => .inr (h F H x y s a b Q q)
theorem OpO.inl {r r' : R2} (h : OpO r e1 e2 o) : OpO (fun x y H Q => r x y H Q ∨ r' x y H Q) e1 e2 o := fun F H x y s a b Q q => .inl (h F H x y s a b Q q)
theorem OpO.inr {r r' : R2} (h : OpO r' e1 e2 o) : OpO (fun x y H Q => r x y H Q ∨ r' x y H Q) e1 e2 o := fun F H x y s a b Q q => .inr (h F H x y s a b Q q)
theorem op_k {r : R2} {x y z : V} (h : ∀ (H : Hp) (Q : VK), Q z H → r x y H Q) : OpE r (.v (kS x)) (.v (kS y)) (.v (kS z)) := fun F H a b s ha hb Q q => by
  cases ha
  cases hb
  exact h H Q (q _ F H (Grow.refl s) rfl)
theorem op_I0 {g : Int → Int → V} {i j : Int} : OpE (rI0 g) (.v (iS i)) (.v (iS j)) (.v (kS (g i j))) := op_k fun _ _ q => ⟨i, j, rfl, rfl, q⟩
theorem op_I {C : Int → Int → Prop} {g : Int → Int → V} {i j : Int} (h : C i j) : OpE (rI C g) (.v (iS i)) (.v (iS j)) (.v (kS (g i j))) := op_k fun _ _ q => ⟨i, j, rfl, rfl, h, q⟩
theorem op_Eq {x y : V} (h : scal x y = true) : OpE rEq (.v (kS x)) (.v (kS y)) (.v (bS (decide (x = y)))) := op_k fun _ _ q => ⟨h, q⟩
theorem op_Ne {x y : V} (h : scal x y = true) : OpE rNe (.v (kS x)) (.v (kS y)) (.v (bS (!decide (x = y)))) := op_k fun _ _ q => ⟨h, q⟩
theorem un_I {g : Int → V} {i : Int} : UnE (rU g) (.v (iS i)) (.v (kS (g i))) := fun F H x s ha Q q => by
  cases ha
  exact ⟨i, rfl, q _ F H (Grow.refl s) rfl⟩

/-! ### what is read: given, or lent -/
def IsR (e : Ent) (o : Own) : Prop := e = .bo o ∨ e = .v (refS o)
theorem IsR.get {F H : Hp} {x : V} (h : IsR e o) (a : ArgOk F H x e) (s : Same F H) : ∃ p ho, x = .ref p ∧ H p = some ho ∧ o.P F p ho := by
  rcases h with rfl | rfl
  · exact a
  · obtain ⟨p, ho, e, hp, z⟩ := a
    exact ⟨p, ho, e, s p _ hp, z⟩
theorem isR_b : IsR (.bo o) o := .inl rfl
theorem isR_v : IsR (.v (refS o)) o := .inr rfl
theorem PairS.get {F : Hp} : ∀ {vs : List V} {ss : List Slot} {i : Nat} {S : Slot}, PairS F vs ss → ss[i]? = some S → ∃ v, vs[i]? = some v ∧ S.P F v
  | _, _, _, _, .nil, h => by simp at h
  | _, _, 0, _, .cons p _, h => by cases h; exact ⟨_, rfl, p⟩
  | _, _, i + 1, _, .cons _ t, h => by
    obtain ⟨v, e, p⟩ := PairS.get (i := i) t (by simpa using h)
    exact ⟨v, by simpa using e, p⟩
theorem PairS.kmap {F : Hp} {α : Type} {f : α → V} : ∀ {vs : List V} {xs : List α}, PairS F vs (xs.map fun x => kS (f x)) → vs = xs.map f
  | [], [], _ => rfl
  | _, x :: xs, .cons p t => by
    cases p
    rw [PairS.kmap t]
    rfl
theorem PairS.ofk {F : Hp} {α : Type} (f : α → V) : ∀ xs : List α, PairS F (xs.map f) (xs.map fun x => kS (f x))
  | [] => .nil
  | x :: xs => .cons rfl (PairS.ofk f xs)
theorem PairS.app {F : Hp} : ∀ {vs ws : List V} {ss ts : List Slot}, PairS F vs ss → PairS F ws ts → PairS F (vs ++ ws) (ss ++ ts)
  | _, _, _, _, .nil, h => h
  | _, _, _, _, .cons p t, h => .cons p (PairS.app t h)
theorem PairS.take {F : Hp} : ∀ {vs : List V} {ss : List Slot} (n : Nat), PairS F vs ss → PairS F (vs.take n) (ss.take n)
  | _, _, 0, _ => .nil
  | _, _, _ + 1, .nil => .nil
  | _, _, n + 1, .cons p t => .cons p (PairS.take n t)
theorem PairS.drop {F : Hp} : ∀ {vs : List V} {ss : List Slot} (n : Nat), PairS F vs ss → PairS F (vs.drop n) (ss.drop n)
  | _, _, 0, h => h
  | _, _, _ + 1, .nil => .nil
  | _, _, n + 1, .cons p t => PairS.drop n t

/-! ### tests -/
theorem et_B {b : Bool} (h : EvE te δ (.v (bS b))) : EvT (tB te) δ b := fun F0 H0 F H σ s Q q => h F0 H0 F H σ s _ fun v F' H' g a => ⟨b, a, q F' H' g⟩
theorem et_Test {b : Bool} (h : EvE te δ (.v (bS b))) : EvT (tTest te) δ b := fun F0 H0 F H σ s Q q => h F0 H0 F H σ s _ fun v F' H' g a => ⟨b, a, q F' H' g⟩
theorem et_and {a b : Bool} (h1 : EvT tt δ a) (h2 : a = true → EvT tu δ b) : EvT (tAnd tt tu) δ (a && b) := fun F0 H0 F H σ s Q q => h1 F0 H0 F H σ s _ fun F1 H1 g1 => by
  cases a with
  | true =>
    show tu σ H1 Q
    exact h2 rfl F0 H0 F1 H1 σ (s.grow g1) Q fun F2 H2 g2 => q F2 H2 (g1.trans g2)
  | false =>
    show Q false H1
    exact q F1 H1 g1
theorem et_or {a b : Bool} (h1 : EvT tt δ a) (h2 : a = false → EvT tu δ b) : EvT (tOr tt tu) δ (a || b) := fun F0 H0 F H σ s Q q => h1 F0 H0 F H σ s _ fun F1 H1 g1 => by
  cases a with
  | true =>
    show Q true H1
    exact q F1 H1 g1
  | false =>
    show tu σ H1 Q
    exact h2 rfl F0 H0 F1 H1 σ (s.grow g1) Q fun F2 H2 g2 => q F2 H2 (g1.trans g2)
theorem et_not {a : Bool} (h1 : EvT tt δ a) : EvT (tNot tt) δ (!a) := fun F0 H0 F H σ s Q q => h1 F0 H0 F H σ s _ fun F1 H1 g1 => q F1 H1 g1
theorem et_yes : EvT tYes δ true := fun F0 H0 F H σ s Q q => q F H (Grow.refl s.fh)
theorem ev_and {a b : Bool} (h1 : EvE ta δ (.v (bS a))) (h2 : a = true → EvE tb δ (.v (bS b))) : EvE (tAndV ta tb) δ (.v (bS (a && b))) := fun F0 H0 F H σ s Q q => h1 F0 H0 F H σ s _ fun v F1 H1 g1 hv => ⟨a, hv, by
  cases a with
  | true =>
    show tb σ H1 Q
    exact h2 rfl F0 H0 F1 H1 σ (s.grow g1) Q fun v F2 H2 g2 hv => q v F2 H2 (g1.trans g2) hv
  | false =>
    show Q (.bl false) H1
    exact q _ F1 H1 g1 rfl⟩
theorem ev_or {a b : Bool} (h1 : EvE ta δ (.v (bS a))) (h2 : a = false → EvE tb δ (.v (bS b))) : EvE (tOrV ta tb) δ (.v (bS (a || b))) := fun F0 H0 F H σ s Q q => h1 F0 H0 F H σ s _ fun v F1 H1 g1 hv => ⟨a, hv, by
  cases a with
  | true =>
    show Q (.bl true) H1
    exact q _ F1 H1 g1 rfl
  | false =>
    show tb σ H1 Q
    exact h2 rfl F0 H0 F1 H1 σ (s.grow g1) Q fun v F2 H2 g2 hv => q v F2 H2 (g1.trans g2) hv⟩
theorem ev_not {a : Bool} (h1 : EvE ta δ (.v (bS a))) : EvE (tNotV ta) δ (.v (bS (!a))) := fun F0 H0 F H σ s Q q => h1 F0 H0 F H σ s _ fun v F1 H1 g1 hv => ⟨a, hv, q _ F1 H1 g1 rfl⟩
theorem ev_if {b : Bool} (h : EvT tt δ b) (h1 : b = true → EvE ta δ e) (h2 : b = false → EvE tb δ e) : EvE (tIf tt ta tb) δ e := fun F0 H0 F H σ s Q q => h F0 H0 F H σ s _ fun F1 H1 g1 => by
  cases b with
  | true =>
    show ta σ H1 Q
    exact h1 rfl F0 H0 F1 H1 σ (s.grow g1) Q fun v F2 H2 g2 hv => q v F2 H2 (g1.trans g2) hv
  | false =>
    show tb σ H1 Q
    exact h2 rfl F0 H0 F1 H1 σ (s.grow g1) Q fun v F2 H2 g2 hv => q v F2 H2 (g1.trans g2) hv
theorem ev_ifTF {b : Bool} {a1 a2 : V} (h : EvT tt δ b) (h1 : b = true → EvE ta δ (.v (kS a1))) (h2 : b = false → EvE tb δ (.v (kS a2))) : EvE (tIf tt ta tb) δ (.v (kS (if b = true then a1 else a2))) := by
  refine ev_if h (fun e => ?_) (fun e => ?_)
  · rw [if_pos e]
    exact h1 e
  · rw [e, if_neg Bool.false_ne_true]
    exact h2 e
theorem ev_chain {r r' : R2} {tc : TE} {a b : Bool} (h1 : EvE ta δ e1) (h2 : EvE tb δ e2) (h3 : a = true → EvE tc δ e3) (o1 : OpE r e1 e2 (.v (bS a))) (o2 : a = true → OpE r' e2 e3 (.v (bS b))) :
    EvE (tChain r r' ta tb tc) δ (.v (bS (a && b))) := fun F0 H0 F H σ s Q q =>
  h1 F0 H0 F H σ s _ fun x F1 H1 g1 a1 => h2 F0 H0 F1 H1 σ (s.grow g1) _ fun y F2 H2 g2 a2 => o1 F2 H2 x y g2.fh (a1.grow g2) a2 _ fun v F3 H3 g3 a3 => ⟨a, a3, by
    have g := (g1.trans g2).trans g3
    cases a with
    | true =>
      show tc σ H3 _
      exact h3 rfl F0 H0 F3 H3 σ (s.grow g) _ fun z F4 H4 g4 a4 => o2 rfl F4 H4 y z g4.fh ((a2.grow g3).grow g4) a4 Q fun v F5 H5 g5 a5 => q v F5 H5 ((g.trans g4).trans g5) a5
    | false =>
      show Q (.bl false) H3
      exact q _ F3 H3 g rfl⟩

/-! ### arguments, displays -/
variable {tr : TA} {es : List Ent}
theorem ea_nil : EvAs tNil δ [] := fun F0 H0 F H σ s Q q => q [] F H (Grow.refl s.fh) .nil
theorem ea_cons (h : EvE te δ e) (hr : EvAs tr δ es) : EvAs (tCons te tr) δ (e :: es) := fun F0 H0 F H σ s Q q =>
  h F0 H0 F H σ s _ fun x F1 H1 g1 a1 => hr F0 H0 F1 H1 σ (s.grow g1) _ fun vs F2 H2 g2 a2 => q _ F2 H2 (g1.trans g2) (.cons (a1.grow g2) a2)
theorem args_v {F H : Hp} : ∀ {vs : List V} {ss : List Slot}, Paired (ArgOk F H) vs (ss.map .v) → PairS F vs ss
  | _, [], .nil => .nil
  | _, _ :: _, .cons p t => .cons p (args_v t)
theorem eo_lst {ta : TA} {ss : List Slot} (h : EvAs ta δ (ss.map .v)) (hl : ss.length ≤ 100000) : EvO (tLst ta) δ (lstO ss) := fun F0 H0 F H σ s Q q =>
  h F0 H0 F H σ s _ fun vs F1 H1 g1 a1 => ⟨by rw [(args_v a1).length]; exact Nat.le_trans hl (by decide), fun p hp =>
    q p _ F1 _ (g1.trans (Grow.newH g1.fh hp)) (g1.hh.free hp) (g1.fh.free hp) upd_same ⟨vs, rfl, args_v a1⟩⟩
theorem ev_tup {ta : TA} {ss : List Slot} (h : EvAs ta δ (ss.map .v)) (hl : ss.length ≤ 100000) : EvE (tTup ta) δ (.v (tupS ss)) := fun F0 H0 F H σ s Q q =>
  h F0 H0 F H σ s _ fun vs F1 H1 g1 a1 => ⟨by rw [(args_v a1).length]; exact Nat.le_trans hl (by decide), fun p hp => by
    have g2 := Grow.newF (o := .tup vs) g1.fh hp
    exact q _ _ _ (g1.trans g2) ⟨p, _, rfl, upd_same, vs, rfl, PairS.mono g2.ff (args_v a1)⟩⟩
theorem size_ok {n : Nat} (h : n ≤ 100000) : n ≤ sizeLine := Nat.le_trans h (by decide)
end

/-! ### calls: what a def promises -/
inductive Res where
  | v (S : Slot)
  | o (o : Own)
  | x (c : Addr)
  /-- a tuple of two own objects -/
  | p (o1 o2 : Own)
  /-- a new instance whose fields are own objects -/
  | n (C : Addr) (fs : List (Str × Own))
  /-- what else is told of a value and of the heaps ahead and behind -/
  | g (P : Hp → Hp → Hp → Hp → V → Prop)
def Res.post (r : Res) (F H : Hp) (Q : VK) (E : XK) : Prop := match r with
  | .v S => ∀ v F' H', Grow F H F' H' → S.P F' v → Q v H'
  | .o w => ∀ p ho F' H', Grow F H F' H' → H p = none → F' p = none → H' p = some ho → w.P F' p ho → Q (.ref p) H'
  | .x c => ∀ F' H', Grow F H F' H' → E (.ref c) none H'
  | .p o1 o2 => ∀ t p1 p2 h1 h2 F' H', Grow F H F' H' → F' t = some (.tup [.ref p1, .ref p2]) → (H p1 = none ∧ H p2 = none) → (F' p1 = none ∧ F' p2 = none) → (H' p1 = some h1 ∧ H' p2 = some h2) → p1 ≠ p2 → (o1.P F' p1 h1 ∧ o2.P F' p2 h2) → Q (.ref t) H'
  | .n C fs => ∀ p dx fv F' H', Grow F H F' H' → F' p = some (.ins C dx fv) → (fv.map (·.2)).Nodup → NiF H F' H' fv fs → Q (.ref p) H'
  | .g P => ∀ v F' H', Grow F H F' H' → P F H F' H' v → Q v H'
theorem post_v {S : Slot} {F H : Hp} {Q : VK} {E : XK} (h : ∀ v F' H', Grow F H F' H' → S.P F' v → Q v H') : (Res.v S).post F H Q E := h
theorem post_o {o : Own} {F H : Hp} {Q : VK} {E : XK} (h : ∀ p ho F' H', Grow F H F' H' → H p = none → F' p = none → H' p = some ho → o.P F' p ho → Q (.ref p) H') : (Res.o o).post F H Q E := h
theorem post_x {c : Addr} {F H : Hp} {Q : VK} {E : XK} (h : ∀ F' H', Grow F H F' H' → E (.ref c) none H') : (Res.x c).post F H Q E := h
theorem arg_v {S : Slot} {F H : Hp} {v : V} (h : S.P F v) : ArgOk F H v (.v S) := h
abbrev Rel := List Ent → Res → Prop
def SpOf (R : Rel) : Sp := fun vs H Q E => ∃ (F : Hp) (es : List Ent) (r : Res), Same F H ∧ TupIn F H ∧ Paired (ArgOk F H) vs es ∧ R es r ∧ r.post F H Q E
section
variable {te : TE} {ta : TA} {δ es : List Ent} {R : Rel} {S : Slot} {o : Own} {E : XK} {C c : Addr} {m : Str} {fs : List (Str × Slot)}
theorem pair_app {α β : Type} {G : α → β → Prop} : ∀ {a : List α} {b : List β}, Paired G a b → Paired G (a ++ []) b := fun h => by rw [List.append_nil]; exact h
theorem ev_call (h : EvAs ta δ es) (hR : R es (.v S)) : EvE (tCall (SpOf R) [] E ta) δ (.v S) := fun F0 H0 F H σ s Q q =>
  h F0 H0 F H σ s _ fun vs F1 H1 g1 a1 => ⟨F1, es, .v S, g1.fh, (s.grow g1).tt, pair_app a1, hR, post_v fun v F' H' g hv => q v F' H' (g1.trans g) hv⟩
theorem eo_call (h : EvAs ta δ es) (hR : R es (.o o)) : EvO (tCall (SpOf R) [] E ta) δ o := fun F0 H0 F H σ s Q q =>
  h F0 H0 F H σ s _ fun vs F1 H1 g1 a1 => ⟨F1, es, .o o, g1.fh, (s.grow g1).tt, pair_app a1, hR, post_o fun p ho F' H' g hn hf hp z => q p ho F' H' (g1.trans g) (g1.hh.free hn) hf hp z⟩
theorem ex_call (h : EvAs ta δ es) (hR : R es (.x c)) : EvX (tCall (SpOf R) [] E ta) δ E c := fun F0 H0 F H σ s q Q =>
  h F0 H0 F H σ s _ fun vs F1 H1 g1 a1 => ⟨F1, es, .x c, g1.fh, (s.grow g1).tt, pair_app a1, hR, post_x fun F' H' g => q F' H' (g1.trans g)⟩
theorem PairF.lookup {F : Hp} {f : Str} : ∀ {fv : List (Str × V)} {fs : List (Str × Slot)}, PairF F fv fs → match fs.lookup f with
    | some S => ∃ v, fv.lookup f = some v ∧ S.P F v
    | none => fv.lookup f = none
  | _, _, .nil => rfl
  | (g, v) :: fv, (g', S) :: fs, .cons ⟨p1, p2⟩ t => by
    have ih := PairF.lookup (f := f) t
    have e : g = g' := p1
    subst e
    rw [List.lookup_cons, List.lookup_cons]
    cases hb : f == g with
    | true => exact ⟨v, rfl, p2⟩
    | false => exact ih
theorem PairF.some {F : Hp} {f : Str} {fv : List (Str × V)} {fs : List (Str × Slot)} (h : PairF F fv fs) (hl : fs.lookup f = some S) : ∃ v, fv.lookup f = some v ∧ S.P F v := by
  have z := PairF.lookup (f := f) h
  rw [hl] at z
  exact z
theorem PairF.none {F : Hp} {f : Str} {fv : List (Str × V)} {fs : List (Str × Slot)} (h : PairF F fv fs) (hl : fs.lookup f = none) : fv.lookup f = none := by
  have z := PairF.lookup (f := f) h
  rw [hl] at z
  exact z
/-- a field: the class, no such class attribute -/
structure FldOk (K : PySem.W.Frag) (C : Addr) (f : Str) : Prop where
  c : Cls K C
  n : NoAttr K C f
theorem ev_fld {K : PySem.W.Frag} {e : Ent} {f : Str} (h : EvE te δ e) (hr : IsR e (insO C fs)) (k : FldOk K C f) (hl : fs.lookup f = some S) : EvE (tFld K te f) δ (.v S) := fun F0 H0 F H σ s Q q =>
  h F0 H0 F H σ s _ fun v F' H' g a => by
    obtain ⟨p, ho, rfl, hp, dx, fv, rfl, pf⟩ := hr.get a g.fh
    obtain ⟨w, e1, e2⟩ := PairF.some pf hl
    exact ⟨p, C, dx, fv, w, rfl, hp, k.c, k.n, e1, q w F' H' g e2⟩
/-- a method of the object's class -/
theorem ev_meth (h : EvE te δ (.v (objS C fs))) (hm : fs.lookup m = none) (ha : EvAs ta δ es) (hR : R (.v (objS C fs) :: es) (.v S)) : EvE (tMeth C m (SpOf R) [] E te ta) δ (.v S) := fun F0 H0 F H σ s Q q =>
  h F0 H0 F H σ s _ fun v F1 H1 g1 a1 => by
    obtain ⟨p, ho, rfl, hp, dx, fv, rfl, pf⟩ := id a1
    refine ⟨p, dx, fv, rfl, g1.fh p _ hp, PairF.none pf hm, ha F0 H0 F1 H1 σ (s.grow g1) _ fun vs F2 H2 g2 a2 => ?_⟩
    exact ⟨F2, _, .v S, g2.fh, ((s.grow g1).grow g2).tt, .cons (arg_v ((objS C fs).mono g2.ff a1)) (pair_app a2), hR, post_v fun v F' H' g hv => q v F' H' ((g1.trans g2).trans g) hv⟩
theorem eo_meth (h : EvE te δ (.v (objS C fs))) (hm : fs.lookup m = none) (ha : EvAs ta δ es) (hR : R (.v (objS C fs) :: es) (.o o)) : EvO (tMeth C m (SpOf R) [] E te ta) δ o := fun F0 H0 F H σ s Q q =>
  h F0 H0 F H σ s _ fun v F1 H1 g1 a1 => by
    obtain ⟨p, ho, rfl, hp, dx, fv, rfl, pf⟩ := id a1
    refine ⟨p, dx, fv, rfl, g1.fh p _ hp, PairF.none pf hm, ha F0 H0 F1 H1 σ (s.grow g1) _ fun vs F2 H2 g2 a2 => ?_⟩
    exact ⟨F2, _, .o o, g2.fh, ((s.grow g1).grow g2).tt, .cons (arg_v ((objS C fs).mono g2.ff a1)) (pair_app a2), hR, post_o fun p ho F' H' g hn hf hp z => q p ho F' H' ((g1.trans g2).trans g) ((g1.trans g2).hh.free hn) hf hp z⟩
theorem ex_meth (h : EvE te δ (.v (objS C fs))) (hm : fs.lookup m = none) (ha : EvAs ta δ es) (hR : R (.v (objS C fs) :: es) (.x c)) : EvX (tMeth C m (SpOf R) [] E te ta) δ E c := fun F0 H0 F H σ s q Q =>
  h F0 H0 F H σ s _ fun v F1 H1 g1 a1 => by
    obtain ⟨p, ho, rfl, hp, dx, fv, rfl, pf⟩ := id a1
    refine ⟨p, dx, fv, rfl, g1.fh p _ hp, PairF.none pf hm, ha F0 H0 F1 H1 σ (s.grow g1) _ fun vs F2 H2 g2 a2 => ?_⟩
    exact ⟨F2, _, .x c, g2.fh, ((s.grow g1).grow g2).tt, .cons (arg_v ((objS C fs).mono g2.ff a1)) (pair_app a2), hR, post_x fun F' H' g => q F' H' ((g1.trans g2).trans g)⟩

/-! ### a new instance: __init__ -/
/-- what __init__ makes of its arguments: the fields, or a raise -/
abbrev RelI := List Ent → Except Addr (List (Str × Slot)) → Prop
/-- the heap without p -/
def era (H : Hp) (p : Addr) : Hp := fun b => if b = p then none else H b
def SpInit (C : Addr) (R : RelI) : Sp := fun vs H Q E => ∃ (p dx : Addr) (ws : List V) (F : Hp) (es : List Ent) (r : Except Addr (List (Str × Slot))), vs = .ref p :: ws ∧ H p = some (.ins C dx []) ∧ Same F (era H p) ∧ TupIn F (era H p) ∧
  Paired (ArgOk F (era H p)) ws es ∧ R es r ∧ match r with
    | .ok fs => ∀ F' H' dx' fv, Grow F (era H p) F' (era H' p) → H' p = some (.ins C dx' fv) → F' p = none → PairF F' fv fs → Q .non H'
    | .error c => ∀ F' H', Grow F (era H p) F' H' → E (.ref c) none H'
theorem era_same {H : Hp} {p : Addr} : era H p p = none := by unfold era; rw [if_pos rfl]
theorem era_ne {H : Hp} {p b : Addr} (h : b ≠ p) : era H p b = H b := by unfold era; rw [if_neg h]
theorem era_sub {H : Hp} {p : Addr} : Same (era H p) H := fun b o e => by
  by_cases h : b = p
  · rw [h, era_same] at e; cases e
  · rw [era_ne h] at e; exact e
theorem made_grow {F H : Hp} {x dx : Addr} (fh : Same F H) (hx : H x = none) (hd : H dx = none) (ne : dx ≠ x) {u : HO} : Grow F H F (era (upd (upd H dx (.own x)) x u) x) := by
  refine ⟨Same.refl F, fun b o e => ?_, fun b o e => ?_, fun _ _ n => n, fun t a vs e => ?_⟩
  · rw [era_ne (ne_of_none e hx), upd_ne (ne_of_none e hx), upd_ne (ne_of_none e hd)]
    exact e
  · have e' := fh b o e
    rw [era_ne (ne_of_none e' hx), upd_ne (ne_of_none e' hx), upd_ne (ne_of_none e' hd)]
    exact e'
  · have hax : a ≠ x := fun z => by rw [z, era_same] at e; cases e
    rw [era_ne hax, upd_ne hax] at e
    by_cases had : a = dx
    · rw [had, upd_same] at e
      cases e
    · rw [upd_ne had] at e
      exact t a vs e
theorem same_era {H : Hp} {x : Addr} (h : H x = none) {H' : Hp} (s : Same H (era H' x)) : Same H H' := fun b o e => era_sub b o (s b o e)
theorem ev_make {RI : RelI} (h : EvAs ta δ es) (hR : RI es (.ok fs)) : EvE (tMake C (SpInit C RI) [] E ta) δ (.v (objS C fs)) := fun F0 H0 F H σ s Q q =>
  h F0 H0 F H σ s _ fun vs F1 H1 g1 a1 => fun x dx hx hd ne => by
    have g2 := made_grow g1.fh hx hd ne (u := .ins C dx [])
    refine ⟨x, dx, vs ++ [], F1, es, .ok fs, rfl, upd_same, g2.fh, g2.tt (s.grow g1).tt, ?_, hR, ?_⟩
    · exact pair_app (Paired.mapP a1 fun _ _ z => z.grow g2)
    · intro F' H' dx' fv g hp hf pf
      refine ⟨rfl, ?_⟩
      have g3 := g2.trans g
      have sm : Same F' (upd F' x (.ins C dx' fv)) := same_upd hf
      have gg : Grow F1 H1 (upd F' x (.ins C dx' fv)) H' := by
        refine ⟨g3.ff.trans sm, fun b o e => era_sub b o (g3.hh b o e), fun b o e => ?_, fun a ha n => ?_, fun t a vs e => ?_⟩
        · by_cases hb : b = x
          · subst hb
            rw [upd_same] at e
            rw [← e]
            exact hp
          · rw [upd_ne hb] at e
            exact era_sub b o (g3.fh b o e)
        · have hne : a ≠ x := fun e => ha (by rw [e]; exact hx)
          rw [upd_ne hne]
          exact g3.nw a ha n
        · have hax : a ≠ x := fun z => by rw [z, hp] at e; cases e
          have e2 : era H' x a = some (.tup vs) := by rw [era_ne hax]; exact e
          exact sm _ _ (g3.tt t a vs e2)
      exact q _ _ H' (g1.trans gg) ⟨x, _, rfl, upd_same, dx', fv, rfl, Paired.mapP pf fun _ q z => ⟨z.1, q.2.mono sm z.2⟩⟩
theorem eo_make {RI : RelI} (h : EvAs ta δ es) (hR : RI es (.ok fs)) : EvO (tMake C (SpInit C RI) [] E ta) δ (insO C fs) := fun F0 H0 F H σ s Q q =>
  h F0 H0 F H σ s _ fun vs F1 H1 g1 a1 => fun x dx hx hd ne => by
    have g2 := made_grow g1.fh hx hd ne (u := .ins C dx [])
    refine ⟨x, dx, vs ++ [], F1, es, .ok fs, rfl, upd_same, g2.fh, g2.tt (s.grow g1).tt, ?_, hR, ?_⟩
    · exact pair_app (Paired.mapP a1 fun _ _ z => z.grow g2)
    · intro F' H' dx' fv g hp hf pf
      have g3 := g2.trans g
      exact ⟨rfl, q x _ F' H' (g1.trans ⟨g3.ff, same_era hx g3.hh, fun b o e => era_sub b o (g3.fh b o e), g3.nw, fun t a vs e => g3.tt t a vs (by rw [era_ne (fun z => by rw [z, hp] at e; cases e)]; exact e)⟩) (g1.hh.free hx) hf hp ⟨dx', fv, rfl, pf⟩⟩
theorem ex_make {RI : RelI} (h : EvAs ta δ es) (hR : RI es (.error c)) : EvX (tMake C (SpInit C RI) [] E ta) δ E c := fun F0 H0 F H σ s q Q =>
  h F0 H0 F H σ s _ fun vs F1 H1 g1 a1 => fun x dx hx hd ne => by
    have g2 := made_grow g1.fh hx hd ne (u := .ins C dx [])
    refine ⟨x, dx, vs ++ [], F1, es, .error c, rfl, upd_same, g2.fh, g2.tt (s.grow g1).tt, ?_, hR, ?_⟩
    · exact pair_app (Paired.mapP a1 fun _ _ z => z.grow g2)
    · intro F' H' g
      exact q F' H' (g1.trans (g2.trans g))
end
end J

namespace J
open PySem PySem.Spec L2

/-! ### statements: s the store ahead; k what follows -/
section
variable {F0 H0 F H : Hp} {σ : L2.St} {δ es : List Ent} {te ta tb : TE} {tt : TT} {tu tw tz : TS} {D : Ends} {S : Slot} {e : Ent} {o : Own} {E : XK} {c : Addr} {i j : Nat} {K : PySem.W.Frag}
theorem q_set (s : St F0 H0 F H σ δ) (h : EvE te δ (.v S)) (k : ∀ σ' F' H', St F0 H0 F' H' σ' (δ.set i (.v S)) → tz D σ' H') : tSeq (tAsg te (gName i)) tz D σ H :=
  h F0 H0 F H σ s _ fun v F' H' g a => k _ F' H' ((s.grow g).set_v a)
theorem q_setO (s : St F0 H0 F H σ δ) (h : EvO te δ o) (k : ∀ σ' F' H', St F0 H0 F' H' σ' (δ.set i (.ow o)) → tz D σ' H') : tSeq (tAsg te (gName i)) tz D σ H :=
  h F0 H0 F H σ s _ fun p ho F' H' g hn hf hp z => k _ F' H' (s.set_ow g hn hf hp z)
theorem q_drop (s : St F0 H0 F H σ δ) (h : EvE te δ e) (k : ∀ σ' F' H', St F0 H0 F' H' σ' δ → tz D σ' H') : tSeq (tDrop te) tz D σ H :=
  h F0 H0 F H σ s _ fun v F' H' g a => k _ F' H' (s.grow g)
theorem q_ret (s : St F0 H0 F H σ δ) (h : EvE te δ (.v S)) (k : ∀ v F' H', Grow F0 H0 F' H' → S.P F' v → D.rt v H') : tSeq (tRet te) tz D σ H :=
  h F0 H0 F H σ s _ fun v F' H' g a => k v F' H' (s.g.trans g) a
theorem q_retO (s : St F0 H0 F H σ δ) (h : EvO te δ o) (k : ∀ p ho F' H', Grow F0 H0 F' H' → H0 p = none → F' p = none → H' p = some ho → o.P F' p ho → D.rt (.ref p) H') : tSeq (tRet te) tz D σ H :=
  h F0 H0 F H σ s _ fun p ho F' H' g hn hf hp z => k p ho F' H' (s.g.trans g) (s.g.hh.free hn) hf hp z
theorem q_retOw (s : St F0 H0 F H σ δ) (hi : δ[i]? = some (.ow o)) (k : ∀ p ho F' H', Grow F0 H0 F' H' → H0 p = none → F' p = none → H' p = some ho → o.P F' p ho → D.rt (.ref p) H') : tSeq (tRet (tVar i)) tz D σ H := by
  obtain ⟨p, ho, e, h0, hf, hp, z⟩ := s.ow i o hi
  exact ⟨.ref p, e, k p ho F H s.g h0 hf hp z⟩
theorem q_freeze (s : St F0 H0 F H σ δ) (i : Nat) (hi : δ[i]? = some (.ow o)) {P : Prop} (k : ∀ F', St F0 H0 F' H σ (δ.set i (.v (refS o))) → P) : P := let ⟨F', z⟩ := s.freeze hi; k F' z
theorem q_if {b : Bool} (s : St F0 H0 F H σ δ) (h : EvT tt δ b) (h1 : b = true → ∀ σ' F' H', St F0 H0 F' H' σ' δ → tu { D with nx := tz D } σ' H') (h2 : b = false → ∀ σ' F' H', St F0 H0 F' H' σ' δ → tw { D with nx := tz D } σ' H') :
    tSeq (tIfS tt tu tw) tz D σ H := h F0 H0 F H σ s _ fun F' H' g => by
  cases b with
  | true =>
    show tu { D with nx := tz D } σ H'
    exact h1 rfl σ F' H' (s.grow g)
  | false =>
    show tw { D with nx := tz D } σ H'
    exact h2 rfl σ F' H' (s.grow g)
theorem q_ifT {b : Bool} (s : St F0 H0 F H σ δ) (h : EvT tt δ b) (hb : b = true) (h1 : ∀ σ' F' H', St F0 H0 F' H' σ' δ → tu { D with nx := tz D } σ' H') : tSeq (tIfS tt tu tw) tz D σ H := q_if s h (fun _ => h1) fun z => by rw [hb] at z; cases z
theorem q_ifF {b : Bool} (s : St F0 H0 F H σ δ) (h : EvT tt δ b) (hb : b = false) (h2 : ∀ σ' F' H', St F0 H0 F' H' σ' δ → tw { D with nx := tz D } σ' H') : tSeq (tIfS tt tu tw) tz D σ H := q_if s h (fun z => by rw [hb] at z; cases z) fun _ => h2
/-- without an else -/
theorem q_when {b : Bool} (s : St F0 H0 F H σ δ) (h : EvT tt δ b) (h1 : b = true → ∀ σ' F' H', St F0 H0 F' H' σ' δ → tu { D with nx := tz D } σ' H') (h2 : b = false → ∀ σ' F' H', St F0 H0 F' H' σ' δ → tz D σ' H') : tSeq (tIfS tt tu tNext) tz D σ H := q_if s h h1 h2
theorem q_whenF {b : Bool} (s : St F0 H0 F H σ δ) (h : EvT tt δ b) (hb : b = false) (h2 : ∀ σ' F' H', St F0 H0 F' H' σ' δ → tz D σ' H') : tSeq (tIfS tt tu tNext) tz D σ H := q_ifF s h hb h2
theorem q_thru {nx bk ct : L2.St → Hp → Prop} {rt : VK} (h : nx σ H) : tNext ⟨nx, rt, bk, ct⟩ σ H := h
/-- raise of an own class -/
def tRaise (E : XK) (c : Addr) : TS := fun _ _ H => E (.ref c) none H
theorem q_raise (s : St F0 H0 F H σ δ) (k : ∀ F' H', Grow F0 H0 F' H' → E (.ref c) none H') : tSeq (tRaise E c) tz D σ H := k F H s.g
theorem q_dropX (s : St F0 H0 F H σ δ) (h : EvX te δ E c) (k : ∀ F' H', Grow F0 H0 F' H' → E (.ref c) none H') : tSeq (tDrop te) tz D σ H := h F0 H0 F H σ s (fun F' H' g => k F' H' (s.g.trans g)) _
theorem q_setX {g : TG} (s : St F0 H0 F H σ δ) (h : EvX te δ E c) (k : ∀ F' H', Grow F0 H0 F' H' → E (.ref c) none H') : tSeq (tAsg te g) tz D σ H := h F0 H0 F H σ s (fun F' H' g => k F' H' (s.g.trans g)) _
theorem q_retX (s : St F0 H0 F H σ δ) (h : EvX te δ E c) (k : ∀ F' H', Grow F0 H0 F' H' → E (.ref c) none H') : tSeq (tRet te) tz D σ H := h F0 H0 F H σ s (fun F' H' g => k F' H' (s.g.trans g)) _

/-! ### lists of one's own -/
theorem St.loc (s : St F0 H0 F H σ δ) (hi : δ[i]? = some (.ow o)) : ∃ p ho, σ[i]? = some (some (.ref p)) ∧ H p = some ho ∧ o.P F p ho := let ⟨p, ho, e, _, _, hp, z⟩ := s.ow i o hi; ⟨p, ho, e, hp, z⟩
theorem PairS.snoc {vs : List V} {v : V} {ss : List Slot} (h : PairS F vs ss) (p : S.P F v) : PairS F (vs ++ [v]) (ss ++ [S]) := PairS.app h (.cons p .nil)
theorem sizeLt {n : Nat} (h : n < 100000) : n < sizeLine := Nat.lt_of_lt_of_le h (by decide)
theorem q_app {ss : List Slot} (s : St F0 H0 F H σ δ) (hi : δ[i]? = some (.ow (lstO ss))) (h : EvE te δ (.v S)) (hz : ss.length < 100000) (k : ∀ σ' F' H', St F0 H0 F' H' σ' (δ.set i (.ow (lstO (ss ++ [S])))) → tz D σ' H') :
    tSeq (tDrop (tBM K "list" rAppend (tVar i) (tCons te tNil))) tz D σ H := by
  obtain ⟨p, ho, e, hp, vs, rfl, pv⟩ := s.loc hi
  refine ⟨.ref p, e, .inl ⟨rfl, vs, SqL.of hp⟩, h F0 H0 F H σ s _ fun v F' H' g a => ?_⟩
  have s' := s.grow g
  refine ⟨p, vs, v, rfl, rfl, g.hh p _ hp, by rw [pv.length]; exact sizeLt hz, ?_⟩
  exact k _ F' _ (s'.mut hi e ⟨_, rfl, PairS.snoc (PairS.mono g.ff pv) a⟩)
theorem q_ext {ss ts : List Slot} {e1 : Ent} (s : St F0 H0 F H σ δ) (hi : δ[i]? = some (.ow (lstO ss))) (h : EvE te δ e1) (hr : IsR e1 (lstO ts)) (hz : ss.length + ts.length ≤ 100000) (k : ∀ σ' F' H', St F0 H0 F' H' σ' (δ.set i (.ow (lstO (ss ++ ts)))) → tz D σ' H') :
    tSeq (tDrop (tBM K "list" rExtend (tVar i) (tCons te tNil))) tz D σ H := by
  obtain ⟨p, ho, e, hp, vs, rfl, pv⟩ := s.loc hi
  refine ⟨.ref p, e, .inl ⟨rfl, vs, SqL.of hp⟩, h F0 H0 F H σ s _ fun v F' H' g a => ?_⟩
  have s' := s.grow g
  obtain ⟨q, ho, rfl, hq, ws, rfl, pw⟩ := hr.get a g.fh
  refine ⟨p, q, vs, ws, rfl, rfl, g.hh p _ hp, hq, by rw [pv.length, pw.length]; exact size_ok hz, ?_⟩
  exact k _ F' _ (s'.mut hi e ⟨_, rfl, PairS.app (PairS.mono g.ff pv) pw⟩)
theorem q_clear {ss : List Slot} (s : St F0 H0 F H σ δ) (hi : δ[i]? = some (.ow (lstO ss))) (k : ∀ σ' F' H', St F0 H0 F' H' σ' (δ.set i (.ow (lstO []))) → tz D σ' H') :
    tSeq (tDrop (tBM0 K "list" rClear (tVar i))) tz D σ H := by
  obtain ⟨p, ho, e, hp, vs, rfl, pv⟩ := s.loc hi
  exact ⟨.ref p, e, .inl ⟨rfl, vs, SqL.of hp⟩, p, vs, rfl, rfl, hp, k _ F _ (s.mut hi e ⟨[], rfl, .nil⟩)⟩
theorem PairS.set {F : Hp} {v : V} : ∀ {vs : List V} {ss : List Slot} {n : Nat}, PairS F vs ss → S.P F v → PairS F (vs.set n v) (ss.set n S)
  | _, _, _, .nil, _ => .nil
  | _, _, 0, .cons _ t, h => .cons h t
  | _, _, n + 1, .cons p t, h => .cons p (PairS.set t h)
theorem ixN_nat {n j : Nat} (hj : j < n) : ixN n (j : Int) = some j := by
  unfold ixN
  rw [if_pos (by omega), if_pos (by omega)]
  simp
/-- l[n] = e -/
theorem q_setIx {ss : List Slot} {n : Nat} (s : St F0 H0 F H σ δ) (hi : δ[i]? = some (.ow (lstO ss))) (h : EvE te δ (.v S)) (hb : EvE tb δ (.v (iS n))) (hn : n < ss.length) (k : ∀ σ' F' H', St F0 H0 F' H' σ' (δ.set i (.ow (lstO (ss.set n S)))) → tz D σ' H') :
    tSeq (tAsg te (gSub (tVar i) tb rSetL)) tz D σ H := by
  refine h F0 H0 F H σ s _ fun v F1 H1 g1 a1 => ?_
  have s1 := s.grow g1
  obtain ⟨p, ho, e, hp, vs, rfl, pv⟩ := s1.loc hi
  refine ⟨.ref p, e, hb F0 H0 F1 H1 σ s1 _ fun w F2 H2 g2 a2 => ?_⟩
  cases a2
  have s2 := s1.grow g2
  refine ⟨p, vs, (n : Int), n, rfl, rfl, g2.hh p _ hp, ixN_nat (by rw [pv.length]; exact hn), ?_⟩
  exact k _ F2 _ (s2.mut hi e ⟨_, rfl, PairS.set (PairS.mono g2.ff pv) (S.mono g2.ff a1)⟩)

/-! ### fields of self, in __init__ -/
def putS (f : Str) (S : Slot) (fs : List (Str × Slot)) : List (Str × Slot) := fs ++ [(f, S)]
theorem PairF.put {f : Str} {v : V} : ∀ {fv : List (Str × V)} {fs : List (Str × Slot)}, PairF F fv fs → S.P F v → fs.lookup f = Option.none → PairF F (putF f v fv) (putS f S fs)
  | _, _, .nil, p, _ => .cons ⟨rfl, p⟩ .nil
  | (g, x) :: fv, (g', T) :: fs, .cons ⟨p1, p2⟩ t, p, h => by
    have e : g = g' := p1
    subst e
    rw [List.lookup_cons] at h
    have hne : ¬ g = f := fun z => by
      rw [z, beq_self_eq_true] at h
      cases h
    have hb : (f == g) = false := beq_false_of_ne fun z => hne z.symm
    rw [hb] at h
    unfold putF
    rw [if_neg hne]
    exact .cons ⟨rfl, p2⟩ (PairF.put t p h)
theorem q_fld {fs : List (Str × Slot)} {f : Str} {C : Addr} (s : St F0 H0 F H σ δ) (hi : δ[i]? = some (.ow (insO C fs))) (h : EvE te δ (.v S)) (kf : FldOk K C f) (hn : fs.lookup f = Option.none) (hz : fs.length < 900)
    (k : ∀ σ' F' H', St F0 H0 F' H' σ' (δ.set i (.ow (insO C (putS f S fs)))) → tz D σ' H') : tSeq (sFld K (tVar i) te f) tz D σ H := by
  refine h F0 H0 F H σ s _ fun v F1 H1 g1 a1 => ?_
  have s1 := s.grow g1
  obtain ⟨p, ho, e, hp, dx, fv, rfl, pf⟩ := s1.loc hi
  refine ⟨.ref p, e, p, C, dx, fv, rfl, hp, kf.c, kf.n, by rw [pf.length]; omega, ?_⟩
  exact k _ F1 _ (s1.mut hi e ⟨dx, _, rfl, PairF.put pf a1 hn⟩)

/-! ### x += e -/
theorem q_aug {f : Int → Int → Int} {a b : Int} (s : St F0 H0 F H σ δ) (hi : δ[i]? = some (.v (iS a))) (h : EvE te δ (.v (iS b))) (k : ∀ σ' F' H', St F0 H0 F' H' σ' (δ.set i (.v (iS (f a b)))) → tz D σ' H') : tSeq (tAug i te (ipI f)) tz D σ H := by
  obtain ⟨v, e, z⟩ := s.at_ i _ hi
  cases z
  refine ⟨.int a, e, h F0 H0 F H σ s _ fun w F1 H1 g1 a1 => ?_⟩
  cases a1
  exact ⟨a, b, rfl, rfl, k _ F1 H1 ((s.grow g1).set_v (S := iS (f a b)) rfl)⟩

/-! ### targets that are tuples -/
theorem q_tup2 {S1 S2 : Slot} {i1 i2 : Nat} (s : St F0 H0 F H σ δ) (h : EvE te δ (.v (tupS [S1, S2]))) (k : ∀ σ' F' H', St F0 H0 F' H' σ' ((δ.set i1 (.v S1)).set i2 (.v S2)) → tz D σ' H') :
    tSeq (tAsg te (gTup K 2 (gCons (gName i1) (gCons (gName i2) gNil)))) tz D σ H := by
  refine h F0 H0 F H σ s _ fun v F1 H1 g1 a1 => ?_
  obtain ⟨p, ho, rfl, hp, vs, rfl, pv⟩ := a1
  cases pv with
  | cons p1 t => cases t with
    | cons p2 t => cases t with
      | nil => exact ⟨p, _, rfl, SqT.of (g1.fh p _ hp), rfl, _, _, rfl, _, _, rfl, rfl, k _ F1 H1 (((s.grow g1).set_v p1).set_v p2)⟩
theorem q_tup3 {S1 S2 S3 : Slot} {i1 i2 i3 : Nat} (s : St F0 H0 F H σ δ) (h : EvE te δ (.v (tupS [S1, S2, S3]))) (k : ∀ σ' F' H', St F0 H0 F' H' σ' (((δ.set i1 (.v S1)).set i2 (.v S2)).set i3 (.v S3)) → tz D σ' H') :
    tSeq (tAsg te (gTup K 3 (gCons (gName i1) (gCons (gName i2) (gCons (gName i3) gNil))))) tz D σ H := by
  refine h F0 H0 F H σ s _ fun v F1 H1 g1 a1 => ?_
  obtain ⟨p, ho, rfl, hp, vs, rfl, pv⟩ := a1
  cases pv with
  | cons p1 t => cases t with
    | cons p2 t => cases t with
      | cons p3 t => cases t with
        | nil => exact ⟨p, _, rfl, SqT.of (g1.fh p _ hp), rfl, _, _, rfl, _, _, rfl, _, _, rfl, rfl, k _ F1 H1 ((((s.grow g1).set_v p1).set_v p2).set_v p3)⟩
theorem q_par {S1 S2 : Slot} {i1 i2 : Nat} {ta : TA} (s : St F0 H0 F H σ δ) (h : EvAs ta δ [.v S1, .v S2]) (k : ∀ σ' F' H', St F0 H0 F' H' σ' ((δ.set i1 (.v S1)).set i2 (.v S2)) → tz D σ' H') : tSeq (tPar i1 i2 ta) tz D σ H := by
  refine h F0 H0 F H σ s _ fun vs F1 H1 g1 a1 => ?_
  cases a1 with
  | cons p1 t => cases t with
    | cons p2 t => cases t with
      | nil => exact ⟨_, _, rfl, k _ F1 H1 (((s.grow g1).set_v p1).set_v p2)⟩

/-! ### loops -/
def NX (F0 H0 : Hp) (I : List Ent → Prop) : L2.St → Hp → Prop := fun σ H => ∃ F δ, St F0 H0 F H σ δ ∧ I δ
theorem q_nx {I : List Ent → Prop} {rt : VK} {bk ct : L2.St → Hp → Prop} (s : St F0 H0 F H σ δ) (h : I δ) : tNext ⟨NX F0 H0 I, rt, bk, ct⟩ σ H := ⟨F, δ, s, h⟩
/-- what a for walks: a list, a tuple, a dict's keys -/
def iAny (K : PySem.W.Frag) (tl : TE) : TI := fun σ H R => iList K tl σ H R ∨ iTup K tl σ H R ∨ iKeys tl σ H R
/-- over a list that stands still -/
theorem q_forL {ss : List Slot} (s : St F0 H0 F H σ δ) (h : EvE ta δ (.v (lstS ss))) (I : Nat → List Ent → Prop) (h0 : I 0 δ)
    (hs : ∀ F1, Base F0 H0 F1 → ∀ n T δ' σ' F' H', ss[n]? = some T → I n δ' → St F1 H0 F' H' σ' (δ'.set j (.v T)) → tu ⟨NX F1 H0 (I (n + 1)), D.rt, tz D, NX F1 H0 (I (n + 1))⟩ σ' H')
    (hd : ∀ δ' σ' F' H', I ss.length δ' → St F0 H0 F' H' σ' δ' → tz D σ' H') : tSeq (tFor (iAny K ta) (gName j) tu) tz D σ H := by
  refine .inl (h F0 H0 F H σ s _ fun v F1 H1 g1 a1 => ?_)
  obtain ⟨p, ho, rfl, hp, vs, rfl, pv⟩ := a1
  have s1 := s.grow g1
  refine ⟨p, rfl, ⟨vs, SqL.of (g1.fh p _ hp)⟩, for_list (D := { D with nx := tz D }) (xs := vs) (fun n => NX F1 H0 (I n)) ⟨F1, δ, s1.rebase, h0⟩ ?_ ?_ ?_⟩
  · rintro n σ' H' _ ⟨F', δ', s', _⟩
    exact SqL.of (s'.fh p _ (s'.g.ff p _ hp))
  · rintro n x σ' H' hx ⟨F', δ', s', hI⟩
    obtain ⟨T, hT, px⟩ : ∃ T, ss[n]? = some T ∧ T.P F' x := by
      have hn : n < vs.length := (List.getElem?_eq_some_iff.mp hx).1
      rw [pv.length] at hn
      obtain ⟨w, hw, q⟩ := PairS.get (PairS.mono s'.g.ff pv) (List.getElem?_eq_getElem hn)
      rw [hx] at hw
      cases hw
      exact ⟨_, List.getElem?_eq_getElem hn, q⟩
    exact hs F1 s1.base n T δ' _ F' H' hT hI (s'.set_v px)
  · rintro σ' H' ⟨F', δ', s', hI⟩
    rw [pv.length] at hI
    exact hd δ' σ' F' H' hI (s'.unbase s1.base)
/-- over a tuple -/
theorem q_forT {ss : List Slot} (s : St F0 H0 F H σ δ) (h : EvE ta δ (.v (tupS ss))) (I : Nat → List Ent → Prop) (h0 : I 0 δ)
    (hs : ∀ F1, Base F0 H0 F1 → ∀ n T δ' σ' F' H', ss[n]? = some T → I n δ' → St F1 H0 F' H' σ' (δ'.set j (.v T)) → tu ⟨NX F1 H0 (I (n + 1)), D.rt, tz D, NX F1 H0 (I (n + 1))⟩ σ' H')
    (hd : ∀ δ' σ' F' H', I ss.length δ' → St F0 H0 F' H' σ' δ' → tz D σ' H') : tSeq (tFor (iAny K ta) (gName j) tu) tz D σ H := by
  refine .inr (.inl (h F0 H0 F H σ s _ fun v F1 H1 g1 a1 => ?_))
  obtain ⟨p, ho, rfl, hp, vs, rfl, pv⟩ := a1
  have s1 := s.grow g1
  refine ⟨p, rfl, ⟨vs, SqT.of (g1.fh p _ hp)⟩, for_tup (D := { D with nx := tz D }) (xs := vs) (fun n => NX F1 H0 (I n)) ⟨F1, δ, s1.rebase, h0⟩ ?_ ?_ ?_⟩
  · rintro n σ' H' _ ⟨F', δ', s', _⟩
    exact SqT.of (s'.fh p _ (s'.g.ff p _ hp))
  · rintro n x σ' H' hx ⟨F', δ', s', hI⟩
    obtain ⟨T, hT, px⟩ : ∃ T, ss[n]? = some T ∧ T.P F' x := by
      have hn : n < vs.length := (List.getElem?_eq_some_iff.mp hx).1
      rw [pv.length] at hn
      obtain ⟨w, hw, q⟩ := PairS.get (PairS.mono s'.g.ff pv) (List.getElem?_eq_getElem hn)
      rw [hx] at hw
      cases hw
      exact ⟨_, List.getElem?_eq_getElem hn, q⟩
    exact hs F1 s1.base n T δ' _ F' H' hT hI (s'.set_v px)
  · rintro σ' H' ⟨F', δ', s', hI⟩
    rw [pv.length] at hI
    exact hd δ' σ' F' H' hI (s'.unbase s1.base)
/-- over a lent list -/
theorem q_forB {ss : List Slot} {i : Nat} (s : St F0 H0 F H σ δ) (h : δ[i]? = some (.bo (lstO ss))) (I : Nat → List Ent → Prop) (h0 : I 0 δ)
    (hs : ∀ F1, Base F0 H0 F1 → ∀ n T δ' σ' F' H', ss[n]? = some T → I n δ' → St F1 H0 F' H' σ' (δ'.set j (.v T)) → tu ⟨NX F1 H0 (I (n + 1)), D.rt, tz D, NX F1 H0 (I (n + 1))⟩ σ' H')
    (hd : ∀ δ' σ' F' H', I ss.length δ' → St F0 H0 F' H' σ' δ' → tz D σ' H') : tSeq (tFor (iAny K (tVar i)) (gName j) tu) tz D σ H := by
  obtain ⟨p, ho, e, hp, vs, rfl, pv⟩ := s.bo i _ h
  refine .inl ⟨.ref p, e, p, rfl, ⟨vs, SqL.of (s.g.hh p _ hp)⟩, for_list (D := { D with nx := tz D }) (xs := vs) (fun n => NX F H0 (I n)) ⟨F, δ, s.rebase, h0⟩ ?_ ?_ ?_⟩
  · rintro n σ' H' _ ⟨F', δ', s', _⟩
    exact SqL.of (s'.g.hh p _ hp)
  · rintro n x σ' H' hx ⟨F', δ', s', hI⟩
    obtain ⟨T, hT, px⟩ : ∃ T, ss[n]? = some T ∧ T.P F' x := by
      have hn : n < vs.length := (List.getElem?_eq_some_iff.mp hx).1
      rw [pv.length] at hn
      obtain ⟨w, hw, q⟩ := PairS.get (PairS.mono s'.g.ff pv) (List.getElem?_eq_getElem hn)
      rw [hx] at hw
      cases hw
      exact ⟨_, List.getElem?_eq_getElem hn, q⟩
    exact hs F s.base n T δ' _ F' H' hT hI (s'.set_v px)
  · rintro σ' H' ⟨F', δ', s', hI⟩
    rw [pv.length] at hI
    exact hd δ' σ' F' H' hI (s'.unbase s.base)
/-- for j in range(n) -/
theorem q_forR {n : Nat} {z : Int} {tl : TA} (s : St F0 H0 F H σ δ) (h : EvAs tl δ [.v (iS z)]) (hz : z.toNat = n) (hn : z ≤ 100000 ∧ -100000 ≤ z) (I : Nat → List Ent → Prop) (h0 : I 0 δ)
    (hs : ∀ m δ' σ' F' H', m < n → I m δ' → St F0 H0 F' H' σ' (δ'.set j (.v (iS (m : Int)))) → tu ⟨NX F0 H0 (I (m + 1)), D.rt, tz D, NX F0 H0 (I (m + 1))⟩ σ' H')
    (hd : ∀ δ' σ' F' H', I n δ' → St F0 H0 F' H' σ' δ' → tz D σ' H') : tSeq (tFor (iRng1 tl) (gName j) tu) tz D σ H := by
  refine h F0 H0 F H σ s _ fun vs F1 H1 g1 a1 => ?_
  cases a1 with
  | cons p1 t => cases t with
    | nil =>
      cases p1
      refine ⟨z, rfl, by omega, by omega, for_range (lo := 0) (n := z.toNat) (D := { D with nx := tz D }) (fun m => NX F0 H0 (I m)) ⟨F1, δ, s.grow g1, h0⟩ ?_ ?_⟩
      · rintro m σ' H' hm ⟨F', δ', s', hI⟩
        have e0 : (0 : Int) + (m : Int) = (m : Int) := Int.zero_add _
        show tu ⟨NX F0 H0 (I (m + 1)), D.rt, tz D, NX F0 H0 (I (m + 1))⟩ (σ'.set j (some (.int ((0 : Int) + (m : Int))))) H'
        rw [e0]
        exact hs m δ' _ F' H' (hz ▸ hm) hI (s'.set_v (S := iS (m : Int)) rfl)
      · rintro σ' H' ⟨F', δ', s', hI⟩
        rw [hz] at hI
        exact hd δ' σ' F' H' hI s'
/-- for j in range(lo, hi) -/
theorem q_forR2 {n : Nat} {lo hi : Int} {tl : TA} (s : St F0 H0 F H σ δ) (h : EvAs tl δ [.v (iS lo), .v (iS hi)]) (hz : (hi - lo).toNat = n) (hn : (hi ≤ 100000 ∧ -100000 ≤ hi) ∧ (lo ≤ 100000 ∧ -100000 ≤ lo)) (I : Nat → List Ent → Prop) (h0 : I 0 δ)
    (hs : ∀ m δ' σ' F' H', m < n → I m δ' → St F0 H0 F' H' σ' (δ'.set j (.v (iS (lo + (m : Int))))) → tu ⟨NX F0 H0 (I (m + 1)), D.rt, tz D, NX F0 H0 (I (m + 1))⟩ σ' H')
    (hd : ∀ δ' σ' F' H', I n δ' → St F0 H0 F' H' σ' δ' → tz D σ' H') : tSeq (tFor (iRng2 tl) (gName j) tu) tz D σ H := by
  refine h F0 H0 F H σ s _ fun vs F1 H1 g1 a1 => ?_
  cases a1 with
  | cons p1 t => cases t with
    | cons p2 t => cases t with
      | nil =>
        cases p1
        cases p2
        refine ⟨lo, hi, rfl, ⟨by omega, by omega, by omega, by omega⟩, for_range (lo := lo) (n := (hi - lo).toNat) (D := { D with nx := tz D }) (fun m => NX F0 H0 (I m)) ⟨F1, δ, s.grow g1, h0⟩ ?_ ?_⟩
        · rintro m σ' H' hm ⟨F', δ', s', hI⟩
          exact hs m δ' _ F' H' (hz ▸ hm) hI (s'.set_v (S := iS (lo + (m : Int))) rfl)
        · rintro σ' H' ⟨F', δ', s', hI⟩
          rw [hz] at hI
          exact hd δ' σ' F' H' hI s'
/-- while: I by what falls -/
theorem q_while (s : St F0 H0 F H σ δ) (I : Nat → List Ent → Prop) (m0 : Nat) (h0 : I m0 δ)
    (hs : ∀ m δ' σ' F' H', I m δ' → St F0 H0 F' H' σ' δ' → ∃ b, EvT tt δ' b ∧ (b = true → ∀ σ' F' H', St F0 H0 F' H' σ' δ' → tu ⟨NX F0 H0 (fun d => ∃ m', m' < m ∧ I m' d), D.rt, tz D, NX F0 H0 (fun d => ∃ m', m' < m ∧ I m' d)⟩ σ' H') ∧
      (b = false → ∀ σ' F' H', St F0 H0 F' H' σ' δ' → tz D σ' H')) : tSeq (tWhile tt tu) tz D σ H := by
  refine ⟨fun m => NX F0 H0 (I m), ⟨m0, F, δ, s, h0⟩, ?_⟩
  rintro m σ' H' ⟨F', δ', s', hI⟩
  obtain ⟨b, hb, h1, h2⟩ := hs m δ' σ' F' H' hI s'
  refine hb F0 H0 F' H' σ' s' _ fun F2 H2 g => ?_
  cases b with
  | true =>
    refine ⟨NX F0 H0 (fun d => ∃ m', m' < m ∧ I m' d), ?_, h1 rfl σ' F2 H2 (s'.grow g)⟩
    rintro σ3 H3 ⟨F3, δ3, s3, m', hm, hI'⟩
    exact ⟨m', hm, F3, δ3, s3, hI'⟩
  | false => exact h2 rfl σ' F2 H2 (s'.grow g)

/-! ### comprehensions -/
theorem wipe1 {j : Nat} {x : V} : wipe ((wipe σ [j]).set j (some x)) [j] = wipe σ [j] := by
  show ((σ.set j none).set j (some x)).set j none = σ.set j none
  rw [List.set_set, List.set_set]
theorem St.wipe (s : St F0 H0 F H σ δ) (j : Nat) : St F0 H0 F H (L2.wipe σ [j]) (δ.set j .un) := s.set_un none
theorem set_set_e {α : Type} {l : List α} {j : Nat} {x y : α} : (l.set j x).set j y = l.set j y := List.set_set ..
/-- the list that grows -/
def LcI (F1 H1 : Hp) (Dl : Addr) (ss : List Slot) (H' : Hp) : Prop := ∃ F' acc, Grow F1 H1 F' H' ∧ F' Dl = none ∧ H' Dl = some (.lst acc) ∧ PairS F' acc ss
theorem LcI.start (fh : Same F H) {Dl : Addr} (h : H Dl = none) : LcI F H Dl [] (upd H Dl (.lst [])) := ⟨F, [], Grow.newH fh h, fh.free h, upd_same, .nil⟩
theorem lc_turn {Dl : Addr} {ss : List Slot} {b : Bool} {T S : Slot} {x : V} {H' : Hp} {Nx : Hp → Prop} (s : St F0 H0 F H σ δ) (hD : H Dl = none) (hl : ss.length < 50000) (px : ∀ F', Grow F H F' H' → T.P F' x) (p : LcI F H Dl ss H')
    (ht : EvT tt (δ.set j (.v T)) b) (he : b = true → EvE te (δ.set j (.v T)) (.v S)) (hn : ∀ H', LcI F H Dl (if b = true then ss ++ [S] else ss) H' → Nx H') :
    tt ((L2.wipe σ [j]).set j (some x)) H' fun b H3 => if b = true then te ((L2.wipe σ [j]).set j (some x)) H3 fun y H4 => ∃ acc, H4 Dl = some (.lst acc) ∧ acc.length < sizeLine ∧ Nx (upd H4 Dl (.lst (acc ++ [y]))) else Nx H3 := by
  obtain ⟨F', acc, g, hf, hp, pa⟩ := p
  have s' : St F0 H0 F' H' ((L2.wipe σ [j]).set j (some x)) (δ.set j (.v T)) := by
    have z := ((s.wipe j).grow g).set_v (i := j) (px F' g)
    rw [set_set_e] at z
    exact z
  refine ht F0 H0 F' H' _ s' _ fun F3 H3 g3 => ?_
  have nf : F3 Dl = none := g3.nw Dl (by rw [hp]; exact fun z => nomatch z) hf
  cases hb : b with
  | false =>
    rw [hb, if_neg Bool.false_ne_true] at hn
    exact hn H3 ⟨F3, acc, g.trans g3, nf, g3.hh Dl _ hp, PairS.mono g3.ff pa⟩
  | true =>
    rw [hb, if_pos rfl] at hn
    show te _ H3 _
    refine he hb F0 H0 F3 H3 _ (s'.grow g3) _ fun y F4 H4 g4 a4 => ⟨acc, g4.hh Dl _ (g3.hh Dl _ hp), by rw [pa.length]; exact sizeLt (by omega), hn _ ?_⟩
    have n4 : F4 Dl = none := g4.nw Dl (by rw [g3.hh Dl _ hp]; exact fun z => nomatch z) nf
    have gg := (g.trans g3).trans g4
    exact ⟨F4, acc ++ [y], ⟨gg.ff, same_updR gg.hh hD, same_updR gg.fh n4, gg.nw, fun t => tt_upd (gg.tt t) (by intro _ h; cases h)⟩, n4, upd_same, PairS.snoc (PairS.mono (g3.trans g4).ff pa) a4⟩
/-- what is kept of the first i items -/
def kept {α : Type} (p : α → Bool) (f : α → Slot) (xs : List α) (i : Nat) : List Slot := ((xs.take i).filter p).map f
theorem kept_succ {α : Type} {p : α → Bool} {f : α → Slot} {xs : List α} {i : Nat} {x : α} (h : xs[i]? = some x) : kept p f xs (i + 1) = if p x = true then kept p f xs i ++ [f x] else kept p f xs i := by
  unfold kept
  rw [List.take_add_one, h, List.filter_append, List.map_append]
  show _ ++ List.map f (List.filter p [x]) = _
  rw [List.filter_cons]
  split <;> simp
theorem kept_all {α : Type} {p : α → Bool} {f : α → Slot} {xs : List α} : kept p f xs xs.length = (xs.filter p).map f := by
  unfold kept
  rw [List.take_length]
theorem kept_le {α : Type} {p : α → Bool} {f : α → Slot} {xs : List α} {i : Nat} : (kept p f xs i).length ≤ i := by
  unfold kept
  rw [List.length_map]
  have h1 := List.length_filter_le p (xs.take i)
  have h2 := List.length_take_le i xs
  omega
/-- [te for j in ta if tt], ta a list -/
theorem eo_lcL {α : Type} (ex : α → Slot) (xs : List α) (p : α → Bool) (f : α → Slot) {e1 : Ent} (h : EvE ta δ e1) (hr : IsR e1 (lstO (xs.map ex))) (hz : xs.length ≤ 40000)
    (ht : ∀ x ∈ xs, EvT tt (δ.set j (.v (ex x))) (p x)) (he : ∀ x ∈ xs, p x = true → EvE te (δ.set j (.v (ex x))) (.v (f x))) :
    EvO (tLc (iAny K ta) (gName j) tt te [j]) δ (lstO ((xs.filter p).map f)) := fun F0 H0 F H σ s Q q => by
  refine .inl (h F0 H0 F H σ s _ fun v F1 H1 g1 a1 => ?_)
  obtain ⟨a, ho, rfl, hp, vs, rfl, pv⟩ := hr.get a1 g1.fh
  have s1 := s.grow g1
  have hlen : vs.length = xs.length := by rw [pv.length, List.length_map]
  refine ⟨a, rfl, ⟨vs, SqL.of hp⟩, fun Dl hD => lc_list (xs := vs) (fun i H' => LcI F1 H1 Dl (kept p f xs i) H') (LcI.start g1.fh hD) ?_ ?_ ?_⟩
  · rintro i H' _ ⟨F', acc, g, _⟩
    exact SqL.of (g.hh a _ hp)
  · rintro i x H' hx hI
    have hi : i < xs.length := by
      rw [← hlen]
      exact (List.getElem?_eq_some_iff.mp hx).1
    have hxi : xs[i]? = some xs[i] := List.getElem?_eq_getElem hi
    have px : (ex xs[i]).P F1 x := by
      obtain ⟨w, hw, z⟩ := PairS.get (i := i) (S := ex xs[i]) pv (by rw [List.getElem?_map, hxi]; rfl)
      rw [hx] at hw
      cases hw
      exact z
    have hm : xs[i] ∈ xs := List.getElem_mem hi
    have hk := kept_le (p := p) (f := f) (xs := xs) (i := i)
    refine ⟨wipe1, lc_turn (b := p xs[i]) (T := ex xs[i]) (S := f xs[i]) (ss := kept p f xs i) s1 hD (by omega) (fun F' g => (ex xs[i]).mono g.ff px) hI (ht _ hm) (he _ hm) fun H' z => ?_⟩
    rw [kept_succ hxi]
    exact z
  · rintro H' ⟨F', acc, g, hf, hp', pa⟩
    rw [hlen, kept_all] at pa
    exact q Dl _ F' H' (g1.trans g) (g1.hh.free hD) hf hp' ⟨acc, rfl, pa⟩
/-- .. ta a range -/
theorem eo_lcR {n : Nat} {z : Int} {tl : TA} (p : Nat → Bool) (f : Nat → Slot) (h : EvAs tl δ [.v (iS z)]) (hz : z.toNat = n) (hn : z ≤ 40000 ∧ -100000 ≤ z)
    (ht : ∀ m, m < n → EvT tt (δ.set j (.v (iS (m : Int)))) (p m)) (he : ∀ m, m < n → p m = true → EvE te (δ.set j (.v (iS (m : Int)))) (.v (f m))) :
    EvO (tLc (iRng1 tl) (gName j) tt te [j]) δ (lstO (((List.range n).filter p).map f)) := fun F0 H0 F H σ s Q q => by
  refine h F0 H0 F H σ s _ fun vs F1 H1 g1 a1 => ?_
  cases a1 with
  | cons p1 t => cases t with
    | nil =>
      cases p1
      have s1 := s.grow g1
      refine ⟨z, rfl, by omega, by omega, fun Dl hD => lc_range (lo := 0) (n := z.toNat) (fun i H' => LcI F1 H1 Dl (kept p f (List.range n) i) H') (LcI.start g1.fh hD) ?_ ?_⟩
      · rintro m H' hm hI
        have e0 : (0 : Int) + (m : Int) = (m : Int) := Int.zero_add _
        rw [e0]
        have hk := kept_le (p := p) (f := f) (xs := List.range n) (i := m)
        refine ⟨wipe1, lc_turn (b := p m) (T := iS (m : Int)) (S := f m) (ss := kept p f (List.range n) m) s1 hD (by omega) (fun F' sm => rfl) hI (ht _ (hz ▸ hm)) (he _ (hz ▸ hm)) fun H' z => ?_⟩
        have hx : (List.range n)[m]? = some m := List.getElem?_range (hz ▸ hm)
        rw [kept_succ hx]
        exact z
      · rintro H' ⟨F', acc, g, hf, hp', pa⟩
        have e : z.toNat = (List.range n).length := by rw [List.length_range, hz]
        rw [e, kept_all] at pa
        exact q Dl _ F' H' (g1.trans g) (g1.hh.free hD) hf hp' ⟨acc, rfl, pa⟩
end
end J

namespace J
open PySem PySem.Spec L2 PyProof.Rows

/-! ### defs, methods, classes as they stand -/
structure CalX (P : Program) (w : World) (K : PySem.W.Frag) (mg : Str → Option Value) (base : Heap) (k : Nat) (x : Str) (sp : Sp) : Prop where
  ex : ∃ (f : Addr) (fd : FuncData) (ps : List Str), FnOk P w K mg base (CXJ P w) k f fd ps sp ∧ mg x = some (.ref f) ∧ PySem.W.keepIn K (.ref f) = true ∧ Binds K fd ps []
structure MetX (P : Program) (w : World) (K : PySem.W.Frag) (mg : Str → Option Value) (base : Heap) (k : Nat) (C : Addr) (m : Str) (sp : Sp) : Prop where
  ex : ∃ (f : Addr) (fd : FuncData) (ps : List Str), Cls K C ∧ Meth K C m f ∧ FnOk P w K mg base (CXJ P w) k f fd ps sp ∧ Binds K fd ps []
structure MakX (P : Program) (w : World) (K : PySem.W.Frag) (mg : Str → Option Value) (base : Heap) (k : Nat) (x : Str) (C : Addr) (sp : Sp) : Prop where
  ex : ∃ (f : Addr) (fd : FuncData) (ps : List Str), Mk K C f ∧ FnOk P w K mg base (CXJ P w) k f fd ps sp ∧ mg x = some (.ref C) ∧ Binds K fd ps []
section
variable {X : Cx} {k j : Nat} {C : Addr} {x m : Str} {sp : Sp} {p pos apos : Pos} {e o : Expr} {es : List Expr} {ta : TE} {t : TA} {E : XK}
theorem pe_cX (c : CalX X.prog X.w X.K X.mg X.base k x sp) (hr : Room j X.A) (hk : k ≤ j) (hx : Passes (CXJ X.prog X.w) X E) (hg : Gl X x) (ha : PA X (e :: es) t)
    (hdb : (x == ("__debug__" : Str)) = false := by decide) (he : starEach (e :: es) X.env = (false, eval e X.env) :: starEach es X.env := by rfl) (hpl : (backTo pos (starEach es X.env)).any (·.1) = false := by rfl) :
    PE X (.Call (.Name x p) (e :: es) [] pos) (tCall sp [] E t) := by
  obtain ⟨f, fd, ps, F, hm, kp, b⟩ := c.ex
  exact pe_call F (hr.mono hk) hg hm kp b .nil hx ha hdb he hpl
theorem pe_cX0 (c : CalX X.prog X.w X.K X.mg X.base k x sp) (hr : Room j X.A) (hk : k ≤ j) (hx : Passes (CXJ X.prog X.w) X E) (hg : Gl X x) (hdb : (x == ("__debug__" : Str)) = false := by decide) :
    PE X (.Call (.Name x p) [] [] pos) (tCall sp [] E tNil) := by
  obtain ⟨f, fd, ps, F, hm, kp, b⟩ := c.ex
  exact pe_call0 F (hr.mono hk) hg hm kp b .nil hx hdb
theorem pe_mkX (c : MakX X.prog X.w X.K X.mg X.base k x C sp) (hr : Room j X.A) (hk : k + 1 ≤ j) (hx : Passes (CXJ X.prog X.w) X E) (hg : Gl X x) (ha : PA X (e :: es) t)
    (hdb : (x == ("__debug__" : Str)) = false := by decide) (he : starEach (e :: es) X.env = (false, eval e X.env) :: starEach es X.env := by rfl) (hpl : (backTo pos (starEach es X.env)).any (·.1) = false := by rfl) :
    PE X (.Call (.Name x p) (e :: es) [] pos) (tMake C sp [] E t) := by
  obtain ⟨f, fd, ps, M, F, hm, b⟩ := c.ex
  exact pe_make M F (hr.mono hk) hg hm b .nil hx ha hdb he hpl
theorem pe_mtX {pl : Sem Bool} (c : MetX X.prog X.w X.K X.mg X.base k C m sp) (hr : Room j X.A) (hk : k ≤ j) (hx : Passes (CXJ X.prog X.w) X E) (he : PE X o ta) (ha : PA X (e :: es) t)
    (hst : starEach (e :: es) X.env = (false, eval e X.env) :: starEach es X.env := by rfl) (hpl : (backTo pos (starEach es X.env)).any (·.1) = false := by rfl)
    (ht : eval (.Call (.Attribute o m apos) (e :: es) [] pos) X.env = (do
      let ov ← eval o X.env
      standAt apos.atName
      let (f, first) ← holding [ov] (getMethod ov m pl)
      callWith pos f first (backTo pos (starEach (e :: es) X.env)) (backToKw pos (keywordEach [] X.env))) := by rfl) :
    PE X (.Call (.Attribute o m apos) (e :: es) [] pos) (tMeth C m sp [] E ta t) := by
  obtain ⟨f, fd, ps, hc, hm, F, b⟩ := c.ex
  exact pe_meth (pl := pl) he hc hm F (hr.mono hk) b .nil hx ha hst hpl ht
theorem pe_mtX0 {pl : Sem Bool} (c : MetX X.prog X.w X.K X.mg X.base k C m sp) (hr : Room j X.A) (hk : k ≤ j) (hx : Passes (CXJ X.prog X.w) X E) (he : PE X o ta)
    (ht : eval (.Call (.Attribute o m apos) [] [] pos) X.env = (do
      let ov ← eval o X.env
      standAt apos.atName
      let (f, first) ← holding [ov] (getMethod ov m pl)
      callWith pos f first (backTo pos (starEach [] X.env)) (backToKw pos (keywordEach [] X.env))) := by rfl) :
    PE X (.Call (.Attribute o m apos) [] [] pos) (tMeth C m sp [] E ta tNil) := by
  obtain ⟨f, fd, ps, hc, hm, F, b⟩ := c.ex
  exact pe_meth0 (pl := pl) he hc hm F (hr.mono hk) b .nil hx ht
/-- one of two readings -/
theorem pe_or2 {t u : TE} (h1 : PE X e t) (h2 : PE X e u) : PE X e (fun σ H Q => t σ H Q ∨ u σ H Q) := ⟨fun pins s σ H Q I h => h.elim (h1.run pins s σ H Q I) (h2.run pins s σ H Q I)⟩
theorem pt_or2 {t u : TT} (h1 : PT X e t) (h2 : PT X e u) : PT X e (fun σ H Q => t σ H Q ∨ u σ H Q) := ⟨fun pins s σ H Q I h => h.elim (h1.run pins s σ H Q I) (h2.run pins s σ H Q I)⟩
theorem pi_or2 {tg : Expr} {t u : TI} (h1 : PI X tg e t) (h2 : PI X tg e u) : PI X tg e (fun σ H Q => t σ H Q ∨ u σ H Q) := ⟨fun pins s σ H R I h => h.elim (h1.run pins s σ H R I) (h2.run pins s σ H R I)⟩
theorem pi_any {tg : Expr} {tl : TE} (h : PE X e tl) : PI X tg e (iAny X.K tl) := pi_or2 (pi_list h) (pi_or2 (pi_tup h) (pi_keys h))
/-- raise C("..") of an own class -/
structure ExcK (K : PySem.W.Frag) (mg : Str → Option Value) (x : Str) (C : Addr) : Prop where
  xi : PySem.W.excIn K C [.type "ValueError", .type "Exception", .type "BaseException", .type "object"] "ValueError.__new__" = true
  g : mg x = some (.ref C)
  k : PySem.W.keepIn K (.ref C) = true
  b : PySem.W.subIn K (.ref C) (.type "BaseException") = some true
  t : PySem.W.typeIn K (.ref C) = some (.type "type")
theorem ps_raiseX {msg : Str} {jz : Nat} {p2 pos' : Pos} (hc : X.calm = true) (tk : L2N.Takes X (fun c d _ H => E c d H)) (T : ExcK X.K X.mg x C) (hg : Gl X x) (hdb : (x == ("__debug__" : Str)) = false := by decide) :
    PS X (.Raise (some (.Call (.Name x p) [.Constant (.str msg) jz p2] [] pos)) none pos') (tRaise E C) :=
  L2N.ps_raise hc tk (L2N.pmk_own PySem.F.excBase_ValueError T.xi T.g T.k (raises_own T.b T.t) hg hdb)
end

/-! ### operators of any kind -/
def rAddJ (K : PySem.W.Frag) : R2 := fun x y H Q => rI0 (fun i j => .int (i + j)) x y H Q ∨ (∃ i j, x = .str i ∧ y = .str j ∧ i.length + j.length ≤ sizeLine ∧ Q (.str (i ++ j)) H) ∨ rCatA K x y H Q ∨ rCat x y H Q
def rEqJ (K : PySem.W.Frag) : R2 := fun x y H Q => rEq x y H Q ∨ rEqD K x y H Q
def rNeJ (K : PySem.W.Frag) : R2 := fun x y H Q => rNe x y H Q ∨ rNeD K x y H Q
def rSlJ (K : PySem.W.Frag) : V → Option Int → Option Int → Hp → VK → Prop := fun x lo hi H Q => rSlA K x lo hi H Q ∨ rSlL K x lo hi H Q ∨ C8.rSlX x lo hi H Q
def rLenJ (K : PySem.W.Frag) : List V → Hp → VK → Prop := fun xs H Q => (∃ p ys, xs = [.ref p] ∧ (SqL K H p ys ∨ SqT K H p ys) ∧ Q (.int ys.length) H) ∨ (∃ z, xs = [.str z] ∧ z.length ≤ sizeLine ∧ Q (.int z.length) H)
section
variable {X : Cx}
theorem jo_add : OpR X (binaryOp .Add) (rAddJ X.K) := OpR.or op_add (OpR.or op_add_str (OpR.or op_catA op_cat))
theorem jo_eq (hu : X.A.units + 64 < cLine) : OpR X (compareOp .Eq) (rEqJ X.K) := OpR.or op_eq (op_eqD hu)
theorem jo_ne (hu : X.A.units + 64 < cLine) : OpR X (compareOp .NotEq) (rNeJ X.K) := OpR.or op_ne (op_neD hu)
theorem jo_sl : SlR X (rSlJ X.K) := SlR.or sl_tupA (SlR.or sl_list C8.sl_txt)
theorem jc_len : CallR X (.builtin "len") (rLenJ X.K) := CallR.or call_len_seq call_len_str
end
/-- a[b]: of a list, a tuple, a text, a dict -/
def tIx (K : PySem.W.Frag) (ta tb : TE) : TE := fun σ H Q => tOp (rIx K) ta tb σ H Q ∨ tDGet ta tb σ H Q
def tInJ (K : PySem.W.Frag) (ta tb : TE) : TE := fun σ H Q => tOp (rIn K false) ta tb σ H Q ∨ tDIn ta tb σ H Q ∨ tOp (rInD K) ta tb σ H Q
def tNiJ (K : PySem.W.Frag) (ta tb : TE) : TE := fun σ H Q => tOp (rIn K true) ta tb σ H Q ∨ tDNotIn ta tb σ H Q ∨ tOp (rNotInD K) ta tb σ H Q
section
variable {X : Cx} {a b : Expr} {ta tb : TE} {pos : Pos} {k : Nat}
theorem Room.u65 {A : Around} (r : Room k A) : A.units + 65 < cLine := by have := r.un; omega
theorem pe_ixJ (hr : Room k X.A) (ha : PE X a ta) (hb : PE X b tb) (hs : PlainIx b) (hs2 : NoSl b) : PE X (.Subscript a b pos) (tIx X.K ta tb) := pe_or2 (pe_ix ix_seq ha hb hs) (pe_dget (Nat.lt_of_le_of_lt (by omega) (Room.u65 hr)) ha hb hs2)
theorem pe_inJ (hr : Room k X.A) (ha : PE X a ta) (hb : PE X b tb) (hm : behindInMarks .In b = false) : PE X (.Compare a [.In] [b] pos) (tInJ X.K ta tb) :=
  pe_or2 (pe_cmpR op_in_seq ha hb hm) (pe_or2 (pe_cmp (pc_din (Nat.lt_of_le_of_lt (by omega) (Room.u65 hr)) ha hb) hm) (pe_cmpR (op_inD (Room.u65 hr)) ha hb hm))
theorem pe_niJ (hr : Room k X.A) (ha : PE X a ta) (hb : PE X b tb) (hm : behindInMarks .NotIn b = false) : PE X (.Compare a [.NotIn] [b] pos) (tNiJ X.K ta tb) :=
  pe_or2 (pe_cmpR op_notIn_seq ha hb hm) (pe_or2 (pe_cmp (pc_dnotin (Nat.lt_of_le_of_lt (by omega) (Room.u65 hr)) ha hb) hm) (pe_cmpR (op_notInD (Room.u65 hr)) ha hb hm))
theorem tB_test {t : TE} : tB t = tTest t := rfl
theorem pt_inJ (hr : Room k X.A) (ha : PE X a ta) (hb : PE X b tb) (hm : behindInMarks .In b = false) : PT X (.Compare a [.In] [b] pos) (tTest (tInJ X.K ta tb)) := by
  refine ⟨fun pins s σ H Q I h => ?_⟩
  rcases h with h | h | h
  · exact (pt_cmpR op_in_seq ha hb hm).run pins s σ H Q I h
  · exact (pt_cmp (pc_din (Nat.lt_of_le_of_lt (by omega) (Room.u65 hr)) ha hb) hm).run pins s σ H Q I h
  · exact (pt_cmpR (op_inD (Room.u65 hr)) ha hb hm).run pins s σ H Q I h
theorem pt_niJ (hr : Room k X.A) (ha : PE X a ta) (hb : PE X b tb) (hm : behindInMarks .NotIn b = false) : PT X (.Compare a [.NotIn] [b] pos) (tTest (tNiJ X.K ta tb)) := by
  refine ⟨fun pins s σ H Q I h => ?_⟩
  rcases h with h | h | h
  · exact (pt_cmpR op_notIn_seq ha hb hm).run pins s σ H Q I h
  · exact (pt_cmp (pc_dnotin (Nat.lt_of_le_of_lt (by omega) (Room.u65 hr)) ha hb) hm).run pins s σ H Q I h
  · exact (pt_cmpR (op_notInD (Room.u65 hr)) ha hb hm).run pins s σ H Q I h
end

/-! ### what they give -/
section
variable {K : PySem.W.Frag} {te ta tb : TE} {tl th : TO} {tr : TA} {δ es : List Ent} {e e1 e2 : Ent} {o : Own} {S T : Slot} {ss ts : List Slot} {n m : Nat} {i j : Int}
theorem jv_add : OpE (rAddJ K) (.v (iS i)) (.v (iS j)) (.v (iS (i + j))) := OpE.inl op_I0
theorem jv_adds {x y : Str} (h : x.length + y.length ≤ 100000) : OpE (rAddJ K) (.v (sS x)) (.v (sS y)) (.v (sS (x ++ y))) := OpE.inr (OpE.inl (op_k fun _ _ q => ⟨x, y, rfl, rfl, size_ok h, q⟩))
theorem jv_addt (h : ss.length + ts.length ≤ 100000) : OpE (rAddJ K) (.v (tupS ss)) (.v (tupS ts)) (.v (tupS (ss ++ ts))) := OpE.inr (OpE.inr (OpE.inl fun F H x y s a b Q q => by
  obtain ⟨p, ho, rfl, hp, vs, rfl, pv⟩ := a
  obtain ⟨p', ho', rfl, hp', ws, rfl, pw⟩ := b
  refine ⟨p, p', vs, ws, rfl, rfl, SqT.of (s p _ hp), SqT.of (s p' _ hp'), by rw [pv.length, pw.length]; exact size_ok h, ?_, ?_, ?_⟩
  · rintro rfl
    cases pv
    exact q _ F H (Grow.refl s) ⟨p', _, rfl, hp', ws, rfl, pw⟩
  · rintro _ rfl
    cases pw
    exact q _ F H (Grow.refl s) ⟨p, _, rfl, hp, vs, rfl, by rw [List.append_nil]; exact pv⟩
  · intro _ _ r hr
    have g := Grow.newF (o := .tup (vs ++ ws)) s hr
    exact q _ _ _ g ⟨r, _, rfl, upd_same, _, rfl, PairS.mono g.ff (PairS.app pv pw)⟩))
theorem jo_addl (h1 : IsR e1 (lstO ss)) (h2 : IsR e2 (lstO ts)) (h : ss.length + ts.length ≤ 100000) : OpO (rAddJ K) e1 e2 (lstO (ss ++ ts)) := OpO.inr (OpO.inr (OpO.inr fun F H x y s a b Q q => by
  obtain ⟨p, ho, rfl, hp, vs, rfl, pv⟩ := h1.get a s
  obtain ⟨p', ho', rfl, hp', ws, rfl, pw⟩ := h2.get b s
  exact ⟨p, p', vs, ws, rfl, rfl, hp, hp', by rw [pv.length, pw.length]; exact size_ok h, fun r hr => q r _ F _ (Grow.newH s hr) hr (s.free hr) upd_same ⟨_, rfl, PairS.app pv pw⟩⟩))
theorem jv_eq {x y : V} (h : scal x y = true) : OpE (rEqJ K) (.v (kS x)) (.v (kS y)) (.v (bS (decide (x = y)))) := OpE.inl (op_Eq h)
theorem jv_eqi : OpE (rEqJ K) (.v (iS i)) (.v (iS j)) (.v (bS (decide (i = j)))) := by
  have z := jv_eq (K := K) (x := .int i) (y := .int j) rfl
  have e : decide (V.int i = V.int j) = decide (i = j) := by
    by_cases h : i = j
    · rw [h, decide_eq_true rfl, decide_eq_true rfl]
    · rw [decide_eq_false h, decide_eq_false fun q => h (V.int.inj q)]
  rw [e] at z
  exact z
theorem jv_nei : OpE (rNeJ K) (.v (iS i)) (.v (iS j)) (.v (bS (!decide (i = j)))) := by
  have z : OpE (rNeJ K) (.v (iS i)) (.v (iS j)) (.v (bS (!decide (V.int i = V.int j)))) := OpE.inl (op_Ne rfl)
  have e : decide (V.int i = V.int j) = decide (i = j) := by
    by_cases h : i = j
    · rw [h, decide_eq_true rfl, decide_eq_true rfl]
    · rw [decide_eq_false h, decide_eq_false fun q => h (V.int.inj q)]
  rw [e] at z
  exact z
theorem jv_eqb {a b : Bool} : OpE (rEqJ K) (.v (bS a)) (.v (bS b)) (.v (bS (decide (a = b)))) := by
  have z := jv_eq (K := K) (x := .bl a) (y := .bl b) rfl
  have e : decide (V.bl a = V.bl b) = decide (a = b) := by cases a <;> cases b <;> rfl
  rw [e] at z
  exact z
theorem jv_neb {a b : Bool} : OpE (rNeJ K) (.v (bS a)) (.v (bS b)) (.v (bS (!decide (a = b)))) := by
  have z : OpE (rNeJ K) (.v (bS a)) (.v (bS b)) (.v (bS (!decide (V.bl a = V.bl b)))) := OpE.inl (op_Ne rfl)
  have e : decide (V.bl a = V.bl b) = decide (a = b) := by cases a <;> cases b <;> rfl
  rw [e] at z
  exact z
theorem jv_eqs {a b : Str} : OpE (rEqJ K) (.v (sS a)) (.v (sS b)) (.v (bS (decide (a = b)))) := by
  have z := jv_eq (K := K) (x := .str a) (y := .str b) rfl
  have e : decide (V.str a = V.str b) = decide (a = b) := by
    by_cases h : a = b
    · rw [h, decide_eq_true rfl, decide_eq_true rfl]
    · rw [decide_eq_false h, decide_eq_false fun q => h (V.str.inj q)]
  rw [e] at z
  exact z
/-- data, whatever it is -/
structure Dat (K : PySem.W.Frag) (e : Ent) (d : PyData) : Prop where
  to : ∀ (F H : Hp) (x : V), Same F H → ArgOk F H x e → Dp K H x d
  sh : SeqAt.shaped d = true
structure DatS (K : PySem.W.Frag) (ss : List Slot) (ds : List PyData) : Prop where
  to : ∀ (F H : Hp) (vs : List V), Same F H → PairS F vs ss → DpAll K H vs ds
theorem jv_eqD {d1 d2 : PyData} (h1 : Dat K e1 d1) (h2 : Dat K e2 d2) : OpE (rEqJ K) e1 e2 (.v (bS (PyData.eqv d1 d2))) := OpE.inr fun F H x y s a b Q q => ⟨d1, d2, h1.to F H x s a, h2.to F H y s b, h1.sh, h2.sh, q _ F H (Grow.refl s) rfl⟩
theorem jv_neD {d1 d2 : PyData} (h1 : Dat K e1 d1) (h2 : Dat K e2 d2) : OpE (rNeJ K) e1 e2 (.v (bS (!PyData.eqv d1 d2))) := OpE.inr fun F H x y s a b Q q => ⟨d1, d2, h1.to F H x s a, h2.to F H y s b, h1.sh, h2.sh, q _ F H (Grow.refl s) rfl⟩

/-! ### places -/
theorem jv_ixl {xs : List Slot} (h : IsR e1 (lstO xs)) (hx : xs[n]? = some S) : OpE (rIx K) e1 (.v (iS (n : Int))) (.v S) := fun F H x y s a b Q q => by
  obtain ⟨p, ho, rfl, hp, vs, rfl, pv⟩ := h.get a s
  cases b
  obtain ⟨v, hv, z⟩ := PairS.get pv hx
  exact .inl ⟨p, vs, (n : Int), v, rfl, rfl, SqL.of hp, atI_nat hv, q v F H (Grow.refl s) z⟩
theorem jv_ixt {xs : List Slot} (h : IsR e1 (tupO xs)) (hx : xs[n]? = some S) : OpE (rIx K) e1 (.v (iS (n : Int))) (.v S) := fun F H x y s a b Q q => by
  obtain ⟨p, ho, rfl, hp, vs, rfl, pv⟩ := h.get a s
  cases b
  obtain ⟨v, hv, z⟩ := PairS.get pv hx
  exact .inr (.inl ⟨p, vs, (n : Int), v, rfl, rfl, SqT.of hp, atI_nat hv, q v F H (Grow.refl s) z⟩)
theorem ev_ix (ha : EvE ta δ e1) (hb : EvE tb δ e2) (h : OpE (rIx K) e1 e2 e) : EvE (tIx K ta tb) δ e := fun F0 H0 F H σ s Q q => .inl (ev_op ha hb h F0 H0 F H σ s Q q)
/-- t[lo:hi] -/
def EvPO (to : TO) (δ : List Ent) (r : Option Int) : Prop := ∀ (F0 H0 F H : Hp) (σ : L2.St), St F0 H0 F H σ δ → ∀ Q : Option Int → Hp → Prop, (∀ F' H', Grow F H F' H' → Q r H') → to σ H Q
theorem eo_none : EvPO tNoPart δ none := fun F0 H0 F H σ s Q q => q F H (Grow.refl s.fh)
theorem eo_some (h : EvE te δ (.v (iS i))) : EvPO (tPart te) δ (some i) := fun F0 H0 F H σ s Q q => h F0 H0 F H σ s _ fun v F' H' g a => ⟨i, a, q F' H' g⟩
def cutS' (ss : List Slot) (lo hi : Option Int) : List Slot := (ss.drop (HT.sIx ss.length 0 lo)).take (HT.sIx ss.length ss.length hi - HT.sIx ss.length 0 lo)
theorem ev_slt {lo hi : Option Int} (h : EvE te δ (.v (tupS ss))) (h1 : EvPO tl δ lo) (h2 : EvPO th δ hi) : EvE (tSl (rSlJ K) te tl th) δ (.v (tupS (cutS' ss lo hi))) := fun F0 H0 F H σ s Q q =>
  h F0 H0 F H σ s _ fun x F1 H1 g1 a1 => h1 F0 H0 F1 H1 σ (s.grow g1) _ fun F2 H2 g2 => h2 F0 H0 F2 H2 σ ((s.grow g1).grow g2) _ fun F3 H3 g3 => by
    have g := (g1.trans g2).trans g3
    obtain ⟨p, ho, rfl, hp, vs, rfl, pv⟩ := (tupS ss).mono (g2.trans g3).ff a1
    refine .inl ⟨p, vs, rfl, SqT.of (g3.fh p _ hp), fun ⟨z1, z2⟩ => ?_, fun _ r hr => ?_⟩
    · refine q _ F3 H3 g ⟨p, _, rfl, hp, vs, rfl, ?_⟩
      unfold cutS'
      rw [pv.length] at z1 z2
      rw [z1, z2, List.drop_zero, Nat.sub_zero, List.take_length]
      exact pv
    · have g4 := Grow.newF (o := .tup (cutV vs lo hi)) g3.fh hr
      refine q _ _ _ (g.trans g4) ⟨r, _, rfl, upd_same, _, rfl, PairS.mono g4.ff ?_⟩
      unfold cutS' cutV
      rw [pv.length]
      exact PairS.take _ (PairS.drop _ pv)
theorem eo_sll {lo hi : Option Int} (h : EvE te δ e1) (hr : IsR e1 (lstO ss)) (h1 : EvPO tl δ lo) (h2 : EvPO th δ hi) : EvO (tSl (rSlJ K) te tl th) δ (lstO (cutS' ss lo hi)) := fun F0 H0 F H σ s Q q =>
  h F0 H0 F H σ s _ fun x F1 H1 g1 a1 => h1 F0 H0 F1 H1 σ (s.grow g1) _ fun F2 H2 g2 => h2 F0 H0 F2 H2 σ ((s.grow g1).grow g2) _ fun F3 H3 g3 => by
    have g := (g1.trans g2).trans g3
    obtain ⟨p, ho, rfl, hp, vs, rfl, pv⟩ := hr.get (a1.grow (g2.trans g3)) g3.fh
    refine .inr (.inl ⟨p, vs, rfl, SqL.of hp, fun r hr => ?_⟩)
    refine q r _ F3 _ (g.trans (Grow.newH g3.fh hr)) (g.hh.free hr) (g3.fh.free hr) upd_same ⟨_, rfl, ?_⟩
    unfold cutS' cutV
    rw [pv.length]
    exact PairS.take _ (PairS.drop _ pv)
theorem cut_to (k : Nat) : cutS' ss none (some (k : Int)) = ss.take k := by
  unfold cutS'
  rw [HT.sIx_none, HT.sIx_nat, List.drop_zero, Nat.sub_zero]
  by_cases h : k ≤ ss.length
  · rw [Nat.min_eq_left h]
  · rw [Nat.min_eq_right (by omega), List.take_length, List.take_of_length_le (by omega)]
theorem cut_from (k : Nat) : cutS' ss (some (k : Int)) none = ss.drop k := by
  unfold cutS'
  rw [HT.sIx_none, HT.sIx_nat]
  by_cases h : k ≤ ss.length
  · rw [Nat.min_eq_left h, List.take_of_length_le (by rw [List.length_drop]; omega)]
  · rw [Nat.min_eq_right (by omega), List.drop_length, List.drop_of_length_le (by omega)]
    simp

/-! ### built-in functions -/
def CbE (r : List V → Hp → VK → Prop) (es : List Ent) (e : Ent) : Prop := ∀ (F H : Hp) (xs : List V), Same F H → Paired (ArgOk F H) xs es → ∀ Q : VK, (∀ v F' H', Grow F H F' H' → ArgOk F' H' v e → Q v H') → r xs H Q
def CbO (r : List V → Hp → VK → Prop) (es : List Ent) (o : Own) : Prop := ∀ (F H : Hp) (xs : List V), Same F H → Paired (ArgOk F H) xs es → ∀ Q : VK, (∀ p ho F' H', Grow F H F' H' → H p = none → F' p = none → H' p = some ho → o.P F' p ho → Q (.ref p) H') → r xs H Q
theorem ev_cb {r : List V → Hp → VK → Prop} (h : EvAs tr δ es) (hr : CbE r es e) : EvE (tCB r tr) δ e := fun F0 H0 F H σ s Q q =>
  h F0 H0 F H σ s _ fun vs F1 H1 g1 a1 => hr F1 H1 vs g1.fh a1 Q fun v F2 H2 g2 a2 => q v F2 H2 (g1.trans g2) a2
theorem eo_cb {r : List V → Hp → VK → Prop} (h : EvAs tr δ es) (hr : CbO r es o) : EvO (tCB r tr) δ o := fun F0 H0 F H σ s Q q =>
  h F0 H0 F H σ s _ fun vs F1 H1 g1 a1 => hr F1 H1 vs g1.fh a1 Q fun p ho F2 H2 g2 hn hf hp z => q p ho F2 H2 (g1.trans g2) (g1.hh.free hn) hf hp z
theorem one {F H : Hp} {xs : List V} (h : Paired (ArgOk F H) xs [e]) : ∃ x, xs = [x] ∧ ArgOk F H x e := by
  cases h with
  | cons p t => cases t with
    | nil => exact ⟨_, rfl, p⟩
theorem two {F H : Hp} {xs : List V} (h : Paired (ArgOk F H) xs [e1, e2]) : ∃ x y, xs = [x, y] ∧ ArgOk F H x e1 ∧ ArgOk F H y e2 := by
  cases h with
  | cons p t => cases t with
    | cons p2 t => cases t with
      | nil => exact ⟨_, _, rfl, p, p2⟩
theorem cb_len (h : IsR e1 (lstO ss)) : CbE (rLenJ K) [e1] (.v (iS (ss.length : Int))) := fun F H xs s a Q q => by
  obtain ⟨x, rfl, a1⟩ := one a
  obtain ⟨p, ho, rfl, hp, vs, rfl, pv⟩ := h.get a1 s
  exact .inl ⟨p, vs, rfl, .inl (SqL.of hp), by rw [pv.length]; exact q _ F H (Grow.refl s) rfl⟩
theorem cb_lent (h : IsR e1 (tupO ss)) : CbE (rLenJ K) [e1] (.v (iS (ss.length : Int))) := fun F H xs s a Q q => by
  obtain ⟨x, rfl, a1⟩ := one a
  obtain ⟨p, ho, rfl, hp, vs, rfl, pv⟩ := h.get a1 s
  exact .inl ⟨p, vs, rfl, .inr (SqT.of hp), by rw [pv.length]; exact q _ F H (Grow.refl s) rfl⟩
theorem cb_lens {z : Str} (h : z.length ≤ 100000) : CbE (rLenJ K) [.v (sS z)] (.v (iS (z.length : Int))) := fun F H xs s a Q q => by
  obtain ⟨x, rfl, a1⟩ := one a
  cases a1
  exact .inr ⟨z, rfl, size_ok h, q _ F H (Grow.refl s) rfl⟩
theorem cb_max2 : CbE (fun xs H Q => ∃ i j : Int, xs = [.int i, .int j] ∧ Q (.int (if j > i then j else i)) H) [.v (iS i), .v (iS j)] (.v (iS (max i j))) := fun F H xs s a Q q => by
  obtain ⟨x, y, rfl, a1, a2⟩ := two a
  cases a1
  cases a2
  refine ⟨i, j, rfl, ?_⟩
  have e : (if j > i then j else i) = max i j := by split <;> omega
  rw [e]
  exact q _ F H (Grow.refl s) rfl
theorem cb_min2 : CbE (fun xs H Q => ∃ i j : Int, xs = [.int i, .int j] ∧ Q (.int (if j < i then j else i)) H) [.v (iS i), .v (iS j)] (.v (iS (min i j))) := fun F H xs s a Q q => by
  obtain ⟨x, y, rfl, a1, a2⟩ := two a
  cases a1
  cases a2
  refine ⟨i, j, rfl, ?_⟩
  have e : (if j < i then j else i) = min i j := by split <;> omega
  rw [e]
  exact q _ F H (Grow.refl s) rfl
/-- a value's type, a class -/
def TyE (K : PySem.W.Frag) (e : Ent) (t : Value) : Prop := ∀ (F H : Hp) (x : V), Same F H → ArgOk F H x e → TyX K H x t
theorem cb_isi {t u : Value} {c : V} {b : Bool} (h : TyE K e1 t) (hc : ClsV c u) (hb : PySem.W.kitOne K t u = some b) : CbE (rIsi K) [e1, .v (kS c)] (.v (bS b)) := fun F H xs s a Q q => by
  obtain ⟨x, y, rfl, a1, a2⟩ := two a
  cases a2
  exact ⟨x, c, t, u, b, rfl, hc, h F H x s a1, hb, q _ F H (Grow.refl s) rfl⟩
theorem ty_int : TyE K (.v (iS i)) (.type "int") := fun F H x s a => by cases a; exact .base (.int i)
theorem ty_bl {b : Bool} : TyE K (.v (bS b)) (.type "bool") := fun F H x s a => by cases a; exact .base (.bl b)
theorem ty_str {b : Str} : TyE K (.v (sS b)) (.type "str") := fun F H x s a => by cases a; exact .base (.str b)
theorem ty_non : TyE K (.v nS) (.type "NoneType") := fun F H x s a => by cases a; exact .base .non
theorem ty_lst (h : IsR e1 (lstO ss)) : TyE K e1 (.type "list") := fun F H x s a => by
  obtain ⟨p, ho, rfl, hp, vs, rfl, pv⟩ := h.get a s
  exact .base (.lst hp)
theorem ty_tup (h : IsR e1 (tupO ss)) : TyE K e1 (.type "tuple") := fun F H x s a => by
  obtain ⟨p, ho, rfl, hp, vs, rfl, pv⟩ := h.get a s
  exact .base (.tup hp)
structure InsK (K : PySem.W.Frag) (C : Addr) : Prop where
  cl : Cls K C
  ha : PySem.W.findIn K (.ref C) "__class__" = some (some (.builtin "object.__class__"))
  hn : PySem.W.specialIn K (.builtin "object.__class__") "__get__" = some (some (.builtin "getset_descriptor.__get__"))
  tk : PySem.W.takesIn K (.builtin "object.__class__") = some true
  hm : PySem.W.mroIn K C (.type "object") = some true
theorem ty_ins {C : Addr} {fs : List (Str × Slot)} (k : InsK K C) (h : IsR e1 (insO C fs)) : TyE K e1 (.ref C) := fun F H x s a => by
  obtain ⟨p, ho, rfl, hp, dx, fv, rfl, pv⟩ := h.get a s
  exact .base (.ins hp k.cl k.ha k.hn k.tk k.hm)
/-- list(..), tuple(..) of a list, a tuple -/
theorem co_list (h : IsR e1 (lstO ss)) : CbO (fun xs H Q => ∃ p ys, xs = [.ref p] ∧ (SqL K H p ys ∨ SqT K H p ys) ∧ ∀ l, H l = none → Q (.ref l) (upd H l (.lst ys))) [e1] (lstO ss) := fun F H xs s a Q q => by
  obtain ⟨x, rfl, a1⟩ := one a
  obtain ⟨p, ho, rfl, hp, vs, rfl, pv⟩ := h.get a1 s
  exact ⟨p, vs, rfl, .inl (SqL.of hp), fun l hl => q l _ F _ (Grow.newH s hl) hl (s.free hl) upd_same ⟨vs, rfl, pv⟩⟩
theorem co_listT (h : IsR e1 (tupO ss)) : CbO (fun xs H Q => ∃ p ys, xs = [.ref p] ∧ (SqL K H p ys ∨ SqT K H p ys) ∧ ∀ l, H l = none → Q (.ref l) (upd H l (.lst ys))) [e1] (lstO ss) := fun F H xs s a Q q => by
  obtain ⟨x, rfl, a1⟩ := one a
  obtain ⟨p, ho, rfl, hp, vs, rfl, pv⟩ := h.get a1 s
  exact ⟨p, vs, rfl, .inr (SqT.of hp), fun l hl => q l _ F _ (Grow.newH s hl) hl (s.free hl) upd_same ⟨vs, rfl, pv⟩⟩
theorem cb_tuple (h : IsR e1 (lstO ss)) : CbE (fun xs H Q => ∃ p ys, xs = [.ref p] ∧ ((SqL K H p ys ∧ ∀ l, H l = none → Q (.ref l) (upd H l (.tup ys))) ∨ (SqT K H p ys ∧ Q (.ref p) H))) [e1] (.v (tupS ss)) := fun F H xs s a Q q => by
  obtain ⟨x, rfl, a1⟩ := one a
  obtain ⟨p, ho, rfl, hp, vs, rfl, pv⟩ := h.get a1 s
  refine ⟨p, vs, rfl, .inl ⟨SqL.of hp, fun l hl => ?_⟩⟩
  have g := Grow.newF (o := .tup vs) s hl
  exact q _ _ _ g ⟨l, _, rfl, upd_same, vs, rfl, PairS.mono g.ff pv⟩
end

/-! ### a def's body keeps its promise -/
theorem args_start {F H : Hp} : ∀ {vs : List V} {es : List Ent} {k : Nat}, Same F H → TupIn F H → Paired (ArgOk F H) vs es → St F H F H (vs.map some ++ List.replicate k none) (es ++ List.replicate k .un) := by
  intro vs es k s tt h
  have hl := h.length
  refine ⟨Grow.refl s, by simp [hl], fun i S hi => ?_, fun i o hi => ?_, fun i o hi => ?_, fun i j o o' a _ h1 _ _ _ => ?_, tt, fun i C fs hi => ?_, fun i j o a C fs h1 _ _ _ => ?_⟩
  all_goals
    have key : ∀ {n : Nat} {e : Ent}, e ≠ .un → (es ++ List.replicate k Ent.un)[n]? = some e → ∃ v, (vs.map some ++ List.replicate k (none : Option V))[n]? = some (some v) ∧ ArgOk F H v e := by
      intro n e he hn
      by_cases hlt : n < es.length
      · rw [List.getElem?_append_left hlt] at hn
        rw [List.getElem?_append_left (by rw [List.length_map]; omega)]
        have get : ∀ {vs : List V} {es : List Ent} {n : Nat}, Paired (ArgOk F H) vs es → es[n]? = some e → ∃ v, vs[n]? = some v ∧ ArgOk F H v e := by
          intro vs es n h
          induction h generalizing n with
          | nil => intro z; simp at z
          | cons p t ih =>
            intro z
            cases n with
            | zero =>
              cases z
              exact ⟨_, rfl, p⟩
            | succ n =>
              obtain ⟨v, e1, e2⟩ := ih (by simpa using z)
              exact ⟨v, by simpa using e1, e2⟩
        obtain ⟨v, e1, e2⟩ := get h hn
        exact ⟨v, by rw [List.getElem?_map, e1]; rfl, e2⟩
      · rw [List.getElem?_append_right (by omega)] at hn
        rw [List.getElem?_replicate] at hn
        split at hn
        · exact (he (Option.some.inj hn).symm).elim
        · cases hn
  · exact key (e := .v S) (by intro z; cases z) hi
  · obtain ⟨v, _, z⟩ := key (e := .ow o) (by intro z; cases z) hi
    exact z.elim
  · obtain ⟨v, e1, p, ho, rfl, hp, z⟩ := key (e := .bo o) (by intro z; cases z) hi
    exact ⟨p, ho, e1, hp, z⟩
  · obtain ⟨v, _, z⟩ := key (e := .ow o) (by intro z; cases z) h1
    exact z.elim
  · obtain ⟨v, _, z⟩ := key (e := .ni C fs) (by intro z; cases z) hi
    exact z.elim
  · obtain ⟨v, _, z⟩ := key (e := .ni C fs) (by intro z; cases z) h1
    exact z.elim
section
variable {P : Program} {w : World} {K : PySem.W.Frag} {mg : Str → Option Value} {base : Heap} {CX : CXT}
theorem okAny {x qual : Str} {st : Stmt} {f : Addr} {fd : FuncData} {N ps : List Str} {k : Nat} {sp : Sp} (F : Fun K x qual st f fd) (S : FnScope N ps (defScope st)) (len : ∀ vs H Q E, sp vs H Q E → vs.length = ps.length)
    (body : ∀ (cdv : Value) (A : Around) (outer : List Env) (s : Shared) (H : Hp) (vs : List V) (Q : VK) (E : XK), Room k (A.deeper (envOfC qual (defScope st) s.heap.objs.size f cdv)) → sp vs H Q E →
      ∃ t, PSs (cxOf CX P w K mg base N qual (defScope st) f cdv A outer s H E) (defBody st) t ∧ t { nx := fun _ H' => Q .non H', rt := Q } (L2.start N vs) H) :
    FnOk P w K mg base CX (k + 1) f fd ps sp := by
  rcases F.ex with ⟨_, _, _, _, _, _, cdv, _, _, rfl, at_, code_⟩
  exact fn_of at_ code_ S len (fun A outer s H vs Q E room hsp => body cdv A outer s H vs Q E room hsp)
theorem fn_ok {x qual : Str} {st : Stmt} {f : Addr} {fd : FuncData} {N ps : List Str} {k : Nat} {R : Rel} (F : Fun K x qual st f fd) (S : FnScope N ps (defScope st)) (len : ∀ es r, R es r → es.length = ps.length)
    (hbody : ∀ (cdv : Value) (A : Around) (outer : List Env) (s : Shared) (H : Hp) (E : XK), Room k (A.deeper (envOfC qual (defScope st) s.heap.objs.size f cdv)) →
      ∃ t, PSs (cxOf CX P w K mg base N qual (defScope st) f cdv A outer s H E) (defBody st) t ∧
        ∀ (es : List Ent) (r : Res) (F : Hp) (σ : L2.St) (Q : VK), R es r → St F H F H σ (es ++ List.replicate (N.length - es.length) .un) → r.post F H Q E → t { nx := fun _ H' => Q .non H', rt := Q } σ H) :
    FnOk P w K mg base CX (k + 1) f fd ps (SpOf R) := by
  refine okAny F S (fun vs H Q E ⟨F, es, r, _, _, ha, hR, _⟩ => ha.length.trans (len es r hR)) (fun cdv A outer s H vs Q E hr ⟨F, es, r, sm, tt, ha, hR, k⟩ => ?_)
  obtain ⟨t, ht, hq⟩ := hbody cdv A outer s H E hr
  refine ⟨t, ht, hq es r F _ Q hR ?_ k⟩
  have e := ha.length
  unfold L2.start
  rw [e]
  exact args_start sm tt ha
/-- self, in __init__ -/
def selO (p C : Addr) (fs : List (Str × Slot)) : Own := ⟨fun F a ho => a = p ∧ (insO C fs).P F a ho, fun s h => ⟨h.1, (insO C fs).mono s h.2⟩⟩
theorem St.self {F H : Hp} {p dx C : Addr} {vs : List V} {es : List Ent} {k : Nat} (sm : Same F (era H p)) (tt : TupIn F (era H p)) (ha : Paired (ArgOk F (era H p)) vs es) (hp : H p = some (.ins C dx [])) :
    St F (era H p) F H ((V.ref p :: vs).map some ++ List.replicate k none) ((.ow (selO p C []) :: es) ++ List.replicate k .un) := by
  have s0 : St F (era H p) F (era H p) (some (V.ref p) :: (vs.map some ++ List.replicate k none)) (.un :: (es ++ List.replicate k .un)) := by
    have z := args_start (k := k) sm tt ha
    refine ⟨z.g, by rw [List.length_cons, List.length_cons, z.len], fun i S hi => ?_, fun i o hi => ?_, fun i o hi => ?_, fun i j o o' a ne h1 h2 h3 h4 => ?_, z.tt, fun i C fs hi => ?_, fun i j o a C fs h1 h2 h3 h4 => ?_⟩
    · cases i with
      | zero => cases hi
      | succ i => exact z.at_ i S hi
    · cases i with
      | zero => cases hi
      | succ i => exact z.ow i o hi
    · cases i with
      | zero => cases hi
      | succ i => exact z.bo i o hi
    · cases i with
      | zero => cases h1
      | succ i => cases j with
        | zero => cases h2
        | succ j => exact z.sep i j o o' a (fun q => ne (by rw [q])) h1 h2 h3 h4
    · cases i with
      | zero => cases hi
      | succ i => exact z.ni i C fs hi
    · cases i with
      | zero => cases h1
      | succ i => cases j with
        | zero => cases h2
        | succ j =>
          obtain ⟨p', C', dx', fv', e', q'⟩ := h3
          exact z.sepn i j o a C fs h1 h2 ⟨p', C', dx', fv', e', q'⟩ h4
  have g : Grow F (era H p) F H := ⟨Same.refl F, era_sub, fun b o e => era_sub b o (sm b o e), fun _ _ n => n, fun t a vs e => t a vs (by rw [era_ne (fun z => by rw [z, hp] at e; cases e)]; exact e)⟩
  have hf : F p = none := by
    cases q : F p with
    | none => rfl
    | some u =>
      have := sm p u q
      rw [era_same] at this
      cases this
  exact s0.set_ow (i := 0) (p := p) g era_same hf hp ⟨rfl, dx, [], rfl, .nil⟩
theorem q_self {F0 H0 F H : Hp} {σ : L2.St} {δ : List Ent} {te : TE} {tz : TS} {D : Ends} {S : Slot} {i : Nat} {fs : List (Str × Slot)} {f : Str} {p C : Addr} (s : St F0 H0 F H σ δ) (hi : δ[i]? = some (.ow (selO p C fs))) (h : EvE te δ (.v S)) (kf : FldOk K C f)
    (hn : fs.lookup f = none) (hz : fs.length < 900) (k : ∀ σ' F' H', St F0 H0 F' H' σ' (δ.set i (.ow (selO p C (putS f S fs)))) → tz D σ' H') : tSeq (sFld K (tVar i) te f) tz D σ H := by
  refine h F0 H0 F H σ s _ fun v F1 H1 g1 a1 => ?_
  have s1 := s.grow g1
  obtain ⟨p', ho, e, hp, rfl, dx, fv, rfl, pf⟩ := s1.loc hi
  refine ⟨.ref p', e, p', C, dx, fv, rfl, hp, kf.c, kf.n, by rw [pf.length]; omega, ?_⟩
  exact k _ F1 _ (s1.mut hi e ⟨rfl, dx, _, rfl, PairF.put pf a1 hn⟩)
theorem init_ok {qual : Str} {st : Stmt} {f C : Addr} {fd : FuncData} {N ps : List Str} {k : Nat} {R : RelI} (F : Fun K "__init__" qual st f fd) (S : FnScope N ps (defScope st)) (len : ∀ es r, R es r → es.length + 1 = ps.length)
    (hbody : ∀ (cdv : Value) (A : Around) (outer : List Env) (s : Shared) (H : Hp) (E : XK), Room k (A.deeper (envOfC qual (defScope st) s.heap.objs.size f cdv)) →
      ∃ t, PSs (cxOf CX P w K mg base N qual (defScope st) f cdv A outer s H E) (defBody st) t ∧
        ∀ (p : Addr) (es : List Ent) (r : Except Addr (List (Str × Slot))) (F H0 H : Hp) (σ : L2.St) (D : Ends), R es r → St F H0 F H σ ((.ow (selO p C []) :: es) ++ List.replicate (N.length - (es.length + 1)) .un) →
          (match r with
            | .ok fs => ∀ σ' F' H' δ, St F H0 F' H' σ' δ → δ[0]? = some (.ow (selO p C fs)) → D.nx σ' H'
            | .error c => ∀ F' H', Grow F H0 F' H' → E (.ref c) none H') → t D σ H) :
    FnOk P w K mg base CX (k + 1) f fd ps (SpInit C R) := by
  refine okAny F S (fun vs H Q E ⟨p, dx, ws, F, es, r, e, _, _, _, ha, hR, _⟩ => by rw [e, List.length_cons, ha.length]; exact len es r hR) (fun cdv A outer s H vs Q E hr ⟨p, dx, ws, F, es, r, e, hp, sm, tt, ha, hR, k⟩ => ?_)
  obtain ⟨t, ht, hq⟩ := hbody cdv A outer s H E hr
  refine ⟨t, ht, ?_⟩
  subst e
  have hl := ha.length
  refine hq p es r F (era H p) H _ _ hR ?_ ?_
  · unfold L2.start
    rw [List.length_cons, hl]
    exact St.self sm tt ha hp
  · have er : ∀ {F' H' : Hp}, Grow F (era H p) F' H' → F' p = none → Grow F (era H p) F' (era H' p) := fun {F' H'} g n => by
      refine ⟨g.ff, fun b o e => ?_, fun b o e => ?_, g.nw, fun t a vs e => g.tt t a vs (era_sub _ _ e)⟩
      · have hb : b ≠ p := fun z => by
          rw [z, era_same] at e
          cases e
        rw [era_ne hb]
        exact g.hh b o e
      · have hb : b ≠ p := ne_of_none e n
        rw [era_ne hb]
        exact g.fh b o e
    cases r with
    | ok fs =>
      intro σ' F' H' δ s' hδ
      obtain ⟨p', ho, _, _, hf, hp', rfl, dx', fv, rfl, pf⟩ := s'.ow 0 _ hδ
      exact k F' H' dx' fv (er s'.g hf) hp' hf pf
    | error c =>
      exact k
end
end J

namespace J
open PySem PySem.Spec L2 PyProof.Rows
/-! ### the built-in names -/
theorem bt_len : bootBuiltins "len" = some (.builtin "len") := by decide +kernel
theorem bt_isinstance : bootBuiltins "isinstance" = some (.builtin "isinstance") := by decide +kernel
theorem bt_sum : bootBuiltins "sum" = some (.builtin "sum") := by decide +kernel
theorem bt_any : bootBuiltins "any" = some (.builtin "any") := by decide +kernel
theorem bt_all : bootBuiltins "all" = some (.builtin "all") := by decide +kernel
theorem bt_sorted : bootBuiltins "sorted" = some (.builtin "sorted") := by decide +kernel
theorem bt_max : bootBuiltins "max" = some (.builtin "max") := by decide +kernel
theorem bt_min : bootBuiltins "min" = some (.builtin "min") := by decide +kernel
theorem bt_list : bootBuiltins "list" = some (.type "list") := by decide +kernel
theorem bt_tuple : bootBuiltins "tuple" = some (.type "tuple") := by decide +kernel
theorem bt_str : bootBuiltins "str" = some (.type "str") := by decide +kernel
theorem bt_int : bootBuiltins "int" = some (.type "int") := by decide +kernel
theorem bt_bool : bootBuiltins "bool" = some (.type "bool") := by decide +kernel
theorem bt_dict : bootBuiltins "dict" = some (.type "dict") := by decide +kernel
theorem bt_ValueError : bootBuiltins "ValueError" = some (.type "ValueError") := by decide +kernel
/-! ### a def, a method, a class of the text -/
structure DefT (K : PySem.W.Frag) (mg : Str → Option Value) (x : Str) (st : Stmt) (ps : List Str) : Prop where
  ex : ∃ (f : Addr) (fd : FuncData), Fun K x x st f fd ∧ mg x = some (.ref f) ∧ Binds K fd ps []
structure MetT (K : PySem.W.Frag) (C : Addr) (m qual : Str) (st : Stmt) (ps : List Str) : Prop where
  ex : ∃ (f : Addr) (fd : FuncData), Fun K m qual st f fd ∧ Cls K C ∧ Meth K C m f ∧ Binds K fd ps []
structure IniT (K : PySem.W.Frag) (mg : Str → Option Value) (x : Str) (C : Addr) (qual : Str) (st : Stmt) (ps : List Str) : Prop where
  ex : ∃ (f : Addr) (fd : FuncData), Fun K "__init__" qual st f fd ∧ Mk K C f ∧ mg x = some (.ref C) ∧ Binds K fd ps []
section
variable {P : Program} {w : World} {K : PySem.W.Frag} {mg : Str → Option Value} {base : Heap} {N : List Str} {q : Str} {sc : Scope} {f : Addr} {cd : Value} {A : Around} {outer : List Env} {s : Shared} {H : Hp} {E : XK}
theorem cx_K : (cxOf (CXJ P w) P w K mg base N q sc f cd A outer s H E).K = K := rfl
theorem tk_of : L2N.Takes (cxOf (CXJ P w) P w K mg base N q sc f cd A outer s H E) (fun c d _ H => E c d H) := L2N.takes_of rfl rfl rfl rfl
theorem px_of : Passes (CXJ P w) (cxOf (CXJ P w) P w K mg base N q sc f cd A outer s H E) E := L2N.passes_call tk_of fun _ _ _ _ h => h
end
theorem Room.u64 {A : Around} {k : Nat} (r : Room k A) : A.units + 64 < cLine := r.units
section
variable {X : Cx}
theorem jo_mul : OpR X (binaryOp .Mult) (rI CMul fun i j => .int (i * j)) := op_mul
theorem jc_list : CallR X (.type "list") (fun xs H Q => ∃ p ys, xs = [.ref p] ∧ (SqL X.K H p ys ∨ SqT X.K H p ys) ∧ ∀ l, H l = none → Q (.ref l) (upd H l (.lst ys))) := call_list_of
end
/-! ### types -/
theorem kt_ii {K : PySem.W.Frag} : PySem.W.kitOne K (.type "int") (.type "int") = some true := kit_ty (by decide +kernel)
theorem kt_ib {K : PySem.W.Frag} : PySem.W.kitOne K (.type "int") (.type "bool") = some false := kit_ty (by decide +kernel)
theorem kt_bb {K : PySem.W.Frag} : PySem.W.kitOne K (.type "bool") (.type "bool") = some true := kit_ty (by decide +kernel)
theorem kt_bi {K : PySem.W.Frag} : PySem.W.kitOne K (.type "bool") (.type "int") = some true := kit_ty (by decide +kernel)
theorem kt_ll {K : PySem.W.Frag} : PySem.W.kitOne K (.type "list") (.type "list") = some true := kit_ty (by decide +kernel)
theorem kt_tt {K : PySem.W.Frag} : PySem.W.kitOne K (.type "tuple") (.type "tuple") = some true := kit_ty (by decide +kernel)
theorem kt_ss {K : PySem.W.Frag} : PySem.W.kitOne K (.type "str") (.type "str") = some true := kit_ty (by decide +kernel)
/-! ### the same rules with the written part by name -/
section
variable {X : Cx} {K : PySem.W.Frag} {a b o e : Expr} {es : List Expr} {ta tb te to : TE} {t : TA} {pos apos : Pos} {k : Nat} {f : Str}
theorem ko_add (hK : X.K = K) : OpR X (binaryOp .Add) (rAddJ K) := by subst hK; exact jo_add
theorem ko_eq (hK : X.K = K) (hr : Room k X.A) : OpR X (compareOp .Eq) (rEqJ K) := by subst hK; exact jo_eq (Room.u64 hr)
theorem ko_ne (hK : X.K = K) (hr : Room k X.A) : OpR X (compareOp .NotEq) (rNeJ K) := by subst hK; exact jo_ne (Room.u64 hr)
theorem ko_sl (hK : X.K = K) : SlR X (rSlJ K) := by subst hK; exact jo_sl
theorem kc_len (hK : X.K = K) : CallR X (.builtin "len") (rLenJ K) := by subst hK; exact jc_len
theorem kc_isi (hK : X.K = K) : CallR X (.builtin "isinstance") (rIsi K) := by subst hK; exact call_isi
def rLstJ (K : PySem.W.Frag) : List V → Hp → VK → Prop := fun xs H Q => ∃ p ys, xs = [.ref p] ∧ (SqL K H p ys ∨ SqT K H p ys) ∧ ∀ l, H l = none → Q (.ref l) (upd H l (.lst ys))
def rTupJ (K : PySem.W.Frag) : List V → Hp → VK → Prop := fun xs H Q => ∃ p ys, xs = [.ref p] ∧ ((SqL K H p ys ∧ ∀ l, H l = none → Q (.ref l) (upd H l (.tup ys))) ∨ (SqT K H p ys ∧ Q (.ref p) H))
theorem kc_list (hK : X.K = K) : CallR X (.type "list") (rLstJ K) := by subst hK; exact call_list_of
theorem kc_tuple (hK : X.K = K) : CallR X (.type "tuple") (rTupJ K) := by subst hK; exact call_tuple_of
theorem kc_sum (hK : X.K = K) (hc : X.calm = true) : CallR X (.builtin "sum") (rSum K) := by subst hK; exact cr_sum hc
theorem kc_any (hK : X.K = K) (hc : X.calm = true) : CallR X (.builtin "any") (rAny K) := by subst hK; exact cr_any hc
theorem kc_all (hK : X.K = K) (hc : X.calm = true) : CallR X (.builtin "all") (rAll K) := by subst hK; exact cr_all hc
theorem kc_max (hK : X.K = K) (hc : X.calm = true) : CallR X (.builtin "max") (rMax K) := by subst hK; exact cr_max hc
theorem kc_min (hK : X.K = K) (hc : X.calm = true) : CallR X (.builtin "min") (rMin K) := by subst hK; exact cr_min hc
def rMax2 : List V → Hp → VK → Prop := fun xs H Q => ∃ i j : Int, xs = [.int i, .int j] ∧ Q (.int (if j > i then j else i)) H
def rMin2 : List V → Hp → VK → Prop := fun xs H Q => ∃ i j : Int, xs = [.int i, .int j] ∧ Q (.int (if j < i then j else i)) H
theorem kc_max2 (hc : X.calm = true) : CallR X (.builtin "max") rMax2 := call_max2 hc
theorem kc_min2 (hc : X.calm = true) : CallR X (.builtin "min") rMin2 := call_min2 hc
theorem ke_fld (hK : X.K = K) (he : PE X e te) (hb : attributeBase e f X.env (eval e X.env) = eval e X.env) : PE X (.Attribute e f pos) (tFld K te f) := by subst hK; exact pe_fld he hb
theorem ke_ix (hK : X.K = K) (hr : Room k X.A) (ha : PE X a ta) (hb : PE X b tb) (hs : PlainIx b) (hs2 : NoSl b) : PE X (.Subscript a b pos) (tIx K ta tb) := by subst hK; exact pe_ixJ hr ha hb hs hs2
theorem ke_in (hK : X.K = K) (hr : Room k X.A) (ha : PE X a ta) (hb : PE X b tb) (hm : behindInMarks .In b = false) : PE X (.Compare a [.In] [b] pos) (tInJ K ta tb) := by subst hK; exact pe_inJ hr ha hb hm
theorem ke_ni (hK : X.K = K) (hr : Room k X.A) (ha : PE X a ta) (hb : PE X b tb) (hm : behindInMarks .NotIn b = false) : PE X (.Compare a [.NotIn] [b] pos) (tNiJ K ta tb) := by subst hK; exact pe_niJ hr ha hb hm
theorem kt_in (hK : X.K = K) (hr : Room k X.A) (ha : PE X a ta) (hb : PE X b tb) (hm : behindInMarks .In b = false) : PT X (.Compare a [.In] [b] pos) (tTest (tInJ K ta tb)) := by subst hK; exact pt_inJ hr ha hb hm
theorem kt_ni (hK : X.K = K) (hr : Room k X.A) (ha : PE X a ta) (hb : PE X b tb) (hm : behindInMarks .NotIn b = false) : PT X (.Compare a [.NotIn] [b] pos) (tTest (tNiJ K ta tb)) := by subst hK; exact pt_niJ hr ha hb hm
theorem ki_any {tg l : Expr} {tl : TE} (hK : X.K = K) (h : PE X l tl) : PI X tg l (iAny K tl) := by subst hK; exact pi_any h
end
end J

namespace J
open PySem PySem.Spec L2 PyProof.Rows
section
variable {K : PySem.W.Frag} {te ta tb : TE} {tl th : TO} {tr : TA} {δ es : List Ent} {e e1 e2 : Ent} {o : Own} {S T : Slot} {ss ts : List Slot} {n m : Nat} {i j : Int}
theorem kb_max2 : CbE rMax2 [.v (iS i), .v (iS j)] (.v (iS (max i j))) := cb_max2
theorem kb_min2 : CbE rMin2 [.v (iS i), .v (iS j)] (.v (iS (min i j))) := cb_min2
theorem kb_tuple (h : IsR e1 (lstO ss)) : CbE (rTupJ K) [e1] (.v (tupS ss)) := cb_tuple h
theorem kb_list (h : IsR e1 (lstO ss)) : CbO (rLstJ K) [e1] (lstO ss) := co_list h
theorem kb_listT (h : IsR e1 (tupO ss)) : CbO (rLstJ K) [e1] (lstO ss) := co_listT h
/-! ### places, by a number that is not negative -/
theorem nat_of {i : Int} (h : 0 ≤ i) : ∃ n : Nat, i = (n : Int) := ⟨i.toNat, by omega⟩
theorem jx_l {α : Type} {f : α → Slot} {xs : List α} {a : α} (h : IsR e1 (lstO (xs.map f))) (h0 : 0 ≤ i) (hx : xs[i.toNat]? = some a) : OpE (rIx K) e1 (.v (iS i)) (.v (f a)) := by
  obtain ⟨n, rfl⟩ := nat_of h0
  exact jv_ixl h (by rw [List.getElem?_map, show xs[n]? = some a from hx]; rfl)
theorem jx_t {α : Type} {f : α → Slot} {xs : List α} {a : α} (h : IsR e1 (tupO (xs.map f))) (h0 : 0 ≤ i) (hx : xs[i.toNat]? = some a) : OpE (rIx K) e1 (.v (iS i)) (.v (f a)) := by
  obtain ⟨n, rfl⟩ := nat_of h0
  exact jv_ixt h (by rw [List.getElem?_map, show xs[n]? = some a from hx]; rfl)
theorem jx_ls (h : IsR e1 (lstO ss)) (h0 : 0 ≤ i) (hx : ss[i.toNat]? = some S) : OpE (rIx K) e1 (.v (iS i)) (.v S) := by
  obtain ⟨n, rfl⟩ := nat_of h0
  exact jv_ixl h hx
theorem jx_ts (h : IsR e1 (tupO ss)) (h0 : 0 ≤ i) (hx : ss[i.toNat]? = some S) : OpE (rIx K) e1 (.v (iS i)) (.v S) := by
  obtain ⟨n, rfl⟩ := nat_of h0
  exact jv_ixt h hx
theorem len_map {α : Type} {f : α → Slot} {xs : List α} : (xs.map f).length = xs.length := List.length_map ..
theorem cb_lenM {α : Type} {f : α → Slot} {xs : List α} (h : IsR e1 (lstO (xs.map f))) : CbE (rLenJ K) [e1] (.v (iS (xs.length : Int))) := by
  have z := cb_len (K := K) h
  rw [List.length_map] at z
  exact z
theorem cb_lentM {α : Type} {f : α → Slot} {xs : List α} (h : IsR e1 (tupO (xs.map f))) : CbE (rLenJ K) [e1] (.v (iS (xs.length : Int))) := by
  have z := cb_lent (K := K) h
  rw [List.length_map] at z
  exact z
theorem lk0 {f : Str} {a : Slot} {r : List (Str × Slot)} : ((f, a) :: r).lookup f = some a := List.lookup_cons_self
theorem lk1 {f g : Str} {a : Slot} {r : List (Str × Slot)} {x : Option Slot} (h : (g == f) = false) (hr : r.lookup g = x) : ((f, a) :: r).lookup g = x := by
  rw [List.lookup_cons, h]
  exact hr
theorem lkn {g : Str} : ([] : List (Str × Slot)).lookup g = none := rfl
/-- a written tuple -/
def EvV (ta : TA) (δ : List Ent) (ss : List Slot) : Prop := EvAs ta δ (ss.map .v)
theorem ea_nilV : EvV tNil δ [] := ea_nil
theorem ea_consV (h : EvE te δ (.v S)) (hr : EvV tr δ ss) : EvV (tCons te tr) δ (S :: ss) := ea_cons h hr
theorem ev_tupN {ta : TA} (h : EvV ta δ ss) (hl : ss.length ≤ 1000) : EvE (tTup ta) δ (.v (tupS ss)) := ev_tup h (Nat.le_trans hl (by decide))
theorem eo_lstN {ta : TA} (h : EvV ta δ ss) (hl : ss.length ≤ 1000) : EvO (tLst ta) δ (lstO ss) := eo_lst h (Nat.le_trans hl (by decide))
theorem cb_isl (h : IsR e1 (lstO ss)) : CbE (rIsi K) [e1, .v (kS (.ty "list"))] (.v (bS true)) := cb_isi (ty_lst h) (.ty _) kt_ll
theorem cb_ist (h : IsR e1 (tupO ss)) : CbE (rIsi K) [e1, .v (kS (.ty "tuple"))] (.v (bS true)) := cb_isi (ty_tup h) (.ty _) kt_tt
theorem jv_sub : OpE (rI0 fun i j => .int (i - j)) (.v (iS i)) (.v (iS j)) (.v (iS (i - j))) := op_I0
theorem jv_le : OpE (rI0 fun i j => .bl (decide (i ≤ j))) (.v (iS i)) (.v (iS j)) (.v (bS (decide (i ≤ j)))) := op_I0

/-! ### more: list(range(n)), one of several readings, a list handed on -/
theorem eo_listRg (h : EvE te δ (.v (iS i))) (hn : i.toNat = n) (hb : -100000 ≤ i ∧ i ≤ 100000) : EvO (tLstRg (tRg1 te)) δ (lstO ((List.range n).map fun k : Nat => iS (k : Int))) := fun F0 H0 F H σ s Q q =>
  h F0 H0 F H σ s _ fun v F1 H1 g1 a1 => by
    refine ⟨i, a1, ⟨by omega, by omega, by omega, by omega, ?_⟩, fun p hp => ?_⟩
    · rw [Int.sub_zero]
      exact Nat.le_trans (by omega) (by decide : 100000 ≤ 2 ^ 24)
    · refine q p _ F1 _ (g1.trans (Grow.newH g1.fh hp)) (g1.hh.free hp) (g1.fh.free hp) upd_same ⟨_, rfl, ?_⟩
      unfold rgV
      rw [Int.sub_zero, hn]
      have z := PairS.ofk (F := F1) (fun k : Nat => V.int (0 + (k : Int))) (List.range n)
      have e : (fun x : Nat => kS (V.int (0 + (x : Int)))) = fun k : Nat => iS (k : Int) := by
        funext k
        rw [Int.zero_add]
      rw [e] at z
      exact z
theorem ev_orl {t u : TE} (h : EvE t δ e) : EvE (fun σ H Q => t σ H Q ∨ u σ H Q) δ e := fun F0 H0 F H σ s Q q => .inl (h F0 H0 F H σ s Q q)
theorem ev_orr {t u : TE} (h : EvE u δ e) : EvE (fun σ H Q => t σ H Q ∨ u σ H Q) δ e := fun F0 H0 F H σ s Q q => .inr (h F0 H0 F H σ s Q q)
theorem eo_orl {t u : TE} (h : EvO t δ o) : EvO (fun σ H Q => t σ H Q ∨ u σ H Q) δ o := fun F0 H0 F H σ s Q q => .inl (h F0 H0 F H σ s Q q)
theorem eo_orr {t u : TE} (h : EvO u δ o) : EvO (fun σ H Q => t σ H Q ∨ u σ H Q) δ o := fun F0 H0 F H σ s Q q => .inr (h F0 H0 F H σ s Q q)
theorem q_mv {F0 H0 F H : Hp} {σ : L2.St} {tz : TS} {D : Ends} {i j : Nat} (s : St F0 H0 F H σ δ) (hj : δ[j]? = some (.ow o)) (k : ∀ σ' F' H', St F0 H0 F' H' σ' ((δ.set j .un).set i (.ow o)) → tz D σ' H') : tSeq (tAsg (tVar j) (gName i)) tz D σ H := by
  obtain ⟨p, ho, e, h0, hf, hp, z⟩ := s.ow j o hj
  refine ⟨.ref p, e, ?_⟩
  have hj' : j < δ.length := (List.getElem?_eq_some_iff.mp hj).1
  refine k _ F H ?_
  have s1 : St F0 H0 F H σ (δ.set j .un) := by
    have x := s.set_un (i := j) (σ[j]?.join)
    have e2 : σ.set j (σ[j]?.join) = σ := by
      rw [e]
      obtain ⟨hlt, e3⟩ := List.getElem?_eq_some_iff.mp e
      show σ.set j (some (V.ref p)) = σ
      rw [← e3]
      exact List.set_getElem_self hlt
    rw [e2] at x
    exact x
  refine ⟨s1.g, by rw [List.length_set, List.length_set]; exact s1.len, fun m S' h => ?_, fun m o' h => ?_, fun m o' h => ?_, fun m l o1 o2 a ne h1 h2 h3 h4 => ?_, s1.tt, fun m C fs h => ?_, fun m l o1 a C fs h1 h2 h3 h4 => ?_⟩
  · rcases get_set h with ⟨rfl, e', hl⟩ | ⟨ne, h⟩
    · cases e'
    · obtain ⟨w, e', q⟩ := s1.at_ m S' h
      exact ⟨w, by rw [List.getElem?_set_ne (fun z => ne z.symm)]; exact e', q⟩
  · rcases get_set h with ⟨rfl, e', hl⟩ | ⟨ne, h⟩
    · cases e'
      exact ⟨p, ho, List.getElem?_set_self (by rw [s1.len]; exact hl), h0, hf, hp, z⟩
    · obtain ⟨w, ho', e', q⟩ := s1.ow m o' h
      exact ⟨w, ho', by rw [List.getElem?_set_ne (fun z => ne z.symm)]; exact e', q⟩
  · rcases get_set h with ⟨rfl, e', hl⟩ | ⟨ne, h⟩
    · cases e'
    · obtain ⟨w, ho', e', q⟩ := s1.bo m o' h
      exact ⟨w, ho', by rw [List.getElem?_set_ne (fun z => ne z.symm)]; exact e', q⟩
  · have away : ∀ {l : Nat} {o3 : Own}, (δ.set j Ent.un)[l]? = some (.ow o3) → σ[l]? = some (some (V.ref p)) → False := fun {l o3} h5 h6 => by
      rcases get_set h5 with ⟨_, e', _⟩ | ⟨nl, h5⟩
      · cases e'
      · exact s.sep l j o3 o p nl h5 hj h6 e
    rcases get_set h1 with ⟨z1, e1', l1⟩ | ⟨n1, g1⟩
    · rcases get_set h2 with ⟨z2, e2', l2⟩ | ⟨n2, g2⟩
      · exact ne (z1.trans z2.symm)
      · rw [z1, List.getElem?_set_self (by rw [s1.len]; exact l1)] at h3
        rw [List.getElem?_set_ne (fun z => n2 z.symm)] at h4
        cases h3
        exact away g2 h4
    · rw [List.getElem?_set_ne (fun z => n1 z.symm)] at h3
      rcases get_set h2 with ⟨z2, e2', l2⟩ | ⟨n2, g2⟩
      · rw [z2, List.getElem?_set_self (by rw [s1.len]; exact l2)] at h4
        cases h4
        exact away g1 h3
      · rw [List.getElem?_set_ne (fun z => n2 z.symm)] at h4
        exact s1.sep m l o1 o2 a ne g1 g2 h3 h4
  · rcases get_set h with ⟨rfl, e', hl⟩ | ⟨ne, h⟩
    · cases e'
    · obtain ⟨w, dx, fv, e', q⟩ := s1.ni m C fs h
      exact ⟨w, dx, fv, by rw [List.getElem?_set_ne (fun z => ne z.symm)]; exact e', q⟩
  · rcases get_set h1 with ⟨_, e', hl⟩ | ⟨ne1, g1⟩
    · cases e'
    · have g3 := h3.unset fun z => ne1 z.symm
      rcases get_set h2 with ⟨z2, e', hl⟩ | ⟨ne2, g2⟩
      · rw [z2, List.getElem?_set_self (by rw [s1.len]; exact hl)] at h4
        have ea : p = a := by cases h4; rfl
        rw [← ea] at g3
        rcases get_set g1 with ⟨_, e'', _⟩ | ⟨_, g1⟩
        · cases e''
        · exact s.sepn m j o p C fs g1 hj g3 e
      · rw [List.getElem?_set_ne (fun z => ne2 z.symm)] at h4
        exact s1.sepn m l o1 a C fs g1 g2 g3 h4

/-! ### comprehensions without a test -/
theorem filt1 {α : Type} : ∀ l : List α, l.filter (fun _ => true) = l
  | [] => rfl
  | a :: l => by rw [List.filter_cons, if_pos rfl, filt1 l]
theorem eo_lcM {α : Type} {j : Nat} (ex : α → Slot) (xs : List α) (f : α → Slot) (h : EvE ta δ e1) (hr : IsR e1 (lstO (xs.map ex))) (hz : xs.length ≤ 40000) (he : ∀ x ∈ xs, EvE te (δ.set j (.v (ex x))) (.v (f x))) :
    EvO (tLc (iAny K ta) (gName j) tYes te [j]) δ (lstO (xs.map f)) := by
  have z := eo_lcL (K := K) (j := j) ex xs (fun _ => true) f h hr hz (fun _ _ => et_yes) (fun x hx _ => he x hx)
  rw [filt1] at z
  exact z
theorem eo_lcRM {j : Nat} {n : Nat} {z : Int} {tl : TA} (f : Nat → Slot) (h : EvAs tl δ [.v (iS z)]) (hz : z.toNat = n) (hn : z ≤ 40000 ∧ -100000 ≤ z) (he : ∀ m, m < n → EvE te (δ.set j (.v (iS (m : Int)))) (.v (f m))) :
    EvO (tLc (iRng1 tl) (gName j) tYes te [j]) δ (lstO ((List.range n).map f)) := by
  have z := eo_lcR (j := j) (fun _ => true) f h hz hn (fun _ _ => et_yes) (fun x hx _ => he x hx)
  rw [filt1] at z
  exact z
end
end J

namespace J
open PySem PySem.Spec L2 PyProof.Rows
/-! ### data -/
structure DS (K : PySem.W.Frag) (n : Nat) (S : Slot) (d : PyData) : Prop where
  to : ∀ (F H : Hp) (v : V), Same F H → S.P F v → Dp K H v d
  cl : d.canLay0 = true
  dp : d.depth ≤ n
structure DO (K : PySem.W.Frag) (n : Nat) (o : Own) (d : PyData) : Prop where
  to : ∀ (F H : Hp) (p : Addr) (ho : HO), Same F H → H p = some ho → o.P F p ho → Dp K H (.ref p) d
  cl : d.canLay0 = true
  dp : d.depth ≤ n
section
variable {K : PySem.W.Frag} {n m : Nat} {S : Slot} {o : Own} {d : PyData}
theorem DO.ds (h : DO K n o d) : DS K n (refS o) d := ⟨fun F H v s ⟨p, ho, e, hp, z⟩ => by subst e; exact h.to F H p ho s (s p _ hp) z, h.cl, h.dp⟩
theorem ds_int {i : Int} : DS K n (iS i) (.int i) := ⟨fun F H v s e => by cases e; exact .int i, rfl, Nat.zero_le _⟩
theorem ds_bl {i : Bool} : DS K n (bS i) (.bool i) := ⟨fun F H v s e => by cases e; exact .bl i, rfl, Nat.zero_le _⟩
theorem ds_non : DS K n nS .none := ⟨fun F H v s e => by cases e; exact .non, rfl, Nat.zero_le _⟩
theorem ds_str {x : Str} (h : PyData.canLay0 (.str x) = true) : DS K n (sS x) (.str x) := ⟨fun F H v s e => by cases e; exact .str x, h, Nat.zero_le _⟩
structure DAll (K : PySem.W.Frag) (n : Nat) (ss : List Slot) (ds : List PyData) : Prop where
  to : ∀ (F H : Hp) (vs : List V), Same F H → PairS F vs ss → DpAll K H vs ds
  cl : PyData.canLayAll0 ds = true
  dp : PyData.depthAll ds ≤ n
theorem da_nil : DAll K n [] [] := ⟨fun F H vs s h => by cases h; exact .nil, rfl, Nat.zero_le _⟩
theorem da_cons {ss : List Slot} {ds : List PyData} (h : DS K n S d) (t : DAll K n ss ds) : DAll K n (S :: ss) (d :: ds) := by
  refine ⟨fun F H vs s h' => ?_, ?_, ?_⟩
  · cases h' with
    | cons p q => exact .cons (h.to F H _ s p) (t.to F H _ s q)
  · simp only [PyData.canLayAll0, Bool.and_eq_true]
    exact ⟨h.cl, t.cl⟩
  · simp only [PyData.depthAll]
    exact Nat.max_le.mpr ⟨h.dp, t.dp⟩
theorem da_map {α : Type} {f : α → Slot} {g : α → PyData} : ∀ {xs : List α}, (∀ x ∈ xs, DS K n (f x) (g x)) → DAll K n (xs.map f) (xs.map g)
  | [], _ => da_nil
  | x :: xs, h => da_cons (h x List.mem_cons_self) (da_map fun y hy => h y (List.mem_cons_of_mem _ hy))
theorem do_lst {ss : List Slot} {ds : List PyData} (h : DAll K n ss ds) : DO K (n + 1) (lstO ss) (.list ds) :=
  ⟨fun F H p ho s hp ⟨vs, e, pv⟩ => by subst e; exact .lst (SqL.of hp) (h.to F H vs s pv), by simp only [PyData.canLay0]; exact h.cl, by simp only [PyData.depth]; exact Nat.succ_le_succ h.dp⟩
theorem do_tup {ss : List Slot} {ds : List PyData} (h : DAll K n ss ds) : DO K (n + 1) (tupO ss) (.tuple ds) :=
  ⟨fun F H p ho s hp ⟨vs, e, pv⟩ => by subst e; exact .tup (SqT.of hp) (h.to F H vs s pv), by simp only [PyData.canLay0]; exact h.cl, by simp only [PyData.depth]; exact Nat.succ_le_succ h.dp⟩
theorem DS.shaped (h : DS K n S d) (hn : n ≤ 64) : SeqAt.shaped d = true := by
  unfold SeqAt.shaped
  rw [h.cl, decide_eq_true (Nat.le_trans h.dp hn)]
  rfl
theorem DS.dat (h : DS K n S d) (hn : n ≤ 64) : Dat K (.v S) d := ⟨fun F H x s a => h.to F H x s a, h.shaped hn⟩
theorem DO.dat {e : Ent} (h : DO K n o d) (hr : IsR e o) (hn : n ≤ 64) : Dat K e d := ⟨fun F H x s a => by
  obtain ⟨p, ho, rfl, hp, z⟩ := hr.get a s
  exact h.to F H p ho s hp z, h.ds.shaped hn⟩
theorem eqv_same (h : SeqAt.shaped d = true) : PyData.eqv d d = true := SeqAt.eqv_refl d (SeqAt.canLay_of_shaped h)
theorem jv_eqSame {e1 e2 : Ent} (h1 : Dat K e1 d) (h2 : Dat K e2 d) : OpE (rEqJ K) e1 e2 (.v (bS true)) := by
  have z := jv_eqD h1 h2
  rw [eqv_same h1.sh] at z
  exact z
theorem jv_neSame {e1 e2 : Ent} (h1 : Dat K e1 d) (h2 : Dat K e2 d) : OpE (rNeJ K) e1 e2 (.v (bS false)) := by
  have z := jv_neD h1 h2
  rw [eqv_same h1.sh] at z
  exact z
theorem eqvAll_ints : ∀ xs ys : List Int, PyData.eqvAll (xs.map .int) (ys.map .int) = decide (xs = ys)
  | [], [] => rfl
  | [], _ :: _ => rfl
  | _ :: _, [] => rfl
  | x :: xs, y :: ys => by
    simp only [List.map_cons, PyData.eqvAll, PyData.eqv, eqvAll_ints xs ys]
    by_cases h : x = y <;> by_cases h' : xs = ys <;> simp [h, h']
theorem ds_ints {xs : List Int} : DAll K n (xs.map iS) (xs.map .int) := da_map fun _ _ => ds_int
theorem dat_il {e : Ent} {xs : List Int} (h : IsR e (lstO (xs.map iS))) : Dat K e (.list (xs.map .int)) := (do_lst (n := 0) ds_ints).dat h (by decide)
theorem dat_it {e : Ent} {xs : List Int} (h : IsR e (tupO (xs.map iS))) : Dat K e (.tuple (xs.map .int)) := (do_tup (n := 0) ds_ints).dat h (by decide)
theorem dat_itl {e : Ent} {xs : List (List Int)} (h : IsR e (lstO (xs.map fun x => tupS (x.map iS)))) : Dat K e (.list (xs.map fun x => .tuple (x.map .int))) :=
  (do_lst (n := 1) (da_map (f := fun x : List Int => tupS (x.map iS)) (g := fun x : List Int => .tuple (x.map .int)) fun x _ => (do_tup (n := 0) ds_ints).ds)).dat h (by decide)
theorem jv_eqt {e1 e2 : Ent} {xs ys : List Int} (h1 : IsR e1 (tupO (xs.map iS))) (h2 : IsR e2 (tupO (ys.map iS))) : OpE (rEqJ K) e1 e2 (.v (bS (decide (xs = ys)))) := by
  have z := jv_eqD (dat_it (K := K) h1) (dat_it (K := K) h2)
  simp only [PyData.eqv] at z
  rw [eqvAll_ints] at z
  exact z
end

/-! ### texts -/
section
variable {K : PySem.W.Frag} {te ta tb to : TE} {tr : TA} {δ es : List Ent} {e e1 e2 : Ent} {o : Own} {S T : Slot} {ss ts : List Slot} {n m : Nat} {i j : Int}
def strI (i : Int) : Str := Str.ofString (toString i)
def rStr : List V → Hp → VK → Prop := fun xs H Q => ∃ i : Int, xs = [.int i] ∧ i.natAbs.log2 < 1920 ∧ Q (.str (Str.ofString (toString i))) H
theorem kc_str {X : Cx} : CallR X (.type "str") rStr := call_str_int
theorem cb_str (h : i.natAbs.log2 < 1920) : CbE rStr [.v (iS i)] (.v (sS (strI i))) := fun F H xs s a Q q => by
  obtain ⟨x, rfl, a1⟩ := one a
  cases a1
  exact ⟨i, rfl, h, q _ F H (Grow.refl s) rfl⟩
def rIntS : List V → Hp → VK → Prop := fun xs H Q => ∃ (a : Str) (n : Int), xs = [.str a] ∧ PySem.intText? a = some n ∧ a.length ≤ 640 ∧ Q (.int n) H
theorem kc_int {X : Cx} : CallR X (.type "int") rIntS := call_int_str
theorem cb_int {a : Str} (h : PySem.intText? a = some i) (hl : a.length ≤ 640) : CbE rIntS [.v (sS a)] (.v (iS i)) := fun F H xs s b Q q => by
  obtain ⟨x, rfl, a1⟩ := one b
  cases a1
  exact ⟨a, i, rfl, h, hl, q _ F H (Grow.refl s) rfl⟩
/-- sep.join(ys) -/
def rJoin (K : PySem.W.Frag) : V → List V → Hp → VK → Prop := fun x xs H Q => ∃ a p, ∃ ys : List Str, x = .str a ∧ xs = [.ref p] ∧ (SqL K H p (ys.map V.str) ∨ SqT K H p (ys.map V.str)) ∧ (ys.map (·.length)).sum + ys.length * a.length ≤ 16777216 ∧ Q (.str (Txt.join a ys)) H
theorem ke_join {X : Cx} {o' e' : Expr} {apos pos : Pos} (hK : X.K = K) (ho : PE X o' to) (he : PE X e' te) (hs : starEach [e'] X.env = [(false, eval e' X.env)] := by rfl) (hbase : attributeBase o' "join" X.env (eval o' X.env) = eval o' X.env := by rfl) (hline : (apos.endLine == pos.line) = true := by rfl) :
    PE X (.Call (.Attribute o' "join" apos) [e'] [] pos) (tM1 (rJoin K) to te) := by subst hK; exact pe_join ho he hs hbase hline
theorem ev_join {a : Str} {ys : List Str} (h1 : EvE to δ (.v (sS a))) (h2 : EvE te δ e2) (hr : IsR e2 (lstO (ys.map sS))) (hb : (ys.map (·.length)).sum + ys.length * a.length ≤ 16777216) : EvE (tM1 (rJoin K) to te) δ (.v (sS (Txt.join a ys))) := fun F0 H0 F H σ s Q q =>
  h1 F0 H0 F H σ s _ fun x F1 H1 g1 a1 => ⟨⟨a, a1⟩, h2 F0 H0 F1 H1 σ (s.grow g1) _ fun y F2 H2 g2 a2 => by
    obtain ⟨p, ho, rfl, hp, vs, rfl, pv⟩ := hr.get a2 g2.fh
    refine ⟨a, p, ys, a1, rfl, .inl (SqL.of ?_), hb, q _ F2 H2 (g1.trans g2) rfl⟩
    rw [hp]
    congr 2
    exact PairS.kmap pv⟩
/-- a.split(sep) -/
def rSplit : V → List V → Hp → VK → Prop := fun x xs H Q => ∃ a b, x = .str a ∧ xs = [.str b] ∧ (b.length == 0) = false ∧ a.length + 2 ≤ sizeLine ∧ rNewStrs (Txt.split a b) H Q
theorem ke_split {X : Cx} {o' e' : Expr} {apos pos : Pos} (ho : PE X o' to) (he : PE X e' te) (hs : starEach [e'] X.env = [(false, eval e' X.env)] := by rfl) (hbase : attributeBase o' "split" X.env (eval o' X.env) = eval o' X.env := by rfl) (hline : (apos.endLine == pos.line) = true := by rfl) :
    PE X (.Call (.Attribute o' "split" apos) [e'] [] pos) (tM1 rSplit to te) := pe_split ho he hs hbase hline
theorem eo_split {a b : Str} (h1 : EvE to δ (.v (sS a))) (h2 : EvE te δ (.v (sS b))) (hb : (b.length == 0) = false) (ha : a.length ≤ 100000) : EvO (tM1 rSplit to te) δ (lstO ((Txt.split a b).map sS)) := fun F0 H0 F H σ s Q q =>
  h1 F0 H0 F H σ s _ fun x F1 H1 g1 a1 => ⟨⟨a, a1⟩, h2 F0 H0 F1 H1 σ (s.grow g1) _ fun y F2 H2 g2 a2 => by
    cases a1
    cases a2
    refine ⟨a, b, rfl, rfl, hb, Nat.le_trans (Nat.add_le_add_right ha 2) (by decide), fun p hp => ?_⟩
    have g := g1.trans g2
    exact q p _ F2 _ (g.trans (Grow.newH g.fh hp)) (g.hh.free hp) (g.fh.free hp) upd_same ⟨_, rfl, PairS.ofk V.str (Txt.split a b)⟩⟩

/-! ### the script -/
def scrS (K : PySem.W.Frag) (ns : List Int) : Slot := ⟨fun F v => ∃ a, v = .ref a ∧ SqL K F a (ns.map V.int), fun s ⟨a, e, h⟩ => ⟨a, e, s.seq h⟩⟩
def cell (ns : List Int) (k : Int) : Int := ns.getD k.toNat 0
theorem cb_lenScr {ns : List Int} : CbE (rLenJ K) [.v (scrS K ns)] (.v (iS (ns.length : Int))) := fun F H xs s a Q q => by
  obtain ⟨x, rfl, a1⟩ := one a
  obtain ⟨p, rfl, h⟩ := a1
  exact .inl ⟨p, _, rfl, .inl (s.seq h), by rw [List.length_map]; exact q _ F H (Grow.refl s) rfl⟩
theorem jx_scr {ns : List Int} (h0 : 0 ≤ i) (hi : i < ns.length) : OpE (rIx K) (.v (scrS K ns)) (.v (iS i)) (.v (iS (cell ns i))) := fun F H x y s a b Q q => by
  obtain ⟨p, rfl, h⟩ := a
  cases b
  obtain ⟨k, rfl⟩ := nat_of h0
  refine .inl ⟨p, _, (k : Int), .int (cell ns (k : Int)), rfl, rfl, s.seq h, atI_nat ?_, q _ F H (Grow.refl s) rfl⟩
  have hk : k < ns.length := by omega
  rw [List.getElem?_map, List.getElem?_eq_getElem hk]
  unfold cell
  rw [Int.toNat_natCast, List.getD_eq_getElem?_getD, List.getElem?_eq_getElem hk]
  rfl
end
end J

namespace J
open PySem PySem.Spec L2 PyProof.Rows
section
variable {K : PySem.W.Frag} {F0 H0 F H : Hp} {σ : L2.St} {δ : List Ent} {te tb ta : TE} {tz : TS} {D : Ends} {i j : Nat} {o o1 o2 : Own} {S T : Slot} {e e1 e2 : Ent} {ss ts : List Slot}
/-- a fresh list, emptied at once -/
theorem q_clearO (s : St F0 H0 F H σ δ) (h : EvO te δ (lstO ss)) (k : ∀ σ' F' H', St F0 H0 F' H' σ' δ → tz D σ' H') :
    tSeq (tDrop (tBM0 K "list" rClear te)) tz D σ H := by
  refine h F0 H0 F H σ s _ fun p ho F' H' g hn hf hp z => ?_
  obtain ⟨vs, rfl, pv⟩ := z
  refine .inl ⟨rfl, vs, SqL.of hp⟩ |> fun q => ⟨q, p, vs, rfl, rfl, hp, k _ F' _ (s.grow ⟨g.ff, fun b u e => ?_, same_updR g.fh hf, fun a ha hb => g.nw a ha hb, fun t => tt_upd (g.tt t) (by intro _ h; cases h)⟩)⟩
  rw [upd_ne (ne_of_none e hn)]
  exact g.hh b u e
theorem q_parO {S2 : Slot} {i1 i2 : Nat} {u : TE} {tr : TA} (s : St F0 H0 F H σ δ) (h : EvO u δ o) (h2 : EvAs tr δ [.v S2]) (k : ∀ σ' F' H', St F0 H0 F' H' σ' ((δ.set i1 (.ow o)).set i2 (.v S2)) → tz D σ' H') : tSeq (tPar i1 i2 (tCons u tr)) tz D σ H := by
  refine h F0 H0 F H σ s _ fun p ho F1 H1 g1 hn hf hp z => ?_
  refine h2 F0 H0 F1 H1 σ (s.grow g1) _ fun vs F2 H2 g2 a2 => ?_
  have hf2 : F2 p = none := g2.nw p (by rw [hp]; exact Option.some_ne_none _) hf
  cases a2 with
  | cons p2 t => cases t with
    | nil =>

      exact ⟨_, _, rfl, k _ F2 H2 ((s.set_ow (g1.trans g2) hn hf2 (g2.hh p _ hp) (o.mono g2.ff z)).set_v p2)⟩
/-- an if whose branches meet again -/
theorem q_ifJ {tt : TT} {tu tw : TS} {b : Bool} (I : List Ent → Prop) (s : St F0 H0 F H σ δ) (h : EvT tt δ b)
    (hd : ∀ δ' σ' F' H', I δ' → St F0 H0 F' H' σ' δ' → tz D σ' H')
    (h1 : (∀ δ' σ' F' H', I δ' → St F0 H0 F' H' σ' δ' → tz D σ' H') → b = true → ∀ σ' F' H', St F0 H0 F' H' σ' δ → tu { D with nx := tz D } σ' H')
    (h2 : (∀ δ' σ' F' H', I δ' → St F0 H0 F' H' σ' δ' → tz D σ' H') → b = false → ∀ σ' F' H', St F0 H0 F' H' σ' δ → tw { D with nx := tz D } σ' H') : tSeq (tIfS tt tu tw) tz D σ H := q_if s h (h1 hd) (h2 hd)
/-- less told of a slot -/
theorem EvE.sub (h : EvE te δ (.v S)) (k : ∀ F v, S.P F v → T.P F v) : EvE te δ (.v T) := fun F0 H0 F H σ s Q q => h F0 H0 F H σ s Q fun v F' H' g a => q v F' H' g (k _ _ a)
theorem EvE.subB (h : EvE te δ (.bo o1)) (k : ∀ F p ho, o1.P F p ho → o2.P F p ho) : EvE te δ (.bo o2) := fun F0 H0 F H σ s Q q => h F0 H0 F H σ s Q fun v F' H' g ⟨p, ho, e, hp, z⟩ => q v F' H' g ⟨p, ho, e, hp, k _ _ _ z⟩
/-! ### pinned slots -/
def pinS (v : V) (S : Slot) : Slot := ⟨fun F x => x = v ∧ S.P F x, fun s h => ⟨h.1, S.mono s h.2⟩⟩
theorem pin_of {F : Hp} {vs : List V} {ss : List Slot} (h : PairS F vs ss) : PairS F vs (List.zipWith pinS vs ss) := by
  induction h with
  | nil => exact .nil
  | cons p _ ih => exact .cons ⟨rfl, p⟩ ih
theorem pin_un {F : Hp} {vs : List V} {ss : List Slot} : ∀ {xs : List V}, vs.length = ss.length → PairS F xs (List.zipWith pinS vs ss) → xs = vs ∧ PairS F xs ss := by
  induction vs generalizing ss with
  | nil =>
    intro xs hl h
    cases ss with
    | nil => cases h; exact ⟨rfl, .nil⟩
    | cons _ _ => cases hl
  | cons v vs ih =>
    intro xs hl h
    cases ss with
    | nil => cases hl
    | cons S ss =>
      cases h with
      | cons p t =>
        obtain ⟨e, r⟩ := ih (Nat.succ.inj hl) t
        exact ⟨by rw [p.1, e], .cons p.2 r⟩
theorem q_pin (s : St F0 H0 F H σ δ) (i : Nat) (hi : δ[i]? = some (.ow (lstO ss))) (hr : ∀ S ∈ ss, ∀ F v, S.P F v → ∃ a, v = .ref a) {P : Prop} (k : ∀ vs : List V, vs.length = ss.length → (∀ v ∈ vs, ∃ a, v = .ref a) → St F0 H0 F H σ (δ.set i (.ow (lstO (List.zipWith pinS vs ss)))) → P) : P := by
  obtain ⟨p, ho, e, hp, vs, rfl, pv⟩ := s.loc hi
  refine k vs pv.length ?_ ?_
  · have : ∀ {vs : List V} {ss : List Slot}, PairS F vs ss → (∀ S ∈ ss, ∀ F v, S.P F v → ∃ a, v = .ref a) → ∀ v ∈ vs, ∃ a, v = .ref a := by
      intro vs ss h
      induction h with
      | nil => intro _ v hv; cases hv
      | cons p _ ih =>
        intro hr v hv
        cases hv with
        | head => exact hr _ List.mem_cons_self _ _ p
        | tail _ hv => exact ih (fun S hS => hr S (List.mem_cons_of_mem _ hS)) v hv
    exact this pv hr
  · have z := s.mut (ho := .lst vs) (o' := lstO (List.zipWith pinS vs ss)) hi e ⟨vs, rfl, pin_of pv⟩
    have eH : upd H p (.lst vs) = H := by
      funext b
      by_cases hb : b = p
      · subst hb
        rw [upd_same, hp]
      · rw [upd_ne hb]
    rw [eH] at z
    exact z
theorem unpin {vs : List V} {ss : List Slot} (hl : vs.length = ss.length) : ∀ F p ho, (lstO (List.zipWith pinS vs ss)).P F p ho → (lstO ss).P F p ho := by
  rintro F p ho ⟨xs, rfl, h⟩
  exact ⟨xs, rfl, (pin_un hl h).2⟩
def rEqW (K : PySem.W.Frag) : R2 := fun x y H Q => rEqJ K x y H Q ∨ rEqV K x y H Q
theorem ko_eqW {X : Cx} {k : Nat} (hK : X.K = K) (hr : Room k X.A) : OpR X (compareOp .Eq) (rEqW K) := by subst hK; exact OpR.or (jo_eq (Room.u64 hr)) (op_eqV (Room.u64 hr))
theorem ko_neW {X : Cx} {k : Nat} (hK : X.K = K) (hr : Room k X.A) : OpR X (compareOp .NotEq) (rNeJ K) := ko_ne hK hr
theorem jw_pin {vs : List V} (hl : vs.length = ss.length) (hv : ∀ v ∈ vs, ∃ a, v = .ref a) : OpE (rEqW K) (.bo (lstO (List.zipWith pinS vs ss))) (.bo (lstO (List.zipWith pinS vs ss))) (.v (bS true)) := OpE.inr fun F H x y s a b Q q => by
  obtain ⟨p, ho, rfl, hp, xs, rfl, px⟩ := a
  obtain ⟨p', ho', rfl, hp', ys, rfl, py⟩ := b
  obtain ⟨rfl, _⟩ := pin_un hl px
  obtain ⟨e, _⟩ := pin_un hl py
  subst e
  refine ⟨1, by decide, .inl ⟨p, p', _, _, rfl, rfl, SqL.of hp, SqL.of hp', ?_⟩, q _ F H (Grow.refl s) rfl⟩
  have : ∀ l : List V, (∀ v ∈ l, ∃ a, v = .ref a) → Paired (EqV K H 1) l l := by
    intro l
    induction l with
    | nil => intro _; exact .nil
    | cons v l ih =>
      intro h
      obtain ⟨a, rfl⟩ := h v List.mem_cons_self
      exact .cons (.inr (.inl ⟨a, rfl, rfl⟩)) (ih fun w hw => h w (List.mem_cons_of_mem _ hw))
  exact this _ hv
theorem cb_any {bs : List Bool} (h : IsR e1 (lstO (bs.map bS))) : CbE (rAny K) [e1] (.v (bS (bs.any id))) := fun F H xs s a Q q => by
  obtain ⟨x, rfl, a1⟩ := one a
  obtain ⟨p, ho, rfl, hp, vs, rfl, pv⟩ := h.get a1 s
  refine ⟨p, bs, rfl, SqL.of ?_, q _ F H (Grow.refl s) rfl⟩
  rw [hp]
  congr 2
  exact PairS.kmap pv
theorem cb_all {bs : List Bool} (h : IsR e1 (lstO (bs.map bS))) : CbE (rAll K) [e1] (.v (bS (bs.all id))) := fun F H xs s a Q q => by
  obtain ⟨x, rfl, a1⟩ := one a
  obtain ⟨p, ho, rfl, hp, vs, rfl, pv⟩ := h.get a1 s
  refine ⟨p, bs, rfl, SqL.of ?_, q _ F H (Grow.refl s) rfl⟩
  rw [hp]
  congr 2
  exact PairS.kmap pv
section
variable {K : PySem.W.Frag} {F0 H0 F H : Hp} {σ : L2.St} {δ : List Ent} {te tb ta : TE} {tt : TT} {j : Nat}
theorem eo_lcT {α : Type} (ex : α → Slot) (xs : List α) (p : α → Bool) (f : α → Slot) {e1 : Ent} (h : EvE ta δ e1) (hr : IsR e1 (tupO (xs.map ex))) (hz : xs.length ≤ 40000)
    (ht : ∀ x ∈ xs, EvT tt (δ.set j (.v (ex x))) (p x)) (he : ∀ x ∈ xs, p x = true → EvE te (δ.set j (.v (ex x))) (.v (f x))) :
    EvO (tLc (iAny K ta) (gName j) tt te [j]) δ (lstO ((xs.filter p).map f)) := fun F0 H0 F H σ s Q q => by
  refine .inr (.inl (h F0 H0 F H σ s _ fun v F1 H1 g1 a1 => ?_))
  obtain ⟨a, ho, rfl, hp, vs, rfl, pv⟩ := hr.get a1 g1.fh
  have s1 := s.grow g1
  have hlen : vs.length = xs.length := by rw [pv.length, List.length_map]
  refine ⟨a, rfl, ⟨vs, SqT.of hp⟩, fun Dl hD => lc_tup (xs := vs) (fun i H' => LcI F1 H1 Dl (kept p f xs i) H') (LcI.start g1.fh hD) ?_ ?_ ?_⟩
  · rintro i H' _ ⟨F', acc, g, _⟩
    exact SqT.of (g.hh a _ hp)
  · rintro i x H' hx hI
    have hi : i < xs.length := by
      rw [← hlen]
      exact (List.getElem?_eq_some_iff.mp hx).1
    have hxi : xs[i]? = some xs[i] := List.getElem?_eq_getElem hi
    have px : (ex xs[i]).P F1 x := by
      obtain ⟨w, hw, z⟩ := PairS.get (i := i) (S := ex xs[i]) pv (by rw [List.getElem?_map, hxi]; rfl)
      rw [hx] at hw
      cases hw
      exact z
    have hm : xs[i] ∈ xs := List.getElem_mem hi
    have hk := kept_le (p := p) (f := f) (xs := xs) (i := i)
    refine ⟨wipe1, lc_turn (b := p xs[i]) (T := ex xs[i]) (S := f xs[i]) (ss := kept p f xs i) s1 hD (by omega) (fun F' g => (ex xs[i]).mono g.ff px) hI (ht _ hm) (he _ hm) fun H' z => ?_⟩
    rw [kept_succ hxi]
    exact z
  · rintro H' ⟨F', acc, g, hf, hp', pa⟩
    rw [hlen, kept_all] at pa
    exact q Dl _ F' H' (g1.trans g) (g1.hh.free hD) hf hp' ⟨acc, rfl, pa⟩
theorem eo_lcTM {α : Type} (ex : α → Slot) (xs : List α) (f : α → Slot) (h : EvE ta δ e1) (hr : IsR e1 (tupO (xs.map ex))) (hz : xs.length ≤ 40000) (he : ∀ x ∈ xs, EvE te (δ.set j (.v (ex x))) (.v (f x))) :
    EvO (tLc (iAny K ta) (gName j) tYes te [j]) δ (lstO (xs.map f)) := by
  have z := eo_lcT (K := K) (j := j) ex xs (fun _ => true) f h hr hz (fun _ _ => et_yes) (fun x hx _ => he x hx)
  rw [filt1] at z
  exact z
end
end
end J

namespace J
open PySem PySem.Spec L2 PyProof.Rows
section
variable {K : PySem.W.Frag} {F0 H0 F H : Hp} {σ : L2.St} {δ : List Ent} {te tb ta : TE} {tz : TS} {D : Ends} {i j : Nat} {o o1 o2 : Own} {S T : Slot} {e e1 e2 : Ent} {ss ts : List Slot}
/-- a list's items, known by their value -/
theorem IsR.kl {F H : Hp} {x : V} {α : Type} {f : α → V} {xs : List α} (h : IsR e (lstO (xs.map fun a => kS (f a)))) (a : ArgOk F H x e) (s : Same F H) : ∃ p, x = .ref p ∧ SqL K H p (xs.map f) := by
  obtain ⟨p, ho, rfl, hp, vs, rfl, pv⟩ := h.get a s
  refine ⟨p, rfl, SqL.of ?_⟩
  rw [hp]
  congr 2
  exact PairS.kmap pv
theorem IsR.kt {F H : Hp} {x : V} {α : Type} {f : α → V} {xs : List α} (h : IsR e (tupO (xs.map fun a => kS (f a)))) (a : ArgOk F H x e) (s : Same F H) : ∃ p, x = .ref p ∧ SqT K H p (xs.map f) := by
  obtain ⟨p, ho, rfl, hp, vs, rfl, pv⟩ := h.get a s
  refine ⟨p, rfl, SqT.of ?_⟩
  rw [hp]
  congr 2
  exact PairS.kmap pv
theorem cb_sum {ns : List Int} (h : IsR e1 (lstO (ns.map iS))) : CbE (rSum K) [e1] (.v (iS ns.sum)) := fun F H xs s a Q q => by
  obtain ⟨x, rfl, a1⟩ := one a
  obtain ⟨p, rfl, hp⟩ := IsR.kl (f := V.int) h a1 s
  exact ⟨p, ns, rfl, hp, q _ F H (Grow.refl s) rfl⟩
theorem cb_maxl {ns : List Int} {m : Int} (h : IsR e1 (lstO (ns.map iS))) (hm : m ∈ ns) (hx : ∀ y ∈ ns, y ≤ m) : CbE (rMax K) [e1] (.v (iS m)) := fun F H xs s a Q q => by
  obtain ⟨x, rfl, a1⟩ := one a
  obtain ⟨p, rfl, hp⟩ := IsR.kl (f := V.int) h a1 s
  refine ⟨p, ns, rfl, hp, List.length_pos_of_mem hm, fun m' h1 h2 => ?_⟩
  have e : m' = m := Int.le_antisymm (hx _ h1) (h2 _ hm)
  rw [e]
  exact q _ F H (Grow.refl s) rfl
theorem cb_minl {ns : List Int} {m : Int} (h : IsR e1 (lstO (ns.map iS))) (hm : m ∈ ns) (hx : ∀ y ∈ ns, m ≤ y) : CbE (rMin K) [e1] (.v (iS m)) := fun F H xs s a Q q => by
  obtain ⟨x, rfl, a1⟩ := one a
  obtain ⟨p, rfl, hp⟩ := IsR.kl (f := V.int) h a1 s
  refine ⟨p, ns, rfl, hp, List.length_pos_of_mem hm, fun m' h1 h2 => ?_⟩
  have e : m' = m := Int.le_antisymm (h2 _ hm) (hx _ h1)
  rw [e]
  exact q _ F H (Grow.refl s) rfl
/-! ### in -/
theorem inV_ints {i : Int} : ∀ {xs : List Int}, inV (.int i) (xs.map V.int) = decide (i ∈ xs)
  | [] => rfl
  | x :: xs => by
    have ih := inV_ints (i := i) (xs := xs)
    unfold inV at ih ⊢
    rw [List.map_cons, List.any_cons, ih]
    show (decide (x = i) || decide (i ∈ xs)) = _
    by_cases h : x = i
    · subst h
      rw [decide_eq_true rfl, Bool.true_or, decide_eq_true List.mem_cons_self]
    · rw [decide_eq_false h, Bool.false_or]
      congr 1
      rw [List.mem_cons]
      exact propext ⟨.inr, fun z => z.elim (fun z => absurd z.symm h) id⟩
theorem flat_ints {xs : List Int} : (xs.map V.int).all flatV = true := by
  rw [List.all_map, List.all_eq_true]
  intro x _
  rfl
def IsI (e : Ent) (xs : List Int) : Prop := IsR e (lstO (xs.map iS)) ∨ IsR e (tupO (xs.map iS))
theorem jv_in {i : Int} {xs : List Int} (h : IsI e1 xs) : OpE (rIn K false) (.v (iS i)) e1 (.v (bS (decide (i ∈ xs)))) := fun F H x y s a b Q q => by
  cases a
  rcases h with h | h
  · obtain ⟨p, rfl, hp⟩ := IsR.kl (K := K) (f := V.int) h b s
    exact ⟨p, _, rfl, .inl hp, rfl, flat_ints, q _ F H (Grow.refl s) (by rw [if_neg Bool.false_ne_true, inV_ints]; rfl)⟩
  · obtain ⟨p, rfl, hp⟩ := IsR.kt (K := K) (f := V.int) h b s
    exact ⟨p, _, rfl, .inr hp, rfl, flat_ints, q _ F H (Grow.refl s) (by rw [if_neg Bool.false_ne_true, inV_ints]; rfl)⟩
theorem jv_ni {i : Int} {xs : List Int} (h : IsI e1 xs) : OpE (rIn K true) (.v (iS i)) e1 (.v (bS (!decide (i ∈ xs)))) := fun F H x y s a b Q q => by
  cases a
  rcases h with h | h
  · obtain ⟨p, rfl, hp⟩ := IsR.kl (K := K) (f := V.int) h b s
    exact ⟨p, _, rfl, .inl hp, rfl, flat_ints, q _ F H (Grow.refl s) (by rw [if_pos rfl, inV_ints]; rfl)⟩
  · obtain ⟨p, rfl, hp⟩ := IsR.kt (K := K) (f := V.int) h b s
    exact ⟨p, _, rfl, .inr hp, rfl, flat_ints, q _ F H (Grow.refl s) (by rw [if_pos rfl, inV_ints]; rfl)⟩
theorem ev_inI {i : Int} {xs : List Int} (ha : EvE ta δ (.v (iS i))) (hb : EvE tb δ e1) (h : IsI e1 xs) : EvE (tInJ K ta tb) δ (.v (bS (decide (i ∈ xs)))) := fun F0 H0 F H σ s Q q => .inl (ev_op ha hb (jv_in h) F0 H0 F H σ s Q q)
theorem ev_niI {i : Int} {xs : List Int} (ha : EvE ta δ (.v (iS i))) (hb : EvE tb δ e1) (h : IsI e1 xs) : EvE (tNiJ K ta tb) δ (.v (bS (!decide (i ∈ xs)))) := fun F0 H0 F H σ s Q q => .inl (ev_op ha hb (jv_ni h) F0 H0 F H σ s Q q)
/-- xs[::-1] -/
theorem PairS.rev {F : Hp} {vs : List V} {ss : List Slot} (h : PairS F vs ss) : PairS F vs.reverse ss.reverse := by
  induction h with
  | nil => exact .nil
  | cons p _ ih =>
    rw [List.reverse_cons, List.reverse_cons]
    exact PairS.app ih (.cons p .nil)
theorem eo_revL (h : EvE te δ e1) (hr : IsR e1 (lstO ss)) : EvO (tRevL K te) δ (lstO ss.reverse) := fun F0 H0 F H σ s Q q =>
  h F0 H0 F H σ s _ fun x F1 H1 g1 a1 => by
    obtain ⟨p, ho, rfl, hp, vs, rfl, pv⟩ := hr.get a1 g1.fh
    exact ⟨p, vs, rfl, SqL.of hp, fun r hr => q r _ F1 _ (g1.trans (Grow.newH g1.fh hr)) (g1.hh.free hr) (g1.fh.free hr) upd_same ⟨_, rfl, PairS.rev pv⟩⟩
end
end J

/-! dict displays with one tuple key; sorted of tuples of ints, of a dict with such keys -/
namespace J
open PySem PySem.Spec L2 PyProof.Rows
/-! ### {x: v}, x a tuple -/
def tDisp1 (tk tv : TE) : TE := fun σ H Q => ∀ p, H p = none → tk σ (upd H p (.dT [])) fun x H1 => tv σ H1 fun y H2 => H2 p = some (.dT []) ∧ ∃ (ks : List Key) (b : Addr), x = .ref b ∧ H2 b = some (.tup (ks.map kV)) ∧ Q (.ref p) (upd H2 p (.dT [(ks, y)]))
theorem pe_disp1 {X : Cx} {j : Nat} {pos : Pos} {k v : Expr} {tk tv : TE} (hr : Room j X.A) (hk : PE X k tk) (hv : PE X v tv) : PE X (.Dict [some k] [v] pos) (tDisp1 tk tv) := by
  refine ⟨fun pins s σ H Q I q => ?_⟩
  have hn := I.hok.fresh (Nat.le_refl s.heap.objs.size)
  have I1 := I.laid (a := s.heap.objs.size) (o := .dT []) (h' := s.heap.push { cls := .type "dict", data := .dict #[] }) (t' := s.toks) (fun _ _ q => Heap.get?_push_of_some _ q) (Nat.le_refl _) (dt_empty s.heap I.big)
  rw [arm_eval_Dict, zip_pairTrees [some k] [v] X.env pos rfl rfl, dictDisplay_pairs _ (fun e => by cases e) (by show 1 < 17; decide)]
  refine wpAny_bind (wpAny_standAt (wpAny_bind ?_))
  unfold subDict
  refine wpAny_bind (wpAny_alloc ?_)
  refine wpAny_bind (wpAny_holding ?_)
  rw [if_pos (show (pairTrees [some k] [v] X.env pos).length ≤ 15 from (by decide : 1 ≤ 15))]
  refine wpAny_bind (pairTrees_cons_walk (thn (hk.run pins _ σ _ _ I1 (q _ hn)) fun u s1 ⟨x, H1, I2, rx, q1⟩ => thn (hv.run pins s1 σ H1 _ I2 q1) fun w2 s2 ⟨y, H2, I3, ry, e, ks, b, ex, eb, q2⟩ => pairTrees_nil_walk ?_))
  subst ex
  obtain rfl : u = Value.ref b := rx
  refine wpAny_holding ?_
  rw [List.forIn_cons]
  obtain ⟨z, hd, xs, rel, dd⟩ := dt_of I3.hok e
  cases rel
  refine wpAny_bind (wpAny_bind ?_)
  show wpAny _ _ (dictSet s.heap.objs.size (.ref b) w2 >>= fun _ => pure (ForInStep.yield PUnit.unit)) _ _ s2
  refine wpAny_bind (wpAny_dictSet_heap (hsz := Nat.zero_le _) (knd := tupleKind (mixKind X.prog X.w)) (show X.A.units < cLine by have := hr.un; omega) (key_of I3.hok eb) dd fun h' dd' hs => ?_)
  refine wpAny_pure ?_
  show wpAny _ _ (forIn [] PUnit.unit _) _ _ _
  rw [List.forIn_nil]
  refine wpAny_pure (wpAny_pure (wpAny_pure (wpAny_pure ⟨.ref _, _, ?_, rfl, q2⟩)))
  obtain ⟨o, es, ep, hq, h2, h3, h4, _, h5⟩ := dd'
  refine d_write I3 (by rw [e]; exact True.intro) hs ⟨o, hq⟩ ⟨by show 1 ≤ sizeLine; decide, hd, _, (KT.put (show KT H2 [] [] from .nil) ks eb ry).keeps fun c ys ec => ?_, o, es, ep, hq, h2, h3, h4, h5⟩
  rw [upd_ne (ne_of ec e (fun z => nomatch z))]
  exact ec

/-! ### sorted: tuples of ints -/
theorem swo_rank (r : Value → Int) : SrtO.Swo fun v u => decide (r v < r u) := by
  refine ⟨fun x y h => ?_, fun x y z h1 h2 => ?_⟩
  · have a := of_decide_eq_true h
    exact decide_eq_false (by omega)
  · have a := of_decide_eq_false h1
    have b := of_decide_eq_false h2
    exact decide_eq_false (by omega)
section
variable {prog : Program} {w : World} {A : Around} {s : Shared}
theorem tups_sortable {a : Addr} {vs : List Value} {d : Nat} {B : Int} (hd : 1 ≤ d) (h2 : 2 ≤ vs.length) (x : TS.TupsOk s.heap d B vs) (ha : ∀ o, s.heap.get? a = some o → o.cls ≠ .type "tuple")
    (r : Value → Int) (hr : ∀ v ∈ vs, ∀ ns, TS.TupInts s.heap v ns → r v = TS.code B ns) : SrtO.SortableO prog w A s a vs fun v u => decide (r v < r u) := by
  intro h' keep
  have kp : ∀ b o, s.heap.get? b = some o → o.cls = .type "tuple" → h'.get? b = some o := fun b o e c => keep b o (fun z => by subst z; exact ha o e c) e
  have x' : TS.TupsOk h' d B vs := x.keeps kp
  obtain ⟨fs, k, hl, hi⟩ := TS.firsts_of hd vs x'
  refine ⟨tuples' true, fun Q E hq => ?_, ?_⟩
  · refine PySem.W.kat_kind (T := .type "int") k (by omega) (fun f hf => ?_) (by rfl) ?_
    · obtain ⟨n, t, rfl⟩ := hi f hf
      exact PySem.W.Looks.now
    · have e : (Value.type "int" != Value.type "tuple") = true := by first | decide +kernel | rfl | decide
      rw [e]
      exact hq
  · intro p q hm hm'
    obtain ⟨ns, tp0, lp, bp⟩ := x _ hm
    obtain ⟨ms, tq0, lq, bq⟩ := x _ hm'
    have tp := tp0.keeps kp
    have tq := tq0.keeps kp
    have ep := hr _ hm _ tp0
    have eq2 := hr _ hm' _ tq0
    show wpAny (model prog w) A (keyLt' (tuples' true) p.1 q.1) (fun r' s' => s' = { s with heap := h' } ∧ r' = decide (r p.1 < r q.1)) (fun _ _ => False) { s with heap := h' }
    rw [ep, eq2]
    obtain ⟨a, xs, e1, ⟨o, ho, hc, n, hdt⟩, i⟩ := tp
    obtain ⟨a', ys, e2, ⟨o', ho', hc', n', hdt'⟩, i'⟩ := tq
    rw [e1, e2]
    refine PySem.W.kat_lt ho hdt ho' hdt' ?_
    have sz : decide (xs.size < ys.size) = false := by
      have l1 := i.length
      have l2 := i'.length
      rw [Array.length_toList] at l1 l2
      exact decide_eq_false (by omega)
    rw [sz]
    exact TS.lex_ints 0 i i' (by omega) bp bq ⟨rfl, rfl⟩
end
/-- sorted(xs), xs a list of tuples of d ints in [0, B), of any length -/
def rSortedW (K : PySem.W.Frag) : List V → Hp → VK → Prop := fun vs H Q => ∃ (a : Addr) (xs : List V) (f : V → List Int) (d : Nat) (B : Int), vs = [V.ref a] ∧ SqL K H a xs ∧ 1 ≤ d ∧ (∀ x ∈ xs, TupI K H x (f x) ∧ (f x).length = d ∧ TS.Bd B (f x)) ∧
  ∀ (ys : List V) (p : Addr), ys.Perm xs → ys.Pairwise (fun x y => TS.code B (f x) ≤ TS.code B (f y)) → H p = none → Q (.ref p) (upd H p (.lst ys))
theorem srtd_le {r : Value → Int} {l : List Value} (h : SrtO.Srtd (fun v u => decide (r v < r u)) l) : l.Pairwise fun v u => r v ≤ r u := by
  refine List.Pairwise.imp (fun {v u} hh => ?_) h
  have := of_decide_eq_false hh
  omega
theorem cr_sortedW {X : Cx} : CallR X (.builtin "sorted") (rSortedW X.K) := by
  intro pins s σ H vs us Q I r h
  obtain ⟨a, xs, f, d, B, rfl, hs, hd, hx, q⟩ := h
  obtain ⟨its, rv, hl, hz⟩ := I.list hs
  rw [Vals.ref1 r]
  obtain ⟨e1, e2⟩ := bkV_refs rv fun x m => by
    obtain ⟨⟨t, e, _⟩, _⟩ := hx x m
    exact ⟨t, e⟩
  have raw : ∀ v ∈ its, TS.TupInts s.heap v (f (bkV v)) ∧ (f (bkV v)).length = d ∧ TS.Bd B (f (bkV v)) := fun v hv => by
    obtain ⟨t, rfl⟩ := e2 v hv
    have hm : V.ref t ∈ xs := by
      rw [e1]
      exact List.mem_map.mpr ⟨_, hv, rfl⟩
    obtain ⟨⟨t', e, ht⟩, hn, hb⟩ := hx _ hm
    cases e
    exact ⟨tupI_raw I ht, hn, hb⟩
  refine SrtO.sorted_ord (ltv := fun v u => decide (TS.code B (f (bkV v)) < TS.code B (f (bkV u)))) (swo_rank fun v => TS.code B (f (bkV v))) hl.isList (by rw [← rv.length]; exact hz) (fun h2 h₁ a ha kk => ?_) fun out hs hb => ?_
  · refine tups_sortable (s := { s with heap := h₁ }) (d := d) (B := B) hd h2 (fun v hv => ⟨_, (raw v hv).1.keeps fun b o e _ => (kk b o e).2, (raw v hv).2⟩) (fun o e => ?_) (fun v => TS.code B (f (bkV v))) fun v hv ns t => ?_
    · have e' : some o = some (seqObj "list" its.toArray 0) := e.symm.trans ha
      cases e'
      intro c
      exact absurd (Value.type.inj c) (by decide)
    · have t1 := (raw v hv).1.keeps (h' := h₁) fun b o e _ => (kk b o e).2
      show TS.code B (f (bkV v)) = TS.code B ns
      rw [← t1.ints, ← t.ints]
  · have h3 : ∀ u ∈ out, ∃ a, u = Value.ref a := fun u hu => e2 u (hb.perm.mem_iff.mp hu)
    have hp : (out.map bkV).Perm xs := by
      rw [e1]
      exact hb.perm.map bkV
    have hlen : (out.map bkV).length ≤ sizeLine := by
      rw [hp.length_eq]
      exact hz
    obtain ⟨ep, he'⟩ := PyProof.Rows.sortedAll_at s.heap its out.toArray
    refine ⟨.ref _, upd H (s.heap.objs.size + 1) (.lst (out.map bkV)), I.laid (t' := s.toks) (fun _ _ => PyProof.Rows.sortedAll_old) (Nat.le_succ _) ⟨hlen, out, ep, bkV_vals h3, he'⟩, rfl, q _ _ hp ?_ (I.hok.fresh (Nat.le_succ _))⟩
    rw [List.pairwise_map]
    exact srtd_le (r := fun v => TS.code B (f (bkV v))) hs

/-! ### sorted(d), d a dict with tuples of ints as keys -/
section
variable {prog : Program} {w : World} {d : Addr} {od : Obj} {es : Array DictEntry} {ep : Nat}
theorem walks_keysT {A : Around} {I : Addr} (hh : A.handled = none) (hne : d ≠ I) (hdt : od.data = .dict es ep) :
    Walks prog w A I [I, d] [I] es.size (fun i v => ∃ en : DictEntry, es[i]? = some en ∧ v = en.key) (fun i h => h.IsKeyIter I d i es.size ep ∧ h.get? d = some od) where
  sub := fun b hb => by simp at hb; simp [hb]
  frame := fun _ _ _ st hk => ⟨st.1.at fun o e => hk I (by simp) o e, hk d (by simp) _ st.2⟩
  item := fun i s Q E hi st hQ => by
    have hen : es[i]? = some es[i] := Array.getElem?_eq_getElem hi
    exact next_key_item st.1 st.2 hdt rfl hen fun h' it' sb => hQ _ h' s.toks ⟨_, hen, rfl⟩ ⟨it', (sb.2 d hne).trans st.2⟩ fun b o hb e => (sb.2 b (by simpa using hb)).trans e
  done := fun s Q E st hQ => next_key_end hh st.1 st.2 hdt rfl (Nat.le_refl _) fun h' ext => hQ h' s.toks fun b o hb e => ext b o (fun z => hb (by simp [z])) e
  self := fun _ _ _ _ st hQ => wpAny_pyIter_keyiter st.1 hQ
theorem src_keysT (hd : (d == sysModules) = false) (hx : od.ExactDict) (hdt : od.data = .dict es ep) :
    PySem.W.KdlSrc prog w "dict" d d es.size (fun i v => ∃ en : DictEntry, es[i]? = some en ∧ v = en.key) (fun h => h.get? d = some od) where
  type := fun s h => ⟨od, h, hx.1⟩
  there := fun h e => ⟨Heap.lt_size e, Heap.lt_size e⟩
  keep := fun h h' e k => k d (.inl rfl) _ e
  notList := by decide
  notTuple := by decide
  hint := fun A E s Q e hq => PySem.W.kdl_hint_dict ⟨od, e, hx.1⟩ hq
  iter := fun A s hh e => ⟨_, _, (fun E Q hq => iter_keys hd e hx hdt hq), walks_keysT hh (Nat.ne_of_lt (Heap.lt_size e)) hdt, ⟨⟨_, Heap.get?_push_size _ rfl, rfl, rfl⟩, Heap.get?_push_of_some _ e⟩⟩
end

/-- sorted(d) of a dict whose keys are tuples of d ints in [0, B) -/
def rSortedKT : List V → Hp → VK → Prop := fun vs H Q => ∃ (a : Addr) (kvs : List (List Key × V)) (L : List (List Int)) (d : Nat) (B : Int), vs = [V.ref a] ∧ Rd H a (.dT kvs) ∧ kvs.map (·.1) = L.map (fun l => l.map Sum.inl) ∧ 1 ≤ d ∧ (∀ l ∈ L, l.length = d ∧ TS.Bd B l) ∧
  ∀ (ys : List V) (g : V → List Int) (p : Addr), (∀ y ∈ ys, ∃ t, y = .ref t ∧ H t = some (.tup ((g y).map V.int))) → (ys.map g).Perm L → ys.Pairwise (fun x y => TS.code B (g x) ≤ TS.code B (g y)) → H p = none → Q (.ref p) (upd H p (.lst ys))
theorem keys_of {l : List Int} : (l.map (Sum.inl : Int → Key)).map kV = l.map V.int := by
  rw [List.map_map]
  rfl
theorem Inv.rdT {X : Cx} {pins : List (Addr × Obj)} {σ : L2.St} {H : Hp} {s : Shared} {a : Addr} {kvs : List (List Key × V)} (I : L2.Inv X pins σ H s) (h : Rd H a (.dT kvs)) :
    (a == sysModules) = false ∧ ∃ (o : Obj) (es : Array DictEntry) (ep : Nat), s.heap.get? a = some o ∧ o.ExactDict ∧ o.data = .dict es ep ∧ es.size = kvs.length ∧
      ∀ (i : Nat) (k : List Key) (v : V), kvs[i]? = some (k, v) → ∃ (en : DictEntry) (q : Addr), es[i]? = some en ∧ en.key = .ref q ∧ H q = some (.tup (k.map kV)) := by
  obtain ⟨_, y, xs, r, o, es, ep, h1, h2, h3, h4, h5⟩ := (show ObjOk X.prog X.w H s.heap a (.dT kvs) from rd_of I.hok h)
  have l1 : es.size = xs.length := size_of_entries h4
  have l2 : kvs.length = xs.length := Paired.length r
  refine ⟨y, o, es, ep, h1, h2, h3, by omega, fun i k v e => ?_⟩
  obtain ⟨b, hb, e1, e2, _⟩ := paired_get r e
  have q := entry_at h4 i
  rw [hb] at q
  exact ⟨_, b.2.1, q, rfl, e2⟩
theorem cr_sortedKT {X : Cx} (hc : X.calm = true) : CallR X (.builtin "sorted") rSortedKT := by
  intro pins s σ H vs us Q I r h
  obtain ⟨a, kvs, L, d, B, rfl, hd, hk, h1, hb, q⟩ := h
  rw [Vals.ref1 r]
  obtain ⟨hs, o, es, ep, ho, hx, hdt, hsz, ent⟩ := Inv.rdT I hd
  have hlen : kvs.length ≤ sizeLine := (show ObjOk X.prog X.w H s.heap a (.dT kvs) from rd_of I.hok hd).1
  have hkl : kvs.length = L.length := by
    have e := congrArg List.length hk
    rw [List.length_map, List.length_map] at e
    exact e
  refine Calls.call_function_entry PyProof.Rows.kind_sorted PyProof.Rows.plain_sorted PyProof.Rows.entry_sorted (PyProof.Rows.args_sorted1 _) ?_
  unfold Builtin.«sorted»
  refine wpAny_bind (m := checkCount "sorted" 1 1 _) (wpAny_pure ?_)
  refine wpAny_bind (PySem.W.kdu_collect (A := X.A.in1) (src_keysT hs hx hdt) (I.ok.hd hc) ho (by omega) fun h' tk acc hkeep hacc => ?_)
  have hal : acc.toList.length = L.length := by rw [Array.length_toList, hacc.1]; omega
  have raw : ∀ (j : Nat) (v : Value), acc.toList[j]? = some v → ∃ (l : List Int) (t : Addr), L[j]? = some l ∧ v = .ref t ∧ H t = some (.tup (l.map V.int)) := fun j v e => by
    obtain ⟨en, e1, e2⟩ := hacc.2 j v (by rw [← Array.getElem?_toList]; exact e)
    have hj : j < L.length := by
      rw [← hal]
      exact (List.getElem?_eq_some_iff.mp e).1
    have hL : L[j]? = some L[j] := List.getElem?_eq_getElem hj
    obtain ⟨⟨k, x⟩, hkv⟩ : ∃ p, kvs[j]? = some p := ⟨_, List.getElem?_eq_getElem (by omega)⟩
    obtain ⟨en', t, e3, e4, e5⟩ := ent j k x hkv
    rw [e1] at e3
    cases e3
    have e6 : (kvs.map (·.1))[j]? = some k := by rw [List.getElem?_map, hkv]; rfl
    rw [hk, List.getElem?_map, hL] at e6
    have e7 : L[j].map (Sum.inl : Int → Key) = k := Option.some.inj e6
    rw [← e7, keys_of] at e5
    exact ⟨_, t, hL, by rw [e2, e4], e5⟩
  have raw2 : ∀ v ∈ acc.toList, ∃ (l : List Int) (t : Addr), v = .ref t ∧ H t = some (.tup (l.map V.int)) ∧ l.length = d ∧ TS.Bd B l ∧ TS.intsOf s.heap v = l ∧ TS.TupInts s.heap v l := fun v hv => by
    obtain ⟨j, hj⟩ := List.mem_iff_getElem?.mp hv
    obtain ⟨l, t, hL, rfl, ht⟩ := raw j v hj
    have z := tupI_raw I (SqT.of ht : SqT X.K H t _)
    exact ⟨l, t, rfl, ht, (hb l (List.mem_of_getElem? hL)).1, (hb l (List.mem_of_getElem? hL)).2, z.ints, z⟩
  have hmap : acc.toList.map (TS.intsOf s.heap) = L := by
    apply List.ext_getElem?
    intro j
    rw [List.getElem?_map]
    cases e : acc.toList[j]? with
    | none =>
      have : L.length ≤ j := by
        rw [← hal]
        exact List.getElem?_eq_none_iff.mp e
      rw [List.getElem?_eq_none this]
      rfl
    | some v =>
      obtain ⟨l, t, hL, rfl, ht⟩ := raw j v e
      rw [hL]
      have z := tupI_raw I (SqT.of ht : SqT X.K H t _)
      show some (TS.intsOf s.heap (.ref t)) = some l
      rw [z.ints]
  have I1 : L2.Inv X pins σ H { s with heap := h', toks := tk } := I.kept hkeep
  refine wpAny_bind (wpAny_newList ?_ (by omega))
  have hoL : (h'.push (seqObj "list" acc.toList.toArray 0)).get? h'.objs.size = some (seqObj "list" acc.toList.toArray 0) := Heap.get?_push_size _ rfl
  show wpAny _ _ _ _ _ { s with heap := h'.push (seqObj "list" acc.toList.toArray 0), toks := tk }
  have keepT : ∀ b o, s.heap.get? b = some o → o.cls = .type "tuple" → (h'.push (seqObj "list" acc.toList.toArray 0)).get? b = some o := fun b o e _ => Heap.get?_push_of_some _ (hkeep b o e)
  refine wpAny_bind (wpAny_holding (wpAny_call_entry PyProof.Rows.slot_list_sort ⟨_, hoL, rfl⟩ PyProof.Rows.entry_list_sort
    (SrtO.list_sort_ord (s := { s with heap := h'.push (seqObj "list" acc.toList.toArray 0), toks := tk }) (ltv := fun v u => decide (TS.code B (TS.intsOf s.heap v) < TS.code B (TS.intsOf s.heap u))) (swo_rank fun v => TS.code B (TS.intsOf s.heap v)) hoL (by omega)
      (fun h2 => tups_sortable (d := d) (B := B) h1 h2 (fun v hv => ?_) (fun o e => ?_) (fun v => TS.code B (TS.intsOf s.heap v)) fun v hv ns t => ?_) fun out hs hb => ⟨_, rfl, ?_⟩) (PyProof.Rows.args_list_sort _)))
  · obtain ⟨l, t, rfl, _, g1, g2, _, z⟩ := raw2 v hv
    exact ⟨l, z.keeps keepT, g1, g2⟩
  · have e' : some o = some (seqObj "list" acc.toList.toArray 0) := e.symm.trans hoL
    cases e'
    intro c
    exact absurd (Value.type.inj c) (by decide)
  · obtain ⟨l, t', rfl, _, _, _, g3, z⟩ := raw2 v hv
    show TS.code B (TS.intsOf s.heap _) = TS.code B ns
    rw [g3, ← (z.keeps keepT).ints, ← t.ints]
  · obtain ⟨e', he'⟩ := PyProof.Rows.sortedHeap_at (vs := acc.toList) (out := out.toArray) hoL
    have h3 : ∀ u ∈ out, ∃ a, u = Value.ref a := fun u hu => by
      obtain ⟨_, t, rfl, _⟩ := raw2 u (hb.perm.mem_iff.mp hu)
      exact ⟨t, rfl⟩
    have hl2 : (out.map bkV).length ≤ sizeLine := by
      rw [List.length_map, hb.perm.length_eq, hal]
      omega
    have bk : ∀ u ∈ out, Value.ref (match bkV u with | .ref t => t | _ => 0) = u := fun u hu => by
      obtain ⟨t, rfl⟩ := h3 u hu
      rfl
    refine wpAny_pure ⟨_, rfl, .ref h'.objs.size, upd H h'.objs.size (.lst (out.map bkV)), I1.laid (t' := tk) (fun b u e => ?_) (Nat.le_refl _)
      (show ObjOk X.prog X.w _ _ _ (.lst (out.map bkV)) from ⟨hl2, out, e', bkV_vals h3, he'⟩), rfl, q (out.map bkV) (fun y => TS.intsOf s.heap (Value.ref (match y with | .ref t => t | _ => 0))) _ ?_ ?_ ?_ (I1.hok.fresh (Nat.le_refl _))⟩
    · have hb : b < h'.objs.size := Heap.lt_size e
      rw [PyProof.Rows.sortedHeap_old (Nat.ne_of_lt hb) (by rw [size_push']; exact Nat.lt_succ_of_lt hb)]
      exact Heap.get?_push_of_some _ e
    · intro y hy
      obtain ⟨u, hu, rfl⟩ := List.mem_map.mp hy
      obtain ⟨l, t, rfl, ht, _, _, g3, _⟩ := raw2 u (hb.perm.mem_iff.mp hu)
      refine ⟨t, rfl, ?_⟩
      show H t = some (.tup ((TS.intsOf s.heap (.ref t)).map V.int))
      rw [g3]
      exact ht
    · rw [List.map_map]
      have e : out.map ((fun y => TS.intsOf s.heap (Value.ref (match y with | .ref t => t | _ => 0))) ∘ bkV) = out.map (TS.intsOf s.heap) := List.map_congr_left fun u hu => congrArg (TS.intsOf s.heap) (bk u hu)
      rw [e, ← hmap]
      exact hb.perm.map _
    · rw [List.pairwise_map]
      refine List.Pairwise.imp_of_mem (fun {u v} hu hv z => ?_) (srtd_le (r := fun v => TS.code B (TS.intsOf s.heap v)) hs)
      show TS.code B (TS.intsOf s.heap _) ≤ TS.code B (TS.intsOf s.heap _)
      rw [bk u hu, bk v hv]
      exact z
end J

/-! dicts with tuple keys and with int keys, sorted, as rules of the store -/
namespace J
open PySem PySem.Spec L2 PyProof.Rows
abbrev tpS (x : List Int) : Slot := tupS (x.map iS)
def kx (x : List Int) : List Key := x.map Sum.inl
theorem kx_inj {x y : List Int} (h : kx x = kx y) : x = y := by
  unfold kx at h
  exact List.map_inj_right (fun a b e => Sum.inl.inj e) |>.mp h
theorem paired_snoc {α β : Type} {R : α → β → Prop} {a : List α} {b : List β} {x : α} {y : β} (h : Paired R a b) (p : R x y) : Paired R (a ++ [x]) (b ++ [y]) := by
  induction h with
  | nil => exact .cons p .nil
  | cons q _ ih => exact .cons q ih
/-! ### one sorted list -/
theorem sorted_uniq {α : Type} {le : α → α → Prop} : ∀ {l m : List α}, (∀ a ∈ l, ∀ b ∈ l, le a b → le b a → a = b) → l.Perm m → l.Pairwise le → m.Pairwise le → l = m
  | [], m, _, p, _, _ => (List.Perm.eq_nil p.symm).symm
  | x :: l, [], _, p, _, _ => absurd p.length_eq (by simp)
  | x :: l, y :: m, anti, p, hl, hm => by
    have hy : y ∈ x :: l := p.mem_iff.mpr List.mem_cons_self
    have hx : x ∈ y :: m := p.mem_iff.mp List.mem_cons_self
    have e : x = y := by
      rcases List.mem_cons.mp hy with e | hy'
      · exact e.symm
      · rcases List.mem_cons.mp hx with e | hx'
        · exact e
        · exact anti x List.mem_cons_self y hy ((List.pairwise_cons.mp hl).1 y hy') ((List.pairwise_cons.mp hm).1 x hx')
    subst e
    rw [sorted_uniq (fun a ha b hb => anti a (List.mem_cons_of_mem _ ha) b (List.mem_cons_of_mem _ hb)) p.cons_inv (List.pairwise_cons.mp hl).2 (List.pairwise_cons.mp hm).2]
theorem code_inj {B : Int} : ∀ {x y : List Int}, x.length = y.length → TS.Bd B x → TS.Bd B y → TS.code B x = TS.code B y → x = y
  | [], [], _, _, _, _ => rfl
  | [], _ :: _, h, _, _, _ => by simp at h
  | _ :: _, [], h, _, _, _ => by simp at h
  | a :: x, b :: y, hl, hx, hy, e => by
    have hl' : x.length = y.length := by simpa using hl
    rcases Int.lt_trichotomy a b with h | h | h
    · have := TS.code_lt hl' hx.tail hy.tail h
      omega
    · subst h
      have e2 : TS.code B x = TS.code B y := by
        have h1 : ¬ TS.code B x < TS.code B y := fun q => by have := (TS.code_same (d := a) hl').mpr q; omega
        have h2 : ¬ TS.code B y < TS.code B x := fun q => by have := (TS.code_same (d := a) hl'.symm).mpr q; omega
        omega
      rw [code_inj hl' hx.tail hy.tail e2]
    · have := TS.code_lt hl'.symm hy.tail hx.tail h
      omega
def leT (x y : List Int) : Bool := decide (TS.code 64 x ≤ TS.code 64 y)
def sortT (xs : List (List Int)) : List (List Int) := xs.mergeSort leT
theorem sortT_perm (xs : List (List Int)) : (sortT xs).Perm xs := List.mergeSort_perm xs leT
theorem sortT_srt (xs : List (List Int)) : (sortT xs).Pairwise fun x y => TS.code 64 x ≤ TS.code 64 y := by
  have h := List.pairwise_mergeSort (le := leT) (fun a b c h1 h2 => by
    have := of_decide_eq_true h1
    have := of_decide_eq_true h2
    exact decide_eq_true (by omega)) (fun a b => by
    unfold leT
    by_cases h : TS.code 64 a ≤ TS.code 64 b
    · rw [decide_eq_true h]; rfl
    · rw [decide_eq_true (show TS.code 64 b ≤ TS.code 64 a by omega), Bool.or_true]) xs
  exact h.imp fun q => of_decide_eq_true q
def TOk (d : Nat) (x : List Int) : Prop := x.length = d ∧ TS.Bd 64 x
theorem sortT_uniq {xs ys : List (List Int)} {d : Nat} (hx : ∀ x ∈ xs, TOk d x) (p : ys.Perm xs) (s : ys.Pairwise fun x y => TS.code 64 x ≤ TS.code 64 y) : ys = sortT xs := by
  refine sorted_uniq (fun a ha b hb h1 h2 => ?_) (p.trans (sortT_perm xs).symm) s (sortT_srt xs)
  have h3 := hx a (p.mem_iff.mp ha)
  have h4 := hx b (p.mem_iff.mp hb)
  exact code_inj (h3.1.trans h4.1.symm) h3.2 h4.2 (by omega)
def leI (x y : Int) : Bool := decide (x ≤ y)
def sortI (xs : List Int) : List Int := xs.mergeSort leI
theorem sortI_perm (xs : List Int) : (sortI xs).Perm xs := List.mergeSort_perm xs leI
theorem sortI_srt (xs : List Int) : (sortI xs).Pairwise (· ≤ ·) := by
  have h := List.pairwise_mergeSort (le := leI) (fun a b c h1 h2 => by
    have := of_decide_eq_true h1
    have := of_decide_eq_true h2
    exact decide_eq_true (by omega)) (fun a b => by
    unfold leI
    by_cases h : a ≤ b
    · rw [decide_eq_true h]; rfl
    · rw [decide_eq_true (show b ≤ a by omega), Bool.or_true]) xs
  exact h.imp fun q => of_decide_eq_true q
theorem sortI_uniq {xs ys : List Int} (p : ys.Perm xs) (s : ys.Pairwise (· ≤ ·)) : ys = sortI xs :=
  sorted_uniq (fun a ha b hb h1 h2 => Int.le_antisymm h1 h2) (p.trans (sortI_perm xs).symm) s (sortI_srt xs)
/-! ### sorted, all ways -/
def rSortDI : List V → Hp → VK → Prop := fun xs H Q => ∃ (a : Addr) (kvs : List (Key × V)) (ks : List Int), xs = [.ref a] ∧ Rd H a (.dK kvs) ∧ kvs.map (·.1) = ks.map Sum.inl ∧ ks.length < 64 ∧
    ∀ (ys : List Int) (p : Addr), ys.Perm ks → ys.Pairwise (· ≤ ·) → H p = none → Q (.ref p) (upd H p (.lst (ys.map V.int)))
def rSortJ (K : PySem.W.Frag) : List V → Hp → VK → Prop := fun vs H Q => rSortedW K vs H Q ∨ rSortedKT vs H Q ∨ rSortDI vs H Q
theorem kc_sorted {K : PySem.W.Frag} {X : Cx} (hK : X.K = K) (hc : X.calm = true) : CallR X (.builtin "sorted") (rSortJ K) := by
  subst hK
  exact CallR.or cr_sortedW (CallR.or (cr_sortedKT hc) (call_sortedDI hc))
section
variable {K : PySem.W.Frag} {F0 H0 F H : Hp} {σ : L2.St} {δ : List Ent} {te tb ta tk tv : TE} {tz : TS} {D : Ends} {i : Nat} {S : Slot} {e1 : Ent}
def intV : V → Int
  | .int i => i
  | _ => 0
/-- the ints of a tuple of F -/
def fv (F : Hp) : V → List Int
  | .ref t => match F t with
    | some (.tup ws) => ws.map intV
    | _ => []
  | _ => []
theorem fv_of {x : List Int} {v : V} (h : (tpS x).P F v) : ∃ t, v = .ref t ∧ F t = some (.tup (x.map V.int)) ∧ fv F v = x := by
  obtain ⟨t, ho, rfl, ht, ws, rfl, pw⟩ := h
  have e : ws = x.map V.int := PairS.kmap pw
  subst e
  refine ⟨t, rfl, ht, ?_⟩
  show (match F t with | some (.tup ws) => ws.map intV | _ => []) = x
  rw [ht]
  show (x.map V.int).map intV = x
  rw [List.map_map]
  exact List.map_id' x
theorem tp_of {x : List Int} {t : Addr} (h : F t = some (.tup (x.map V.int))) : (tpS x).P F (.ref t) := by
  exact ⟨t, _, rfl, h, _, rfl, PairS.ofk V.int x⟩
theorem pairs_tp {vs : List V} {xs : List (List Int)} (h : PairS F vs (xs.map tpS)) : vs.map (fv F) = xs := by
  induction xs generalizing vs with
  | nil => cases h; rfl
  | cons x xs ih =>
    cases h with
    | cons p t =>
      obtain ⟨_, _, _, e⟩ := fv_of p
      rw [List.map_cons, e, ih t]
theorem tp_pairs : ∀ {ys : List V}, (∀ y ∈ ys, ∃ t, y = .ref t ∧ F t = some (.tup ((fv F y).map V.int))) → PairS F ys ((ys.map (fv F)).map tpS)
  | [], _ => .nil
  | y :: ys, h => by
    obtain ⟨t, e, ht⟩ := h y List.mem_cons_self
    refine .cons ?_ (tp_pairs fun z hz => h z (List.mem_cons_of_mem _ hz))
    rw [e] at ht ⊢
    exact tp_of ht
theorem mem_tp {vs : List V} {xs : List (List Int)} (h : PairS F vs (xs.map tpS)) : ∀ v ∈ vs, (∃ t, v = .ref t ∧ F t = some (.tup ((fv F v).map V.int))) ∧ fv F v ∈ xs := by
  induction xs generalizing vs with
  | nil => cases h; intro v hv; cases hv
  | cons x xs ih =>
    cases h with
    | cons p t =>
      intro v hv
      cases hv with
      | head =>
        obtain ⟨q, e1, e2, e3⟩ := fv_of p
        rw [e3]
        exact ⟨⟨q, e1, e2⟩, List.mem_cons_self⟩
      | tail _ hv => exact ⟨(ih t v hv).1, List.mem_cons_of_mem _ (ih t v hv).2⟩
theorem eo_sortT {xs : List (List Int)} {d : Nat} (h : EvE te δ e1) (hr : IsR e1 (lstO (xs.map tpS))) (hd : 1 ≤ d) (hx : ∀ x ∈ xs, TOk d x) : EvO (tCB (rSortJ K) (tCons te tNil)) δ (lstO ((sortT xs).map tpS)) := fun F0 H0 F H σ s Q q =>
  h F0 H0 F H σ s _ fun v F1 H1 g1 a1 => by
    obtain ⟨p, ho, rfl, hp, vs, rfl, pv⟩ := hr.get a1 g1.fh
    have mt := mem_tp pv
    refine .inl ⟨p, vs, fv F1, d, 64, rfl, SqL.of hp, hd, fun x hm => ?_, fun ys r hperm hs hr => ?_⟩
    · obtain ⟨⟨t, e1, e2⟩, e3⟩ := mt x hm
      exact ⟨⟨t, e1, SqT.of (g1.fh t _ e2)⟩, hx _ e3⟩
    · have e : ys.map (fv F1) = sortT xs := by
        refine sortT_uniq hx ?_ (List.pairwise_map.mpr hs)
        rw [← pairs_tp pv]
        exact hperm.map _
      refine q r _ F1 _ (g1.trans (Grow.newH g1.fh hr)) (g1.hh.free hr) (g1.fh.free hr) upd_same ⟨_, rfl, ?_⟩
      rw [← e]
      exact tp_pairs fun y hy => (mt y (hperm.mem_iff.mp hy)).1
theorem dic_keys {kv : List (List Key × V)} {kvs : List (List Key × Slot)} (h : Paired (fun (p : List Key × V) (q : List Key × Slot) => p.1 = q.1 ∧ q.2.P F p.2) kv kvs) : kv.map (·.1) = kvs.map (·.1) := by
  induction h with
  | nil => rfl
  | cons p _ ih => rw [List.map_cons, List.map_cons, p.1, ih]
theorem dik_keys {kv : List (Key × V)} {kvs : List (Key × Slot)} (h : Paired (fun (p : Key × V) (q : Key × Slot) => p.1 = q.1 ∧ q.2.P F p.2) kv kvs) : kv.map (·.1) = kvs.map (·.1) := by
  induction h with
  | nil => rfl
  | cons p _ ih => rw [List.map_cons, List.map_cons, p.1, ih]
theorem eo_sortKT {kvs : List (List Key × Slot)} {L : List (List Int)} {d : Nat} (h : EvE te δ e1) (hr : IsR e1 (dicO kvs)) (hk : kvs.map (·.1) = L.map kx) (hd : 1 ≤ d) (hx : ∀ x ∈ L, TOk d x) : EvO (tCB (rSortJ K) (tCons te tNil)) δ (lstO ((sortT L).map tpS)) := fun F0 H0 F H σ s Q q =>
  h F0 H0 F H σ s _ fun v F1 H1 g1 a1 => by
    have s1 := s.grow g1
    obtain ⟨p, ho, rfl, hp, kv, rfl, pv⟩ := hr.get a1 g1.fh
    refine .inr (.inl ⟨p, kv, L, d, 64, rfl, .inl hp, (dic_keys pv).trans hk, hd, hx, fun ys g r hy hperm hs hr => ?_⟩)
    have hyF : ∀ y ∈ ys, (∃ t, y = .ref t ∧ F1 t = some (.tup ((fv F1 y).map V.int))) ∧ fv F1 y = g y := fun y hm => by
      obtain ⟨t, rfl, ht⟩ := hy y hm
      have ht1 := s1.tt t _ ht
      obtain ⟨_, e1, e2, e3⟩ := fv_of (tp_of ht1)
      rw [e3]
      exact ⟨⟨t, rfl, ht1⟩, rfl⟩
    have eg : ys.map (fv F1) = ys.map g := List.map_congr_left fun y hm => (hyF y hm).2
    have e : ys.map (fv F1) = sortT L := by
      rw [eg]
      exact sortT_uniq hx hperm (List.pairwise_map.mpr hs)
    refine q r _ F1 _ (g1.trans (Grow.newH g1.fh hr)) (g1.hh.free hr) (g1.fh.free hr) upd_same ⟨_, rfl, ?_⟩
    rw [← e]
    exact tp_pairs fun y hy => (hyF y hy).1
theorem eo_sortDI {kvs : List (Key × Slot)} {ks : List Int} (h : EvE te δ e1) (hr : IsR e1 (dikO kvs)) (hk : kvs.map (·.1) = ks.map Sum.inl) (hl : ks.length < 64) : EvO (tCB (rSortJ K) (tCons te tNil)) δ (lstO ((sortI ks).map iS)) := fun F0 H0 F H σ s Q q =>
  h F0 H0 F H σ s _ fun v F1 H1 g1 a1 => by
    obtain ⟨p, ho, rfl, hp, kv, rfl, pv⟩ := hr.get a1 g1.fh
    refine .inr (.inr ⟨p, kv, ks, rfl, .inl hp, (dik_keys pv).trans hk, hl, fun ys r hperm hs hr => ?_⟩)
    rw [sortI_uniq hperm hs]
    exact q r _ F1 _ (g1.trans (Grow.newH g1.fh hr)) (g1.hh.free hr) (g1.fh.free hr) upd_same ⟨_, rfl, PairS.ofk V.int _⟩
/-! ### dicts -/
theorem eo_newT : EvO tDNewT δ (dicO []) := fun F0 H0 F H σ s Q q => fun p hp => q p _ F _ (Grow.newH s.fh hp) hp (s.fh.free hp) upd_same ⟨[], rfl, .nil⟩
theorem eo_newK : EvO tDNewK δ (dikO []) := fun F0 H0 F H σ s Q q => fun p hp => q p _ F _ (Grow.newH s.fh hp) hp (s.fh.free hp) upd_same ⟨[], rfl, .nil⟩
theorem kx_V {x : List Int} : (kx x).map kV = x.map V.int := keys_of
theorem eo_disp1 {x : List Int} (hk : EvE tk δ (.v (tpS x))) (hv : EvE tv δ (.v S)) : EvO (tDisp1 tk tv) δ (dicO [(kx x, S)]) := fun F0 H0 F H σ s Q q => fun p hp => by
  have g0 : Grow F H F (upd H p (.dT [])) := Grow.newH s.fh hp
  have hf := s.fh.free hp
  refine hk F0 H0 F _ σ (s.grow g0) _ fun v F1 H1 g1 a1 => hv F0 H0 F1 H1 σ ((s.grow g0).grow g1) _ fun y F2 H2 g2 a2 => ?_
  have h1 : H1 p = some (.dT []) := g1.hh p _ upd_same
  have h2 : H2 p = some (.dT []) := g2.hh p _ h1
  have f1 : F1 p = none := g1.nw p (by rw [upd_same]; exact fun z => nomatch z) hf
  have f2 : F2 p = none := g2.nw p (by rw [h1]; exact fun z => nomatch z) f1
  obtain ⟨b, rfl, hb, _⟩ := fv_of a1
  refine ⟨h2, kx x, b, rfl, by rw [kx_V]; exact g2.hh b _ (g1.fh b _ hb), ?_⟩
  have gg := (g0.trans g1).trans g2
  refine q p _ F2 _ ⟨gg.ff, fun c u e => ?_, same_updR gg.fh f2, gg.nw, fun t => tt_upd (gg.tt t) (by intro _ h; cases h)⟩ hp f2 upd_same ⟨_, rfl, .cons ⟨rfl, a2⟩ .nil⟩
  rw [upd_ne (ne_of_none e hp)]
  exact gg.hh c u e
theorem find_keys {kv : List (List Key × V)} {kvs : List (List Key × Slot)} {k : List Key} (h : Paired (fun (p : List Key × V) (q : List Key × Slot) => p.1 = q.1 ∧ q.2.P F p.2) kv kvs) : match kvs.find? fun q => decide (q.1 = k) with
    | some q => ∃ v, valV kv k = some v ∧ q.2.P F v
    | none => valV kv k = none := by
  induction h with
  | nil => rfl
  | @cons p q ps qs hp t ih =>
    unfold valV at ih ⊢
    rw [List.find?_cons, List.find?_cons, hp.1]
    by_cases e : q.1 = k
    · rw [decide_eq_true e]
      exact ⟨p.2, rfl, hp.2⟩
    · rw [decide_eq_false e]
      exact ih
theorem some_keys {kv : List (List Key × V)} {k : List Key} : (valV kv k).isSome = true ↔ k ∈ kv.map (·.1) := by
  unfold valV
  rw [Option.isSome_map, List.find?_isSome]
  constructor
  · rintro ⟨p, hp, e⟩
    exact List.mem_map.mpr ⟨p, hp, of_decide_eq_true e⟩
  · intro h
    obtain ⟨p, hp, e⟩ := List.mem_map.mp h
    exact ⟨p, hp, decide_eq_true e⟩
theorem mem_kx {x : List Int} {L : List (List Int)} : kx x ∈ L.map kx ↔ x ∈ L := by
  constructor
  · intro h
    obtain ⟨y, hy, e⟩ := List.mem_map.mp h
    rw [← kx_inj e]
    exact hy
  · exact fun h => List.mem_map.mpr ⟨x, h, rfl⟩
theorem some_kx {kv : List (List Key × V)} {kvs : List (List Key × Slot)} {L : List (List Int)} {x : List Int} (h : Paired (fun (p : List Key × V) (q : List Key × Slot) => p.1 = q.1 ∧ q.2.P F p.2) kv kvs) (hk : kvs.map (·.1) = L.map kx) : (valV kv (kx x)).isSome = decide (x ∈ L) := by
  rw [Bool.eq_iff_iff, some_keys, dic_keys h, hk, mem_kx, decide_eq_true_iff]
theorem dget {x : List Int} {v y : V} {kvs : List (List Key × Slot)} (s : Same F H) (h1 : ArgOk F H v e1) (hr : IsR e1 (dicO kvs)) (h2 : (tpS x).P F y) : ∃ p kv, v = .ref p ∧ H p = some (.dT kv) ∧ Paired (fun (p : List Key × V) (q : List Key × Slot) => p.1 = q.1 ∧ q.2.P F p.2) kv kvs ∧ DGet H p y (valV kv (kx x)) := by
  obtain ⟨p, ho, rfl, hp, kv, rfl, pv⟩ := hr.get h1 s
  obtain ⟨b, rfl, hb, _⟩ := fv_of h2
  exact ⟨p, kv, rfl, hp, pv, DGet.t hp (by rw [kx_V]; exact s b _ hb)⟩
theorem ev_niDT {x : List Int} {L : List (List Int)} {kvs : List (List Key × Slot)} (ha : EvE ta δ (.v (tpS x))) (hb : EvE tb δ e1) (hr : IsR e1 (dicO kvs)) (hk : kvs.map (·.1) = L.map kx) : EvE (tNiJ K ta tb) δ (.v (bS (!decide (x ∈ L)))) := fun F0 H0 F H σ s Q q =>
  .inr (.inl (ha F0 H0 F H σ s _ fun y F1 H1 g1 a1 => hb F0 H0 F1 H1 σ (s.grow g1) _ fun v F2 H2 g2 a2 => by
    obtain ⟨p, kv, rfl, hp, pv, dg⟩ := dget g2.fh a2 hr ((tpS x).mono g2.ff a1)
    refine ⟨p, _, rfl, dg, ?_⟩
    rw [some_kx pv hk]
    exact q _ F2 H2 (g1.trans g2) rfl))
theorem ev_inDT {x : List Int} {L : List (List Int)} {kvs : List (List Key × Slot)} (ha : EvE ta δ (.v (tpS x))) (hb : EvE tb δ e1) (hr : IsR e1 (dicO kvs)) (hk : kvs.map (·.1) = L.map kx) : EvE (tInJ K ta tb) δ (.v (bS (decide (x ∈ L)))) := fun F0 H0 F H σ s Q q =>
  .inr (.inl (ha F0 H0 F H σ s _ fun y F1 H1 g1 a1 => hb F0 H0 F1 H1 σ (s.grow g1) _ fun v F2 H2 g2 a2 => by
    obtain ⟨p, kv, rfl, hp, pv, dg⟩ := dget g2.fh a2 hr ((tpS x).mono g2.ff a1)
    refine ⟨p, _, rfl, dg, ?_⟩
    rw [some_kx pv hk]
    exact q _ F2 H2 (g1.trans g2) rfl))
theorem ev_dget {x : List Int} {kvs : List (List Key × Slot)} {r : List Key × Slot} (ha : EvE ta δ e1) (hr : IsR e1 (dicO kvs)) (hb : EvE tb δ (.v (tpS x))) (hf : kvs.find? (fun q => decide (q.1 = kx x)) = some r) : EvE (tIx K ta tb) δ (.v r.2) := fun F0 H0 F H σ s Q q =>
  .inr (ha F0 H0 F H σ s _ fun v F1 H1 g1 a1 => hb F0 H0 F1 H1 σ (s.grow g1) _ fun y F2 H2 g2 a2 => by
    obtain ⟨p, kv, rfl, hp, pv, dg⟩ := dget g2.fh (a1.grow g2) hr a2
    have z := find_keys (k := kx x) pv
    rw [hf] at z
    obtain ⟨w, hw, pw⟩ := z
    rw [hw] at dg
    exact ⟨p, w, rfl, dg, q w F2 H2 (g1.trans g2) pw⟩)
/-- d[x] = .., x not yet in it -/
theorem q_dput {x : List Int} {L : List (List Int)} {kvs : List (List Key × Slot)} (s : St F0 H0 F H σ δ) (hi : δ[i]? = some (.ow (dicO kvs))) (hk : kvs.map (·.1) = L.map kx) (hn : x ∉ L) (hz : L.length < 100000) (h : EvE te δ (.v S)) (hb : EvE tb δ (.v (tpS x)))
    (k : ∀ σ' F' H', St F0 H0 F' H' σ' (δ.set i (.ow (dicO (kvs ++ [(kx x, S)])))) → tz D σ' H') : tSeq (sDPut (tVar i) tb te) tz D σ H := by
  refine h F0 H0 F H σ s _ fun v F1 H1 g1 a1 => ?_
  have s1 := s.grow g1
  obtain ⟨p, ho, e, hp, kv, rfl, pv⟩ := s1.loc hi
  refine ⟨.ref p, e, hb F0 H0 F1 H1 σ s1 _ fun y F2 H2 g2 a2 => ?_⟩
  obtain ⟨b, rfl, hb2, _⟩ := fv_of a2
  have hp2 := g2.hh p _ hp
  have hkl : kv.length = L.length := by
    have e := congrArg List.length ((dic_keys pv).trans hk)
    rw [List.length_map, List.length_map] at e
    exact e
  have hput : putK kv (kx x) v = kv ++ [(kx x, v)] := by
    unfold putK
    have e : (kv.any fun q => decide (q.1 = kx x)) = false := by
      rw [List.any_eq_false]
      intro q hq c
      have : kx x ∈ kv.map (·.1) := List.mem_map.mpr ⟨q, hq, of_decide_eq_true c⟩
      rw [dic_keys pv, hk] at this
      exact hn (mem_kx.mp this)
    rw [e, if_neg Bool.false_ne_true]
  refine ⟨p, _, rfl, DPut.t hp2 (by rw [kx_V]; exact g2.fh b _ hb2) (by rw [hkl]; exact sizeLt hz), ?_⟩
  rw [hput]
  exact k _ F2 _ ((s1.grow g2).mut hi e ⟨_, rfl, paired_snoc (Paired.mapP pv fun _ q z => ⟨z.1, q.2.mono g2.ff z.2⟩) ⟨rfl, S.mono g2.ff a1⟩⟩)
end
end J

namespace J
open PySem PySem.Spec L2 PyProof.Rows
theorem jo_isB {X : Cx} : OpR X (compareOp .Is) rIsB := op_isBl
theorem jo_isnotB {X : Cx} : OpR X (compareOp .IsNot) rNotB := op_notBl
section
variable {K : PySem.W.Frag} {F0 H0 F H : Hp} {σ : L2.St} {δ : List Ent} {te tb ta tk tv : TE} {tz : TS} {D : Ends} {i : Nat} {S : Slot} {e1 e2 : Ent}
theorem jv_isB {a b : Bool} : OpE rIsB (.v (bS a)) (.v (bS b)) (.v (bS (decide (a = b)))) := op_k fun _ _ q => ⟨a, b, rfl, rfl, q⟩
theorem jv_notB {a b : Bool} : OpE rNotB (.v (bS a)) (.v (bS b)) (.v (bS (!decide (a = b)))) := op_k fun _ _ q => ⟨a, b, rfl, rfl, q⟩
def tpD (x : List Int) : PyData := .tuple (x.map .int)
theorem eqv_tp (x y : List Int) : PyData.eqv (tpD x) (tpD y) = decide (x = y) := by
  unfold tpD
  rw [← eqvAll_ints]
  rfl
theorem any_tp (x : List Int) : ∀ L : List (List Int), ((L.map tpD).any fun z => PyData.eqv z (tpD x)) = decide (x ∈ L)
  | [] => rfl
  | y :: L => by
    rw [List.map_cons, List.any_cons, any_tp x L, eqv_tp]
    by_cases h : y = x
    · subst h
      rw [decide_eq_true rfl, Bool.true_or, decide_eq_true List.mem_cons_self]
    · rw [decide_eq_false h, Bool.false_or]
      congr 1
      rw [List.mem_cons]
      exact propext ⟨.inr, fun z => z.elim (fun z => absurd z.symm h) id⟩
theorem dat_tp {e : Ent} {x : List Int} (h : IsR e (tupO (x.map iS))) : Dat K e (tpD x) := dat_it h
theorem dat_ltp {e : Ent} {L : List (List Int)} (h : IsR e (lstO (L.map tpS))) : Dat K e (.list (L.map tpD)) := dat_itl h
/-- x in a list of tuples -/
theorem ev_inLT {x : List Int} {L : List (List Int)} (ha : EvE ta δ (.v (tpS x))) (hb : EvE tb δ e1) (hr : IsR e1 (lstO (L.map tpS))) : EvE (tInJ K ta tb) δ (.v (bS (decide (x ∈ L)))) := fun F0 H0 F H σ s Q q =>
  .inr (.inr (ev_op (r := rInD K) (e3 := .v (bS (decide (x ∈ L)))) ha hb (fun F H v y s a b Q q => by
    have h1 := dat_tp (K := K) (x := x) isR_v
    have h2 := dat_ltp (K := K) hr
    refine ⟨tpD x, L.map tpD, h1.to F H v s a, h2.to F H y s b, h1.sh, h2.sh, ?_⟩
    rw [any_tp]
    exact q _ F H (Grow.refl s) rfl) F0 H0 F H σ s Q q))
/-- d[n] = True, d a dict of ints that are all True -/
def addI (ks : List Int) (n : Int) : List Int := if n ∈ ks then ks else ks ++ [n]
abbrev setO (ks : List Int) : Own := dikO (ks.map fun n => ((Sum.inl n : Key), bS true))
theorem set_is {kv : List (Key × V)} {ks : List Int} (h : Paired (fun (p : Key × V) (q : Key × Slot) => p.1 = q.1 ∧ q.2.P F p.2) kv (ks.map fun n => ((Sum.inl n : Key), bS true))) : kv = ks.map fun n => ((Sum.inl n : Key), V.bl true) := by
  induction ks generalizing kv with
  | nil => cases h; rfl
  | cons a l ih =>
    cases h with
    | @cons p _ ps _ q t =>
      rw [ih t, List.map_cons]
      congr 1
      obtain ⟨x, y⟩ := p
      obtain ⟨h1, h2⟩ := q
      have h1 : x = Sum.inl a := h1
      have h2 : y = V.bl true := h2
      rw [h1, h2]
theorem is_set {ks : List Int} : Paired (fun (p : Key × V) (q : Key × Slot) => p.1 = q.1 ∧ q.2.P F p.2) (ks.map fun n => ((Sum.inl n : Key), V.bl true)) (ks.map fun n => ((Sum.inl n : Key), bS true)) := by
  induction ks with
  | nil => exact .nil
  | cons a l ih => exact .cons ⟨rfl, rfl⟩ ih
theorem put_set (ks : List Int) (n : Int) : putK (ks.map fun n => ((Sum.inl n : Key), V.bl true)) (Sum.inl n) (V.bl true) = (addI ks n).map fun n => ((Sum.inl n : Key), V.bl true) := by
  unfold putK addI
  have e : ((ks.map fun n => ((Sum.inl n : Key), V.bl true)).any fun kv => decide (kv.1 = Sum.inl n)) = decide (n ∈ ks) := by
    rw [List.any_map, Bool.eq_iff_iff, decide_eq_true_iff, List.any_eq_true]
    constructor
    · rintro ⟨x, hx, hh⟩
      have := Sum.inl.inj (of_decide_eq_true hh)
      rw [← this]
      exact hx
    · intro h
      exact ⟨n, h, decide_eq_true rfl⟩
  rw [e]
  by_cases h : n ∈ ks
  · rw [decide_eq_true h, if_pos rfl, if_pos h, List.map_map]
    apply List.map_congr_left
    intro x hx
    show (if (Sum.inl x : Key) = Sum.inl n then _ else _) = _
    split <;> rfl
  · rw [decide_eq_false h, if_neg Bool.false_ne_true, if_neg h, List.map_append]
    rfl
theorem q_dputB {ks : List Int} {n : Int} (s : St F0 H0 F H σ δ) (hi : δ[i]? = some (.ow (setO ks))) (hz : ks.length < 100000) (h : EvE te δ (.v (bS true))) (hb : EvE tb δ (.v (iS n)))
    (k : ∀ σ' F' H', St F0 H0 F' H' σ' (δ.set i (.ow (setO (addI ks n)))) → tz D σ' H') : tSeq (sDPut (tVar i) tb te) tz D σ H := by
  refine h F0 H0 F H σ s _ fun v F1 H1 g1 a1 => ?_
  have s1 := s.grow g1
  obtain ⟨p, ho, e, hp, kv, rfl, pv⟩ := s1.loc hi
  refine ⟨.ref p, e, hb F0 H0 F1 H1 σ s1 _ fun y F2 H2 g2 a2 => ?_⟩
  have hp2 := g2.hh p _ hp
  have ek := set_is pv
  subst ek
  have a1' : v = V.bl true := a1
  have a2' : y = V.int n := a2
  subst a1'
  subst a2'
  refine ⟨p, _, rfl, DPut.k (k := Sum.inl n) hp2 (by rw [List.length_map]; exact sizeLt hz), ?_⟩
  rw [put_set]
  exact k _ F2 _ ((s1.grow g2).mut hi e ⟨_, rfl, is_set⟩)
theorem set_keys {ks : List Int} : (ks.map fun n => ((Sum.inl n : Key), bS true)).map (·.1) = ks.map Sum.inl := by
  rw [List.map_map]
  rfl
end
end J

/-! pairs of own objects; loops over a dict; list(d) -/
namespace J
open PySem PySem.Spec L2 PyProof.Rows
section
variable {K : PySem.W.Frag} {F0 H0 F H : Hp} {σ : L2.St} {δ es : List Ent} {te tb ta tk tv : TE} {tr : TA} {tz tu : TS} {D : Ends} {i j i1 i2 : Nat} {S : Slot} {e1 e2 : Ent} {o o1 o2 : Own}
/-! ### a tuple of two own objects -/
def EvP (te : TE) (δ : List Ent) (o1 o2 : Own) : Prop := ∀ (F0 H0 F H : Hp) (σ : L2.St), St F0 H0 F H σ δ → ∀ Q : VK, (∀ t p1 p2 h1 h2 F' H', Grow F H F' H' → F' t = some (.tup [.ref p1, .ref p2]) → (H p1 = none ∧ H p2 = none) → (F' p1 = none ∧ F' p2 = none) → (H' p1 = some h1 ∧ H' p2 = some h2) → p1 ≠ p2 → (o1.P F' p1 h1 ∧ o2.P F' p2 h2) → Q (.ref t) H') → te σ H Q
theorem ep_call {R : Rel} {E : XK} (h : EvAs tr δ es) (hR : R es (.p o1 o2)) : EvP (tCall (SpOf R) [] E tr) δ o1 o2 := fun F0 H0 F H σ s Q q =>
  h F0 H0 F H σ s _ fun vs F1 H1 g1 a1 => ⟨F1, es, .p o1 o2, g1.fh, (s.grow g1).tt, pair_app a1, hR, fun t p1 p2 h1 h2 F' H' g ht hn hf hp hne z => q t p1 p2 h1 h2 F' H' (g1.trans g) ht ⟨g1.hh.free hn.1, g1.hh.free hn.2⟩ hf hp hne z⟩
theorem ev_ixP0 (h : EvP te δ o1 o2) (h0 : EvE tb δ (.v (iS 0))) : EvE (tIx K te tb) δ (.bo o1) := fun F0 H0 F H σ s Q q =>
  .inl (h F0 H0 F H σ s _ fun t p1 p2 h1 h2 F' H' g ht hn hf hp hne z => h0 F0 H0 F' H' σ (s.grow g) _ fun v F2 H2 g2 a2 => by
    have a2' : v = V.int 0 := a2
    subst a2'
    exact .inr (.inl ⟨t, [.ref p1, .ref p2], 0, .ref p1, rfl, rfl, SqT.of ((g2.fh t _ (g2.ff t _ ht))), atI_nat (xs := [V.ref p1, V.ref p2]) (j := 0) rfl, q _ F2 H2 (g.trans g2) ⟨p1, h1, rfl, g2.hh p1 _ hp.1, o1.mono g2.ff z.1⟩⟩))
/-- one more own object, that no slot holds yet -/
theorem St.put (s : St F0 H0 F H σ δ) {p : Addr} {ho : HO} (h0 : H0 p = none) (hf : F p = none) (hp : H p = some ho) (q : o.P F p ho) (away : ∀ {m : Nat} {o3 : Own}, δ[m]? = some (.ow o3) → σ[m]? = some (some (V.ref p)) → False) (away2 : ∀ {m : Nat} {C : Addr} {fs : List (Str × Own)}, δ[m]? = some (.ni C fs) → NiA F σ m p → False) :
    St F0 H0 F H (σ.set i (some (.ref p))) (δ.set i (.ow o)) where
  g := s.g
  tt := s.tt
  ni := fun k C fs h => by
    rcases get_set h with ⟨rfl, e, hl⟩ | ⟨ne, h⟩
    · cases e
    · obtain ⟨p, dx, fv, e, q⟩ := s.ni k C fs h
      exact ⟨p, dx, fv, by rw [List.getElem?_set_ne (fun z => ne z.symm)]; exact e, q⟩
  sepn := fun k j o2 a C fs h1 h2 h3 h4 => by
    rcases get_set h1 with ⟨_, e, hl⟩ | ⟨ne1, g1⟩
    · cases e
    · have g3 := h3.unset fun z => ne1 z.symm
      rcases get_set h2 with ⟨z2, e, hl⟩ | ⟨ne2, g2⟩
      · rw [z2, List.getElem?_set_self (by rw [s.len]; exact hl)] at h4
        have ea : p = a := by cases h4; rfl
        rw [← ea] at g3
        exact away2 g1 g3
      · rw [List.getElem?_set_ne (fun z => ne2 z.symm)] at h4
        exact s.sepn k j o2 a C fs g1 g2 g3 h4
  len := by rw [List.length_set, List.length_set]; exact s.len
  at_ := fun m S' h => by
    rcases get_set h with ⟨rfl, e', hl⟩ | ⟨ne, h⟩
    · cases e'
    · obtain ⟨w, e', q⟩ := s.at_ m S' h
      exact ⟨w, by rw [List.getElem?_set_ne (fun z => ne z.symm)]; exact e', q⟩
  ow := fun m o' h => by
    rcases get_set h with ⟨rfl, e', hl⟩ | ⟨ne, h⟩
    · cases e'
      exact ⟨p, ho, List.getElem?_set_self (by rw [s.len]; exact hl), h0, hf, hp, q⟩
    · obtain ⟨w, ho', e', q⟩ := s.ow m o' h
      exact ⟨w, ho', by rw [List.getElem?_set_ne (fun z => ne z.symm)]; exact e', q⟩
  bo := fun m o' h => by
    rcases get_set h with ⟨rfl, e', hl⟩ | ⟨ne, h⟩
    · cases e'
    · obtain ⟨w, ho', e', q⟩ := s.bo m o' h
      exact ⟨w, ho', by rw [List.getElem?_set_ne (fun z => ne z.symm)]; exact e', q⟩
  sep := fun m l o3 o4 a ne h1 h2 h3 h4 => by
    rcases get_set h1 with ⟨z1, e1', l1⟩ | ⟨n1, g1⟩
    · rcases get_set h2 with ⟨z2, e2', l2⟩ | ⟨n2, g2⟩
      · exact ne (z1.trans z2.symm)
      · rw [z1, List.getElem?_set_self (by rw [s.len]; exact l1)] at h3
        rw [List.getElem?_set_ne (fun z => n2 z.symm)] at h4
        cases h3
        exact away g2 h4
    · rw [List.getElem?_set_ne (fun z => n1 z.symm)] at h3
      rcases get_set h2 with ⟨z2, e2', l2⟩ | ⟨n2, g2⟩
      · rw [z2, List.getElem?_set_self (by rw [s.len]; exact l2)] at h4
        cases h4
        exact away g1 h3
      · rw [List.getElem?_set_ne (fun z => n2 z.symm)] at h4
        exact s.sep m l o3 o4 a ne g1 g2 h3 h4
theorem q_tup2P (s : St F0 H0 F H σ δ) (h : EvP te δ o1 o2) (hi : i1 < δ.length) (k : ∀ σ' F' H', St F0 H0 F' H' σ' ((δ.set i1 (.ow o1)).set i2 (.ow o2)) → tz D σ' H') :
    tSeq (tAsg te (gTup K 2 (gCons (gName i1) (gCons (gName i2) gNil)))) tz D σ H := by
  refine h F0 H0 F H σ s _ fun t p1 p2 h1 h2 F' H' g ht hn hf hp hne z => ?_
  have s1 := s.set_ow (i := i1) g hn.1 hf.1 hp.1 z.1
  have s2 := s1.put (i := i2) (s.g.hh.free hn.2) hf.2 hp.2 z.2 (fun {m o3} h5 h6 => by
    by_cases e : m = i1
    · subst e
      rw [List.getElem?_set_self (by rw [s.len]; exact hi)] at h6
      cases h6
      exact hne rfl
    · rw [List.getElem?_set_ne (fun z => e z.symm)] at h5 h6
      obtain ⟨p, ho, e1, _, _, e2, _⟩ := s.ow m o3 h5
      rw [h6] at e1
      cases e1
      rw [hn.2] at e2
      cases e2) fun {m C fs} h5 h6 => by
    rcases get_set h5 with ⟨rfl, e, _⟩ | ⟨ne, h5⟩
    · cases e
    · have h6 := h6.unset fun z => ne z.symm
      obtain ⟨p', dx, fv, e', hp', nd, z'⟩ := s.ni m C fs h5
      obtain ⟨_, _, ho, hh⟩ := s.niA h5 (h6.back g.ff e' hp')
      rw [hn.2] at hh
      cases hh
  exact ⟨t, _, rfl, SqT.of (g.fh t _ ht |> fun _ => s1.fh t _ ht), rfl, _, _, rfl, _, _, rfl, rfl, k _ F' H' s2⟩
/-- return (a, b), both own -/
theorem q_retP (s : St F0 H0 F H σ δ) (h1 : δ[i1]? = some (.ow o1)) (h2 : δ[i2]? = some (.ow o2)) (hne : i1 ≠ i2)
    (k : ∀ t p1 p2 h1 h2 F' H', Grow F0 H0 F' H' → F' t = some (.tup [.ref p1, .ref p2]) → (H0 p1 = none ∧ H0 p2 = none) → (F' p1 = none ∧ F' p2 = none) → (H' p1 = some h1 ∧ H' p2 = some h2) → p1 ≠ p2 → (o1.P F' p1 h1 ∧ o2.P F' p2 h2) → D.rt (.ref t) H') :
    tSeq (tRet (tTup (tCons (tVar i1) (tCons (tVar i2) tNil)))) tz D σ H := by
  obtain ⟨p1, x1, e1, z1, f1, hp1, q1⟩ := s.ow i1 o1 h1
  obtain ⟨p2, x2, e2, z2, f2, hp2, q2⟩ := s.ow i2 o2 h2
  refine ⟨.ref p1, e1, .ref p2, e2, Nat.le_trans (by decide : 2 ≤ 100000) (by decide), fun t ht => ?_⟩
  have g := Grow.newF (o := .tup [.ref p1, .ref p2]) s.fh ht
  have n1 : p1 ≠ t := fun e => by rw [e, ht] at hp1; cases hp1
  have n2 : p2 ≠ t := fun e => by rw [e, ht] at hp2; cases hp2
  exact k t p1 p2 x1 x2 _ _ (s.g.trans g) upd_same ⟨z1, z2⟩ ⟨by rw [upd_ne n1]; exact f1, by rw [upd_ne n2]; exact f2⟩ ⟨by rw [upd_ne n1]; exact hp1, by rw [upd_ne n2]; exact hp2⟩
    (fun e => s.sep i1 i2 o1 o2 p1 hne h1 h2 e1 (by rw [e]; exact e2)) ⟨o1.mono g.ff q1, o2.mono g.ff q2⟩

/-! ### a dict, locked -/
abbrev PK (F : Hp) (kv : List (List Key × V)) (kvs : List (List Key × Slot)) : Prop := Paired (fun (p : List Key × V) (q : List Key × Slot) => p.1 = q.1 ∧ q.2.P F p.2) kv kvs
theorem PK.mono {F F' : Hp} {kv : List (List Key × V)} {kvs : List (List Key × Slot)} (s : Same F F') (h : PK F kv kvs) : PK F' kv kvs := Paired.mapP h fun _ q z => ⟨z.1, q.2.mono s z.2⟩
def dicL (d : Addr) (od : Obj) (kv : List (List Key × V)) (kvs : List (List Key × Slot)) : Own := ⟨fun F a ho => a = d ∧ ho = .frz od (.dT kv) ∧ PK F kv kvs, fun s h => ⟨h.1, h.2.1, PK.mono s h.2.2⟩⟩
/-- what a locked loop leaves behind -/
def NXL (F0 H0 : Hp) (i : Nat) (lk : Own) (I : List Ent → Prop) : L2.St → Hp → Prop := fun σ H => ∃ F δ, St F0 H0 F H σ (δ.set i (.ow lk)) ∧ I δ
theorem q_nxL {I : List Ent → Prop} {lk : Own} {rt : VK} {bk ct : L2.St → Hp → Prop} {δ' : List Ent} (s : St F0 H0 F H σ δ') (δ : List Ent) (e : δ' = δ.set i (.ow lk)) (h : I δ) : tNext ⟨NXL F0 H0 i lk I, rt, bk, ct⟩ σ H := ⟨F, δ, e ▸ s, h⟩
theorem St.unlock {d : Addr} {od : Obj} {kv : List (List Key × V)} {kvs : List (List Key × Slot)} (s : St F0 H0 F H σ δ) (hi : δ[i]? = some (.ow (dicL d od kv kvs))) : H d = some (.frz od (.dT kv)) ∧ St F0 H0 F (upd H d (.dT kv)) σ (δ.set i (.ow (dicO kvs))) := by
  obtain ⟨p, ho, e, h0, hf, hp, rfl, rfl, pk⟩ := s.ow i _ hi
  exact ⟨hp, s.mut (o' := dicO kvs) hi e ⟨kv, rfl, pk⟩⟩
theorem keys_len {kv : List (List Key × V)} {kvs : List (List Key × Slot)} {L : List (List Int)} (pk : PK F kv kvs) (hk : kvs.map (·.1) = L.map kx) : kv.length = L.length := by
  have e := congrArg List.length ((dic_keys pk).trans hk)
  rw [List.length_map, List.length_map] at e
  exact e
theorem key_at {kv : List (List Key × V)} {kvs : List (List Key × Slot)} {L : List (List Int)} (pk : PK F kv kvs) (hk : kvs.map (·.1) = L.map kx) {n : Nat} {k : List Key} {v : V} (h : kv[n]? = some (k, v)) : ∃ x, L[n]? = some x ∧ k = kx x := by
  have e : (kv.map (·.1))[n]? = some k := by rw [List.getElem?_map, h]; rfl
  rw [dic_keys pk, hk, List.getElem?_map] at e
  cases q : L[n]? with
  | none => rw [q] at e; cases e
  | some x => rw [q] at e; exact ⟨x, rfl, (Option.some.inj e).symm⟩
/-- for x in d: the body may leave by a return -/
theorem q_forD {kvs : List (List Key × Slot)} {L : List (List Int)} (s : St F0 H0 F H σ δ) (hi : δ[i]? = some (.ow (dicO kvs))) (hk : kvs.map (·.1) = L.map kx) (hij : i ≠ j) (I : Nat → List Ent → Prop) (h0 : I 0 δ) (hI : ∀ n δ', I n δ' → δ'[i]? = some (.ow (dicO kvs)))
    (hs : ∀ d od kv F1, Base F0 H0 F1 → ∀ n x δ' σ' F' H', L[n]? = some x → I n δ' → St F1 H0 F' H' σ' ((δ'.set i (.ow (dicL d od kv kvs))).set j (.v (tpS x))) →
      tu ⟨NXL F1 H0 i (dicL d od kv kvs) (I (n + 1)), fun v H' => H' d = some (.frz od (.dT kv)) ∧ D.rt v (upd H' d (.dT kv)), fun σ' H' => H' d = some (.frz od (.dT kv)) ∧ tz D σ' (upd H' d (.dT kv)), NXL F1 H0 i (dicL d od kv kvs) (I (n + 1))⟩ σ' H')
    (hd : ∀ δ' σ' F' H', I L.length δ' → St F0 H0 F' H' σ' δ' → tz D σ' H') : tSeq (tLock (tFor (iAny K (tVar i)) (gName j) tu)) tz D σ H := by
  obtain ⟨d, ho, e, z0, zf, hp, kv, rfl, pk⟩ := s.ow i _ hi
  have hl := keys_len pk hk
  refine ⟨d, .dT kv, hp, trivial, fun od => ?_⟩
  have s1 : St F0 H0 F (upd H d (.frz od (.dT kv))) σ (δ.set i (.ow (dicL d od kv kvs))) := s.mut hi e ⟨rfl, rfl, pk⟩
  have b1 : Base F0 H0 F := fun g => s1.base g
  refine .inr (.inr ⟨.ref d, e, d, od, rfl, .inr ⟨kv, upd_same, ?_⟩⟩)
  refine ⟨fun n m σ' H' => m = L.length - n ∧ n ≤ L.length ∧ NXL F H0 i (dicL d od kv kvs) (I n) σ' H', ⟨L.length, by simp, Nat.zero_le _, F, δ, s1.rebase, h0⟩, ?_⟩
  rintro n m σ' H' ⟨rfl, hn, F', δ', s', hI'⟩
  have hi' : (δ'.set i (.ow (dicL d od kv kvs)))[i]? = some (.ow (dicL d od kv kvs)) := List.getElem?_set_self (List.getElem?_eq_some_iff.mp (hI n δ' hI')).1
  obtain ⟨hfr, su⟩ := s'.unlock hi'
  rw [List.set_set] at su
  by_cases hlt : n < L.length
  · refine .inr ⟨⟨hfr, by omega⟩, NXL F H0 i (dicL d od kv kvs) (I (n + 1)), fun σ2 H2 h2 => ⟨L.length - (n + 1), by omega, rfl, hlt, h2⟩, ?_⟩
    rintro x H2 ⟨rfl, k, v, q, hkv, rfl, hq⟩
    obtain ⟨y, hy, rfl⟩ := key_at pk hk hkv
    rw [kx_V] at hq
    refine hs d od kv F b1 n y δ' _ F' _ hy hI' (s'.set_v (tp_of (s'.tt q _ hq)))
  · have en : n = L.length := by omega
    subst en
    refine .inl ⟨⟨hfr, by omega⟩, hfr, ?_⟩
    have e2 : δ'.set i (.ow (dicO kvs)) = δ' := by
      have hh := hI _ δ' hI'
      obtain ⟨hlt, e3⟩ := List.getElem?_eq_some_iff.mp hh
      rw [← e3]
      exact List.set_getElem_self hlt
    rw [e2] at su
    exact hd δ' σ' F' _ hI' (su.unbase b1)
/-- return, out of a loop over a dict -/
theorem q_retL {F1 : Hp} {d : Addr} {od : Obj} {kv : List (List Key × V)} {kvs : List (List Key × Slot)} {nx bk ct : L2.St → Hp → Prop} {rt : VK} (s : St F1 H0 F H σ δ) (bs : Base F0 H0 F1) (hi : δ[i]? = some (.ow (dicL d od kv kvs))) (h : EvE te δ (.v S)) (k : ∀ v F' H', Grow F0 H0 F' H' → S.P F' v → rt v H') :
    tSeq (tRet te) tz ⟨nx, fun v H' => H' d = some (.frz od (.dT kv)) ∧ rt v (upd H' d (.dT kv)), bk, ct⟩ σ H := by
  refine h F1 H0 F H σ s _ fun v F' H' g a => ?_
  obtain ⟨hfr, su⟩ := (s.grow g).unlock hi
  exact ⟨hfr, k v F' _ (bs su.g) a⟩
/-- d[x], d locked -/
theorem ev_dgetL {x : List Int} {d : Addr} {od : Obj} {kv : List (List Key × V)} {kvs : List (List Key × Slot)} {r : List Key × Slot} (hi : δ[i]? = some (.ow (dicL d od kv kvs))) (hb : EvE tb δ (.v (tpS x))) (hf : kvs.find? (fun q => decide (q.1 = kx x)) = some r) : EvE (tIx K (tVar i) tb) δ (.v r.2) := fun F0 H0 F H σ s Q q =>
  .inr (by
    obtain ⟨p, ho, e, _, _, hp, rfl, rfl, pk⟩ := s.ow i _ hi
    refine ⟨.ref p, e, hb F0 H0 F H σ s _ fun y F2 H2 g2 a2 => ?_⟩
    obtain ⟨b, rfl, hb2, _⟩ := fv_of a2
    have z := find_keys (k := kx x) (pk.mono g2.ff)
    rw [hf] at z
    obtain ⟨w, hw, pw⟩ := z
    exact ⟨p, w, rfl, .inr ⟨kv, kx x, b, .inr ⟨od, g2.hh p _ hp⟩, rfl, by rw [kx_V]; exact g2.fh b _ hb2, hw.symm⟩, q w F2 H2 g2 pw⟩)
/-- [te for j in d], d locked -/
theorem eo_lcD {d : Addr} {od : Obj} {kv : List (List Key × V)} {kvs : List (List Key × Slot)} {L : List (List Int)} (f : List Int → Slot) (hi : δ[i]? = some (.ow (dicL d od kv kvs))) (hk : kvs.map (·.1) = L.map kx) (hz : L.length ≤ 40000) (he : ∀ x ∈ L, EvE te (δ.set j (.v (tpS x))) (.v (f x))) :
    EvO (tLc (iAny K (tVar i)) (gName j) tYes te [j]) δ (lstO (L.map f)) := fun F0 H0 F H σ s Q q => by
  obtain ⟨p, ho, e, _, _, hp, rfl, rfl, pk⟩ := s.ow i _ hi
  have hl := keys_len pk hk
  refine .inr (.inr ⟨.ref p, e, p, od, rfl, .inr ⟨kv, hp, fun Dl hD => ?_⟩⟩)
  refine ⟨fun n m H' => m = L.length - n ∧ n ≤ L.length ∧ LcI F H Dl ((L.take n).map f) H', ⟨L.length, by simp, Nat.zero_le _, LcI.start s.fh hD⟩, ?_⟩
  rintro n m H' ⟨rfl, hn, hI⟩
  obtain ⟨F', acc, g, hf', hp', pa⟩ := id hI
  have hfr := g.hh p _ hp
  by_cases hlt : n < L.length
  · refine .inr ⟨⟨hfr, by omega⟩, LcI F H Dl ((L.take (n + 1)).map f), fun H2 h2 => ⟨L.length - (n + 1), by omega, rfl, hlt, h2⟩, ?_⟩
    rintro x H2 ⟨rfl, k, v, a, hkv, rfl, hq⟩
    obtain ⟨y, hy, rfl⟩ := key_at pk hk hkv
    rw [kx_V] at hq
    have hm := List.mem_of_getElem? hy
    refine ⟨wipe1, lc_turn (b := true) (T := tpS y) (S := f y) (ss := (L.take n).map f) s hD (by rw [List.length_map, List.length_take]; omega) (fun F2 g2 => tp_of (g2.tt s.tt a _ hq)) hI et_yes (fun _ => he y hm) fun H3 z => ?_⟩
    rw [if_pos rfl] at z
    rw [List.take_add_one, hy, List.map_append]
    exact z
  · have en : n = L.length := by omega
    subst en
    rw [List.take_length] at pa
    exact .inl ⟨⟨hfr, by omega⟩, q Dl _ F' H' g hD hf' hp' ⟨acc, rfl, pa⟩⟩
/-! ### list(d) -/
def rListDT : List V → Hp → VK → Prop := fun xs H Q => ∃ d kvs, xs = [V.ref d] ∧ Rd H d (.dT kvs) ∧ ∀ p bs, H p = none → IsKeys H kvs bs → Q (.ref p) (upd H p (.lst (bs.map V.ref)))
def rLstW (K : PySem.W.Frag) : List V → Hp → VK → Prop := fun xs H Q => rLstJ K xs H Q ∨ rListDT xs H Q
theorem kc_listW {X : Cx} (hK : X.K = K) (hc : X.calm = true) : CallR X (.type "list") (rLstW K) := CallR.or (kc_list hK) (call_list_dT hc)
theorem keys_slots (tt : TupIn F H) {kv : List (List Key × V)} {bs : List Addr} (hb : IsKeys H kv bs) : ∀ {L : List (List Int)}, kv.map (·.1) = L.map kx → PairS F (bs.map V.ref) (L.map tpS) := by
  unfold IsKeys at hb
  induction hb with
  | nil =>
    intro L hk
    cases L with
    | nil => exact .nil
    | cons _ _ => cases hk
  | @cons a b as bs' h t ih =>
    intro L hk
    cases L with
    | nil => cases hk
    | cons x L =>
      rw [List.map_cons, List.map_cons] at hk
      obtain ⟨h1, h2⟩ := List.cons.inj hk
      rw [h1, kx_V] at h
      exact .cons (tp_of (tt b _ h)) (ih h2)
theorem eo_listD {kvs : List (List Key × Slot)} {L : List (List Int)} (h : EvE te δ e1) (hr : IsR e1 (dicO kvs)) (hk : kvs.map (·.1) = L.map kx) : EvO (tCB (rLstW K) (tCons te tNil)) δ (lstO (L.map tpS)) := fun F0 H0 F H σ s Q q =>
  h F0 H0 F H σ s _ fun v F1 H1 g1 a1 => by
    have s1 := s.grow g1
    obtain ⟨p, ho, rfl, hp, kv, rfl, pk⟩ := hr.get a1 g1.fh
    exact .inr ⟨p, kv, rfl, .inl hp, fun r bs hr hb => q r _ F1 _ (g1.trans (Grow.newH g1.fh hr)) (g1.hh.free hr) (g1.fh.free hr) upd_same ⟨_, rfl, keys_slots s1.tt hb ((dic_keys pk).trans hk)⟩⟩
end
end J

/-! list(range(a, b, c)) -/
namespace J
open PySem PySem.Spec L2 PyProof.Rows
def tLstRg3 (ta : TA) : TE := fun σ H Q => ta σ H fun vs H1 => ∃ (i j c : Int) (n : Nat), vs = [.int i, .int j, .int c] ∧ RgC i j c n ∧ n ≤ 100000 ∧ ∀ q, H1 q = none → Q (.ref q) (upd H1 q (.lst ((List.range n).map fun k : Nat => V.int (i + (k : Int) * c))))
theorem pe_listRg3 {X : Cx} {a b c : Expr} {ta : TA} {p pos p2 pos2 : Pos} (hcm : X.calm = true) (hg : Gl X "list") (hm : X.mg "list" = none) (hg2 : Gl X "range") (hm2 : X.mg "range" = none) (ha : PA X [a, b, c] ta)
    (na : starEach [Expr.Call (.Name "range" p2) [a, b, c] [] pos2] X.env = (false, eval (Expr.Call (.Name "range" p2) [a, b, c] [] pos2) X.env) :: starEach [] X.env := by rfl)
    (hs : starEach [a, b, c] X.env = (false, eval a X.env) :: starEach [b, c] X.env := by rfl) (hpl : (backTo pos2 (starEach [b, c] X.env)).any (·.1) = false := by rfl) :
    PE X (.Call (.Name "list" p) [.Call (.Name "range" p2) [a, b, c] [] pos2] [] pos) (tLstRg3 ta) := by
  refine ⟨fun pins s σ H Q I h => ?_⟩
  have key : wpAny (model X.prog X.w) X.A (eval (Expr.Call (.Name "range" p2) [a, b, c] [] pos2) X.env) (fun x s' => ∃ r i j k t u v n H', x = .ref r ∧ IsRange s'.heap r i j k t u v ∧ Inv X pins σ H' s' ∧ RgC i j k n ∧ n ≤ 100000 ∧ ∀ q, H' q = none → Q (.ref q) (upd H' q (.lst ((List.range n).map fun m : Nat => V.int (i + (m : Int) * k))))) X.xe s := by
    refine Call_ (ld_blt I hg2 hm2 boot_range (PyProof.Rows.callWith_type1 (thn (ha.run pos2 pins s σ H _ I h) fun us s1 ⟨vs, H1, I1, r1, q1⟩ => ?_) hs hpl))
    obtain ⟨i, j, k, n, e, ⟨c0, c1, c2, c3⟩, hn, q⟩ := q1
    subst e
    cases r1 with
    | cons r rr =>
      cases rr with
      | cons r' rr =>
        cases rr with
        | cons r'' rr =>
          cases rr
          obtain ⟨t, rfl⟩ := r
          obtain ⟨t', rfl⟩ := r'
          obtain ⟨t'', rfl⟩ := r''
          refine call_range_3 c0 ?_ (.inl (PyProof.noPylong_small c1))
          exact ⟨_, i, j, k, _, _, _, n, H1, rfl, IsRange.new _ _ _ _ _ _ _, I1.kept fun b u e => Heap.get?_push_of_some _ e, ⟨c0, c1, c2, c3⟩, hn, q⟩
  refine Call_ (ld_blt I hg hm boot_list (PyProof.Rows.callWith_type1 (args_cons (thn key fun x s1 ⟨r, i, j, k, t, u, v, n, H1, ex, hr, I1, ⟨c0, c1, c2, c3⟩, hn, q⟩ => args_nil ?_) na) na))
  subst ex
  refine call_list_range (n := n) (I1.ok.hd hcm) hr c2 (by rw [c3]) (by omega) fun h' tk acc c' hk e' hi => ?_
  have hl : acc.toList.length = n := by rw [Array.length_toList]; exact hi.1
  have hv : Vals ((List.range n).map fun m : Nat => V.int (i + (m : Int) * k)) acc.toList := by
    rw [← hl]
    refine vals_of_get acc.toList _ fun m u hm => ?_
    obtain ⟨t, rfl⟩ := hi.2 m u (by rw [← hm, Array.getElem?_toList])
    exact ⟨t, rfl⟩
  refine ⟨.ref s1.heap.objs.size, upd H1 s1.heap.objs.size (.lst ((List.range n).map fun m : Nat => V.int (i + (m : Int) * k))), I1.laid hk (Nat.le_refl _) (show ObjOk X.prog X.w _ _ _ (.lst ((List.range n).map fun m : Nat => V.int (i + (m : Int) * k))) from ⟨?_, acc.toList, c', hv, ?_⟩), rfl, q _ (I1.hok.fresh (Nat.le_refl _))⟩
  · rw [List.length_map, List.length_range, sizeLine_eq]; omega
  · rw [Array.toArray_toList]; exact e'
theorem eo_listRg3 {ta : TA} {δ : List Ent} {i j c : Int} {n : Nat} (h : EvAs ta δ [.v (iS i), .v (iS j), .v (iS c)]) (hr : RgC i j c n) (hn : n ≤ 100000) : EvO (tLstRg3 ta) δ (lstO (((List.range n).map fun k : Nat => i + (k : Int) * c).map iS)) := fun F0 H0 F H σ s Q q =>
  h F0 H0 F H σ s _ fun vs F1 H1 g1 a1 => by
    have e : vs = [.int i, .int j, .int c] := by
      cases a1 with
      | cons p1 t => cases t with
        | cons p2 t => cases t with
          | cons p3 t => cases t with
            | nil =>
              have p1 : _ = V.int i := p1
              have p2 : _ = V.int j := p2
              have p3 : _ = V.int c := p3
              rw [p1, p2, p3]
    refine ⟨i, j, c, n, e, hr, hn, fun r hr => q r _ F1 _ (g1.trans (Grow.newH g1.fh hr)) (g1.hh.free hr) (g1.fh.free hr) upd_same ⟨_, rfl, ?_⟩⟩
    have z := PairS.ofk (F := F1) V.int ((List.range n).map fun k : Nat => i + (k : Int) * c)
    rw [List.map_map] at z
    exact z
end J

/-! instances whose fields are own objects -/
namespace J
open PySem PySem.Spec L2 PyProof.Rows
section
variable {K : PySem.W.Frag} {F0 H0 F H F' H' : Hp} {σ : L2.St} {δ es : List Ent} {te tb ta : TE} {tr : TA} {tz : TS} {D : Ends} {i j : Nat} {S : Slot} {e1 : Ent} {o o' : Own} {C : Addr} {fs : List (Str × Own)} {f : Str}
def EvN (te : TE) (δ : List Ent) (C : Addr) (fs : List (Str × Own)) : Prop := ∀ (F0 H0 F H : Hp) (σ : L2.St), St F0 H0 F H σ δ → ∀ Q : VK, (∀ p dx fv F' H', Grow F H F' H' → F' p = some (.ins C dx fv) → (fv.map (·.2)).Nodup → NiF H F' H' fv fs → Q (.ref p) H') → te σ H Q
theorem NiF.back {fv : List (Str × V)} (s : Same H0 H) (h : NiF H F' H' fv fs) : NiF H0 F' H' fv fs := Paired.mapP h fun _ b ⟨e, q, ho, e1, h0, hf, hp, z⟩ => ⟨e, q, ho, e1, s.free h0, hf, hp, z⟩
theorem en_call {R : Rel} {E : XK} (h : EvAs tr δ es) (hR : R es (.n C fs)) : EvN (tCall (SpOf R) [] E tr) δ C fs := fun F0 H0 F H σ s Q q =>
  h F0 H0 F H σ s _ fun vs F1 H1 g1 a1 => ⟨F1, es, .n C fs, g1.fh, (s.grow g1).tt, pair_app a1, hR, fun p dx fv F' H' g hp nd z => q p dx fv F' H' (g1.trans g) hp nd (z.back g1.hh)⟩
theorem St.set_ni (s : St F0 H0 F H σ δ) (g : Grow F H F' H') {p dx : Addr} {fv : List (Str × V)} (hp : F' p = some (.ins C dx fv)) (nd : (fv.map (·.2)).Nodup) (z : NiF H F' H' fv fs) : St F0 H0 F' H' (σ.set i (some (.ref p))) (δ.set i (.ni C fs)) where
  g := s.g.trans g
  tt := g.tt s.tt
  len := by rw [List.length_set, List.length_set]; exact s.len
  at_ := fun j S' h => by
    rcases get_set h with ⟨_, e, _⟩ | ⟨ne, h⟩
    · cases e
    · obtain ⟨w, e, q⟩ := (s.grow g).at_ j S' h
      exact ⟨w, by rw [List.getElem?_set_ne (fun z => ne z.symm)]; exact e, q⟩
  ow := fun j o' h => by
    rcases get_set h with ⟨_, e, _⟩ | ⟨ne, h⟩
    · cases e
    · obtain ⟨w, ho, e, q⟩ := (s.grow g).ow j o' h
      exact ⟨w, ho, by rw [List.getElem?_set_ne (fun z => ne z.symm)]; exact e, q⟩
  bo := fun j o h => by
    rcases get_set h with ⟨_, e, _⟩ | ⟨ne, h⟩
    · cases e
    · obtain ⟨w, ho, e, q⟩ := (s.grow g).bo j o h
      exact ⟨w, ho, by rw [List.getElem?_set_ne (fun z => ne z.symm)]; exact e, q⟩
  sep := fun j k o1 o2 a ne h1 h2 h3 h4 => by
    rcases get_set h1 with ⟨_, e, _⟩ | ⟨ne1, g1⟩
    · cases e
    · rcases get_set h2 with ⟨_, e, _⟩ | ⟨ne2, g2⟩
      · cases e
      · rw [List.getElem?_set_ne (fun z => ne1 z.symm)] at h3
        rw [List.getElem?_set_ne (fun z => ne2 z.symm)] at h4
        exact s.sep j k o1 o2 a ne g1 g2 h3 h4
  ni := fun k C' fs' h => by
    rcases get_set h with ⟨z1, e, hl⟩ | ⟨ne, g1⟩
    · cases e
      exact ⟨p, dx, fv, by rw [z1]; exact List.getElem?_set_self (by rw [s.len]; exact hl), hp, nd, z.back s.g.hh⟩
    · obtain ⟨p', dx', fv', e, q⟩ := (s.grow g).ni k C' fs' g1
      exact ⟨p', dx', fv', by rw [List.getElem?_set_ne (fun z => ne z.symm)]; exact e, q⟩
  sepn := fun k j o a C' fs' h1 h2 h3 h4 => by
    rcases get_set h2 with ⟨_, e, _⟩ | ⟨ne2, g2⟩
    · cases e
    · rw [List.getElem?_set_ne (fun z => ne2 z.symm)] at h4
      rcases get_set h1 with ⟨z1, e, hl⟩ | ⟨ne1, g1⟩
      · obtain ⟨p', C2, dx', fv', e', hp', hm⟩ := h3
        rw [z1, List.getElem?_set_self (by rw [s.len]; exact hl)] at e'
        cases e'
        rw [hp] at hp'
        cases hp'
        have hH := (z.mem hm).1
        obtain ⟨w, ho, e2, _, _, hw, _⟩ := s.ow j o g2
        rw [h4] at e2
        cases e2
        rw [hH] at hw
        cases hw
      · exact (s.grow g).sepn k j o a C' fs' g1 g2 (h3.unset fun z => ne1 z.symm) h4
theorem q_setN (s : St F0 H0 F H σ δ) (h : EvN te δ C fs) (k : ∀ σ' F' H', St F0 H0 F' H' σ' (δ.set i (.ni C fs)) → tz D σ' H') : tSeq (tAsg te (gName i)) tz D σ H :=
  h F0 H0 F H σ s _ fun p dx fv F' H' g hp nd z => k _ F' H' (s.set_ni g hp nd z)
theorem NiF.look {fv : List (Str × V)} (h : NiF H0 F H fv fs) (hl : fs.lookup f = some o) : ∃ q ho, fv.lookup f = some (.ref q) ∧ F q = none ∧ H q = some ho ∧ o.P F q ho := by
  induction h with
  | nil => cases hl
  | @cons x y _ _ p _ ih =>
    obtain ⟨x1, x2⟩ := x
    obtain ⟨y1, y2⟩ := y
    obtain ⟨e, q, ho, e1, _, hf, hp, z⟩ := p
    have e : x1 = y1 := e
    have e1 : x2 = V.ref q := e1
    subst e
    subst e1
    rw [List.lookup_cons] at hl ⊢
    cases c : f == x1 with
    | true =>
      rw [c] at hl
      cases hl
      exact ⟨q, ho, rfl, hf, hp, z⟩
    | false =>
      rw [c] at hl
      exact ih hl
/-- a field, read -/
theorem ev_nif (hi : δ[i]? = some (.ni C fs)) (k : FldOk K C f) (hl : fs.lookup f = some o) : EvE (tFld K (tVar i) f) δ (.bo o) := fun F0 H0 F H σ s Q q => by
  obtain ⟨p, dx, fv, e, hp, nd, z⟩ := s.ni i C fs hi
  obtain ⟨a, ho, hlk, hf, ha, hz⟩ := z.look hl
  exact ⟨.ref p, e, p, C, dx, fv, .ref a, rfl, s.fh p _ hp, k.c, k.n, hlk, q _ F H (Grow.refl s.fh) ⟨a, ho, rfl, ha, hz⟩⟩
/-- some instance of the class, nothing told of its fields -/
def anyS (C : Addr) : Slot := ⟨fun F v => ∃ p dx fv, v = .ref p ∧ F p = some (.ins C dx fv), fun s ⟨p, dx, fv, e, h⟩ => ⟨p, dx, fv, e, s p _ h⟩⟩
theorem ev_niv (hi : δ[i]? = some (.ni C fs)) : EvE (tVar i) δ (.v (anyS C)) := fun F0 H0 F H σ s Q q => by
  obtain ⟨p, dx, fv, e, hp, nd, z⟩ := s.ni i C fs hi
  exact ⟨.ref p, e, q _ F H (Grow.refl s.fh) ⟨p, dx, fv, rfl, hp⟩⟩
theorem ty_any (k : InsK K C) : TyE K (.v (anyS C)) (.ref C) := fun F H x s a => by
  obtain ⟨p, dx, fv, rfl, hp⟩ := a
  exact .base (.ins (s p _ hp) k.cl k.ha k.hn k.tk k.hm)
/-! ### a field's object changed -/
def putN (f : Str) (o' : Own) : List (Str × Own) → List (Str × Own)
  | [] => []
  | (g, o) :: r => if (f == g) = true then (g, o') :: r else (g, o) :: putN f o' r
theorem look_mem {fv : List (Str × V)} {v : V} (h : fv.lookup f = some v) : v ∈ fv.map (·.2) := by
  induction fv with
  | nil => cases h
  | cons x r ih =>
    obtain ⟨x1, x2⟩ := x
    rw [List.lookup_cons] at h
    cases c : f == x1 with
    | true => rw [c] at h; cases h; exact List.mem_cons_self
    | false => rw [c] at h; exact List.mem_cons_of_mem _ (ih h)
theorem NiF.put {fv : List (Str × V)} {q : Addr} {u : HO} (h : NiF H0 F H fv fs) (nd : (fv.map (·.2)).Nodup) (hq : fv.lookup f = some (.ref q)) (z : o'.P F q u) : NiF H0 F (upd H q u) fv (putN f o' fs) := by
  induction h with
  | nil => cases hq
  | @cons x y r1 r2 p t ih =>
    obtain ⟨x1, x2⟩ := x
    obtain ⟨y1, y2⟩ := y
    obtain ⟨e, q1, ho, e1, h0, hf, hp, z1⟩ := p
    have e : x1 = y1 := e
    have e1 : x2 = V.ref q1 := e1
    subst e
    subst e1
    obtain ⟨n1, n2⟩ := List.nodup_cons.mp nd
    rw [List.lookup_cons] at hq
    cases c : f == x1 with
    | true =>
      rw [c] at hq
      cases hq
      have ep : putN f o' ((x1, y2) :: r2) = (x1, o') :: r2 := by
        show (if (f == x1) = true then (x1, o') :: r2 else (x1, y2) :: putN f o' r2) = _
        rw [c, if_pos rfl]
      rw [ep]
      exact .cons ⟨rfl, _, u, rfl, h0, hf, upd_same, z⟩ (NiF.frameH t fun ha e => n1 (by rw [← e]; exact ha))
    | false =>
      rw [c] at hq
      have hne : q1 ≠ q := fun e => n1 (by rw [e]; exact look_mem hq)
      have ep : putN f o' ((x1, y2) :: r2) = (x1, y2) :: putN f o' r2 := by
        show (if (f == x1) = true then (x1, o') :: r2 else (x1, y2) :: putN f o' r2) = _
        rw [c, if_neg Bool.false_ne_true]
      rw [ep]
      exact .cons ⟨rfl, q1, ho, rfl, h0, hf, by rw [upd_ne hne]; exact hp, z1⟩ (ih n2 hq)
def OneN (δ : List Ent) (i : Nat) : Prop := ∀ (k : Nat) (C : Addr) (fs : List (Str × Own)), k ≠ i → δ[k]? ≠ some (.ni C fs)
theorem St.mutN (s : St F0 H0 F H σ δ) (hi : δ[i]? = some (.ni C fs)) (hno : OneN δ i) {p dx : Addr} {fv : List (Str × V)} {q : Addr} {u : HO} (e : σ[i]? = some (some (.ref p))) (hp : F p = some (.ins C dx fv)) (hq : fv.lookup f = some (.ref q)) (z : o'.P F q u) (hn : ∀ vs, u ≠ .tup vs := by intro _ h; cases h) :
    St F0 H0 F (upd H q u) σ (δ.set i (.ni C (putN f o' fs))) := by
  obtain ⟨p', dx', fv', e', hp', nd, nz⟩ := s.ni i C fs hi
  rw [e] at e'
  cases e'
  rw [hp] at hp'
  cases hp'
  have hA : NiA F σ i q := ⟨p, C, dx, fv, e, hp, look_mem hq⟩
  obtain ⟨h0, hf, ho, hh⟩ := s.niA hi hA
  refine ⟨⟨s.g.ff, same_updR s.g.hh h0, same_updR s.g.fh hf, s.g.nw, fun _ => tt_upd s.tt hn⟩, by rw [List.length_set]; exact s.len, fun j S' h => ?_, fun j o2 h => ?_, fun j o2 h => ?_, fun j k o1 o2 a ne h1 h2 h3 h4 => ?_, tt_upd s.tt hn, fun k C' fs' h => ?_, fun k j o2 a C' fs' h1 h2 h3 h4 => ?_⟩
  · rcases get_set h with ⟨_, e, _⟩ | ⟨ne, h⟩
    · cases e
    · exact s.at_ j S' h
  · rcases get_set h with ⟨_, e, _⟩ | ⟨ne, g⟩
    · cases e
    · obtain ⟨w, ho2, e2, z0, zf, zp, zq⟩ := s.ow j o2 g
      have hne : w ≠ q := fun z => by
        subst z
        exact s.sepn i j o2 w C fs hi g hA e2
      exact ⟨w, ho2, e2, z0, zf, by rw [upd_ne hne]; exact zp, zq⟩
  · rcases get_set h with ⟨_, e, _⟩ | ⟨ne, h⟩
    · cases e
    · exact s.bo j o2 h
  · rcases get_set h1 with ⟨_, e, _⟩ | ⟨_, g1⟩
    · cases e
    · rcases get_set h2 with ⟨_, e, _⟩ | ⟨_, g2⟩
      · cases e
      · exact s.sep j k o1 o2 a ne g1 g2 h3 h4
  · rcases get_set h with ⟨z1, e3, _⟩ | ⟨ne, g⟩
    · cases e3
      exact ⟨p, dx, fv, by rw [z1]; exact e, hp, nd, nz.put nd hq z⟩
    · exact absurd g (hno k C' fs' ne)
  · rcases get_set h2 with ⟨_, e3, _⟩ | ⟨_, g2⟩
    · cases e3
    · rcases get_set h1 with ⟨z1, e3, _⟩ | ⟨ne, g1⟩
      · rw [z1] at h3
        exact s.sepn i j o2 a C fs hi g2 h3 h4
      · exact absurd g1 (hno k C' fs' ne)
theorem q_appN {ss : List Slot} (s : St F0 H0 F H σ δ) (hi : δ[i]? = some (.ni C fs)) (hno : OneN δ i) (k0 : FldOk K C f) (hl : fs.lookup f = some (lstO ss)) (h : EvE te δ (.v S)) (hz : ss.length < 100000) (k : ∀ σ' F' H', St F0 H0 F' H' σ' (δ.set i (.ni C (putN f (lstO (ss ++ [S])) fs))) → tz D σ' H') :
    tSeq (tDrop (tBM K "list" rAppend (tFld K (tVar i) f) (tCons te tNil))) tz D σ H := by
  obtain ⟨p, dx, fv, e, hp, nd, z⟩ := s.ni i C fs hi
  obtain ⟨a, ho, hlk, hf, ha, vs, rfl, pv⟩ := z.look hl
  refine ⟨.ref p, e, p, C, dx, fv, .ref a, rfl, s.fh p _ hp, k0.c, k0.n, hlk, .inl ⟨rfl, vs, SqL.of ha⟩, h F0 H0 F H σ s _ fun v F' H' g a1 => ?_⟩
  refine ⟨a, vs, v, rfl, rfl, g.hh a _ ha, by rw [pv.length]; exact sizeLt hz, ?_⟩
  exact k _ F' _ ((s.grow g).mutN hi hno e (g.ff p _ hp) hlk ⟨_, rfl, PairS.snoc (PairS.mono g.ff pv) a1⟩)
theorem q_clearN {ss : List Slot} (s : St F0 H0 F H σ δ) (hi : δ[i]? = some (.ni C fs)) (hno : OneN δ i) (k0 : FldOk K C f) (hl : fs.lookup f = some (lstO ss)) (k : ∀ σ' F' H', St F0 H0 F' H' σ' (δ.set i (.ni C (putN f (lstO []) fs))) → tz D σ' H') :
    tSeq (tDrop (tBM0 K "list" rClear (tFld K (tVar i) f))) tz D σ H := by
  obtain ⟨p, dx, fv, e, hp, nd, z⟩ := s.ni i C fs hi
  obtain ⟨a, ho, hlk, hf, ha, vs, rfl, pv⟩ := z.look hl
  exact ⟨.ref p, e, p, C, dx, fv, .ref a, rfl, s.fh p _ hp, k0.c, k0.n, hlk, .inl ⟨rfl, vs, SqL.of ha⟩, a, vs, rfl, rfl, ha, k _ F _ (s.mutN hi hno e hp hlk ⟨[], rfl, .nil⟩)⟩
end
end J

/-! __init__ that gives its instance own objects -/
namespace J
open PySem PySem.Spec L2 PyProof.Rows
def selX (p C : Addr) (l : List (Str × V)) : Own := ⟨fun _ a ho => a = p ∧ ∃ dx, ho = .ins C dx l, fun _ h => h⟩
section
variable {K : PySem.W.Frag} {F0 H0 F H : Hp} {σ : L2.St} {δ : List Ent} {te : TE} {tz : TS} {D : Ends} {i : Nat} {o : Own} {C p : Addr} {l : List (Str × V)} {fs : List (Str × Own)} {f : Str}
structure SelfN (F0 H0 F H : Hp) (σ : L2.St) (δ : List Ent) (i : Nat) (p C : Addr) (l : List (Str × V)) (fs : List (Str × Own)) : Prop where
  s : St F0 H0 F H σ δ
  hi : δ[i]? = some (.ow (selX p C l))
  z : NiF H0 F H l fs
  nd : (l.map (·.2)).Nodup
  far : ∀ a, V.ref a ∈ l.map (·.2) → a ≠ p
theorem putF_new {v : V} : ∀ {l : List (Str × V)}, l.lookup f = none → putF f v l = l ++ [(f, v)]
  | [], _ => rfl
  | (g, x) :: r, h => by
    rw [List.lookup_cons] at h
    cases c : f == g with
    | true => rw [c] at h; cases h
    | false =>
      rw [c] at h
      have ih := putF_new (v := v) h
      have hne : ¬ g = f := fun e => by rw [e, beq_self_eq_true] at c; cases c
      unfold putF
      rw [if_neg hne, ih]
      rfl
theorem q_selfN (n : SelfN F0 H0 F H σ δ i p C l fs) (h : EvO te δ o) (kf : FldOk K C f) (hl : l.lookup f = none) (hz : l.length < 900)
    (k : ∀ σ' F' H' q, SelfN F0 H0 F' H' σ' (δ.set i (.ow (selX p C (l ++ [(f, .ref q)])))) i p C (l ++ [(f, .ref q)]) (fs ++ [(f, o)]) → tz D σ' H') : tSeq (sFld K (tVar i) te f) tz D σ H := by
  refine h F0 H0 F H σ n.s _ fun q ho F1 H1 g1 hn hf hq zq => ?_
  have s1 := n.s.grow g1
  obtain ⟨p', u, e, hp, rfl, dx, rfl⟩ := s1.loc n.hi
  obtain ⟨p0, u0, e0, _, _, hp0, rfl, _⟩ := n.s.ow i _ n.hi
  have hqp : q ≠ p0 := fun z => by
    rw [z, hp0] at hn
    cases hn
  have hlen : i < δ.length := (List.getElem?_eq_some_iff.mp n.hi).1
  refine ⟨.ref p0, e0, p0, C, dx, l, rfl, hp, kf.c, kf.n, by omega, ?_⟩
  rw [putF_new hl]
  refine k σ F1 _ q ⟨s1.mut n.hi e0 ⟨rfl, dx, rfl⟩, List.getElem?_set_self hlen, ?_, ?_, ?_⟩
  · refine paired_snoc (NiF.frameH (n.z.grow g1) fun ha => n.far _ ha) ⟨rfl, q, ho, rfl, n.s.g.hh.free hn, hf, ?_, zq⟩
    rw [upd_ne hqp]
    exact hq
  · rw [List.map_append, List.nodup_append]
    refine ⟨n.nd, List.nodup_cons.mpr ⟨List.not_mem_nil, List.nodup_nil⟩, fun a ha c hc => ?_⟩
    have hc : c = V.ref q := List.mem_singleton.mp hc
    subst hc
    rintro rfl
    obtain ⟨_, _, ho2, h2⟩ := n.z.mem ha
    rw [hn] at h2
    cases h2
  · intro a ha
    rw [List.map_append] at ha
    rcases List.mem_append.mp ha with ha | ha
    · exact n.far a ha
    · have : V.ref a = V.ref q := List.mem_singleton.mp ha
      cases this
      exact hqp
end
end J

namespace J
open PySem PySem.Spec L2 PyProof.Rows
abbrev RelN := List Ent → List (Str × Own) → Prop
def SpInitN (C : Addr) (R : RelN) : Sp := fun vs H Q E => ∃ (p dx : Addr) (ws : List V) (F : Hp) (es : List Ent) (fs : List (Str × Own)), vs = .ref p :: ws ∧ H p = some (.ins C dx []) ∧ Same F (era H p) ∧ TupIn F (era H p) ∧
  Paired (ArgOk F (era H p)) ws es ∧ R es fs ∧ ∀ F' H' dx' fv, Grow F (era H p) F' (era H' p) → H' p = some (.ins C dx' fv) → F' p = none → (fv.map (·.2)).Nodup → (∀ a, V.ref a ∈ fv.map (·.2) → a ≠ p) → NiF (era H p) F' H' fv fs → Q .non H'
section
variable {P : Program} {w : World} {K : PySem.W.Frag} {mg : Str → Option Value} {base : Heap}
theorem upd_eq {H : Hp} {p : Addr} {u : HO} (h : H p = some u) : upd H p u = H := by
  funext b
  by_cases hb : b = p
  · subst hb
    rw [upd_same, h]
  · rw [upd_ne hb]
theorem init_okN {qual : Str} {st : Stmt} {f C : Addr} {fd : FuncData} {N ps : List Str} {k : Nat} {R : RelN} (F : Fun K "__init__" qual st f fd) (S : FnScope N ps (defScope st)) (len : ∀ es r, R es r → es.length + 1 = ps.length)
    (hbody : ∀ (cdv : Value) (A : Around) (outer : List Env) (s : Shared) (H : Hp) (E : XK), Room k (A.deeper (envOfC qual (defScope st) s.heap.objs.size f cdv)) →
      ∃ t, PSs (cxOf (CXJ P w) P w K mg base N qual (defScope st) f cdv A outer s H E) (defBody st) t ∧
        ∀ (p : Addr) (es : List Ent) (fs : List (Str × Own)) (F H0 H : Hp) (σ : L2.St) (D : Ends), R es fs → SelfN F H0 F H σ ((.ow (selX p C []) :: es) ++ List.replicate (N.length - (es.length + 1)) .un) 0 p C [] [] →
          (∀ σ' F' H' δ l, SelfN F H0 F' H' σ' δ 0 p C l fs → D.nx σ' H') → t D σ H) :
    FnOk P w K mg base (CXJ P w) (k + 1) f fd ps (SpInitN C R) := by
  refine okAny F S (fun vs H Q E ⟨p, dx, ws, F, es, r, e, _, _, _, ha, hR, _⟩ => by rw [e, List.length_cons, ha.length]; exact len es r hR) (fun cdv A outer s H vs Q E hr ⟨p, dx, ws, F, es, r, e, hp, sm, tt, ha, hR, k⟩ => ?_)
  obtain ⟨t, ht, hq⟩ := hbody cdv A outer s H E hr
  refine ⟨t, ht, ?_⟩
  subst e
  have hl := ha.length
  refine hq p es r F (era H p) H _ _ hR ?_ ?_
  · unfold L2.start
    rw [List.length_cons, hl]
    have z := St.self (k := N.length - (es.length + 1)) sm tt ha hp
    have z2 := z.mut (i := 0) (p := p) (ho := .ins C dx []) (o' := selX p C []) rfl rfl ⟨rfl, dx, rfl⟩
    rw [upd_eq hp] at z2
    exact ⟨z2, rfl, .nil, List.nodup_nil, fun a h => by cases h⟩
  · intro σ' F' H' δ l n
    obtain ⟨p', u, _, _, hf, hp', rfl, dx', rfl⟩ := n.s.ow 0 _ n.hi
    have g := n.s.g
    refine k F' H' dx' l ⟨g.ff, fun b o e => ?_, fun b o e => ?_, g.nw, fun t a vs e => g.tt t a vs (era_sub _ _ e)⟩ hp' hf n.nd n.far n.z
    · have hb : b ≠ p' := fun z => by
        rw [z, era_same] at e
        cases e
      rw [era_ne hb]
      exact g.hh b o e
    · have hb : b ≠ p' := ne_of_none e hf
      rw [era_ne hb]
      exact g.fh b o e
end
section
variable {te : TE} {ta : TA} {δ es : List Ent} {E : XK} {C : Addr} {fs : List (Str × Own)}
theorem en_make {RI : RelN} (h : EvAs ta δ es) (hR : RI es fs) : EvN (tMake C (SpInitN C RI) [] E ta) δ C fs := fun F0 H0 F H σ s Q q =>
  h F0 H0 F H σ s _ fun vs F1 H1 g1 a1 => fun x dx hx hd ne => by
    have g2 := made_grow g1.fh hx hd ne (u := .ins C dx [])
    refine ⟨x, dx, vs ++ [], F1, es, fs, rfl, upd_same, g2.fh, g2.tt (s.grow g1).tt, ?_, hR, ?_⟩
    · exact pair_app (Paired.mapP a1 fun _ _ z => z.grow g2)
    · intro F' H' dx' fv g hp hf nd far z
      refine ⟨rfl, ?_⟩
      have g3 := g2.trans g
      have sm : Same F' (upd F' x (.ins C dx' fv)) := same_upd hf
      have gg : Grow F1 H1 (upd F' x (.ins C dx' fv)) H' := by
        refine ⟨g3.ff.trans sm, fun b o e => era_sub b o (g3.hh b o e), fun b o e => ?_, fun a ha n => ?_, fun t a vs e => ?_⟩
        · by_cases hb : b = x
          · subst hb
            rw [upd_same] at e
            rw [← e]
            exact hp
          · rw [upd_ne hb] at e
            exact era_sub b o (g3.fh b o e)
        · have hne : a ≠ x := fun e => ha (by rw [e]; exact hx)
          rw [upd_ne hne]
          exact g3.nw a ha n
        · have hax : a ≠ x := fun z => by rw [z, hp] at e; cases e
          have e2 : era H' x a = some (.tup vs) := by rw [era_ne hax]; exact e
          exact sm _ _ (g3.tt t a vs e2)
      exact q x dx' fv _ H' (g1.trans gg) upd_same nd ((z.frameF sm fun ha => far _ ha).back (H0 := H) (g1.hh.trans g2.hh))
end
end J

/-! a class with two specs; returns of instances with own fields -/
namespace J
open PySem PySem.Spec L2 PyProof.Rows
def SpOr (a b : Sp) : Sp := fun vs H Q E => a vs H Q E ∨ b vs H Q E
theorem fn_or {P : Program} {w : World} {K : PySem.W.Frag} {mg : Str → Option Value} {base : Heap} {CX : CXT} {k : Nat} {f : Addr} {fd : FuncData} {ps : List Str} {a b : Sp} (F : FnOk P w K mg base CX k f fd ps a) (G : FnOk P w K mg base CX k f fd ps b) : FnOk P w K mg base CX k f fd ps (SpOr a b) :=
  ⟨fun vs H Q E h => h.elim (F.len vs H Q E) (G.len vs H Q E), fun A outer s H args us vs Q E hr he hb hv hs => hs.elim (F.run A outer s H args us vs Q E hr he hb hv) (G.run A outer s H args us vs Q E hr he hb hv)⟩
section
variable {te : TE} {ta : TA} {δ es : List Ent} {E : XK} {C : Addr}
section
variable {fs : List (Str × Slot)}
theorem ev_makeU {RI : RelI} {sp2 : Sp} (h : EvAs ta δ es) (hR : RI es (.ok fs)) : EvE (tMake C (SpOr (SpInit C RI) sp2) [] E ta) δ (.v (objS C fs)) := fun F0 H0 F H σ s Q q =>
  h F0 H0 F H σ s _ fun vs F1 H1 g1 a1 => fun x dx hx hd ne => by
    have g2 := made_grow g1.fh hx hd ne (u := .ins C dx [])
    refine .inl ⟨x, dx, vs ++ [], F1, es, .ok fs, rfl, upd_same, g2.fh, g2.tt (s.grow g1).tt, ?_, hR, ?_⟩
    · exact pair_app (Paired.mapP a1 fun _ _ z => z.grow g2)
    · intro F' H' dx' fv g hp hf pf
      refine ⟨rfl, ?_⟩
      have g3 := g2.trans g
      have sm : Same F' (upd F' x (.ins C dx' fv)) := same_upd hf
      have gg : Grow F1 H1 (upd F' x (.ins C dx' fv)) H' := by
        refine ⟨g3.ff.trans sm, fun b o e => era_sub b o (g3.hh b o e), fun b o e => ?_, fun a ha n => ?_, fun t a vs e => ?_⟩
        · by_cases hb : b = x
          · subst hb
            rw [upd_same] at e
            rw [← e]
            exact hp
          · rw [upd_ne hb] at e
            exact era_sub b o (g3.fh b o e)
        · have hne : a ≠ x := fun e => ha (by rw [e]; exact hx)
          rw [upd_ne hne]
          exact g3.nw a ha n
        · have hax : a ≠ x := fun z => by rw [z, hp] at e; cases e
          have e2 : era H' x a = some (.tup vs) := by rw [era_ne hax]; exact e
          exact sm _ _ (g3.tt t a vs e2)
      exact q _ _ H' (g1.trans gg) ⟨x, _, rfl, upd_same, dx', fv, rfl, Paired.mapP pf fun _ q z => ⟨z.1, q.2.mono sm z.2⟩⟩
end
section
variable {fs : List (Str × Own)}
theorem en_makeU {RI : RelN} {sp1 : Sp} (h : EvAs ta δ es) (hR : RI es fs) : EvN (tMake C (SpOr sp1 (SpInitN C RI)) [] E ta) δ C fs := fun F0 H0 F H σ s Q q =>
  h F0 H0 F H σ s _ fun vs F1 H1 g1 a1 => fun x dx hx hd ne => by
    have g2 := made_grow g1.fh hx hd ne (u := .ins C dx [])
    refine .inr ⟨x, dx, vs ++ [], F1, es, fs, rfl, upd_same, g2.fh, g2.tt (s.grow g1).tt, ?_, hR, ?_⟩
    · exact pair_app (Paired.mapP a1 fun _ _ z => z.grow g2)
    · intro F' H' dx' fv g hp hf nd far z
      refine ⟨rfl, ?_⟩
      have g3 := g2.trans g
      have sm : Same F' (upd F' x (.ins C dx' fv)) := same_upd hf
      have gg : Grow F1 H1 (upd F' x (.ins C dx' fv)) H' := by
        refine ⟨g3.ff.trans sm, fun b o e => era_sub b o (g3.hh b o e), fun b o e => ?_, fun a ha n => ?_, fun t a vs e => ?_⟩
        · by_cases hb : b = x
          · subst hb
            rw [upd_same] at e
            rw [← e]
            exact hp
          · rw [upd_ne hb] at e
            exact era_sub b o (g3.fh b o e)
        · have hne : a ≠ x := fun e => ha (by rw [e]; exact hx)
          rw [upd_ne hne]
          exact g3.nw a ha n
        · have hax : a ≠ x := fun z => by rw [z, hp] at e; cases e
          have e2 : era H' x a = some (.tup vs) := by rw [era_ne hax]; exact e
          exact sm _ _ (g3.tt t a vs e2)
      exact q x dx' fv _ H' (g1.trans gg) upd_same nd ((z.frameF sm fun ha => far _ ha).back (H0 := H) (g1.hh.trans g2.hh))
end
end
section
variable {F0 H0 F H : Hp} {σ : L2.St} {δ : List Ent} {te : TE} {tz : TS} {D : Ends} {C : Addr} {fs : List (Str × Own)} {i : Nat}
theorem q_retN (s : St F0 H0 F H σ δ) (h : EvN te δ C fs) (k : ∀ p dx fv F' H', Grow F0 H0 F' H' → F' p = some (.ins C dx fv) → (fv.map (·.2)).Nodup → NiF H0 F' H' fv fs → D.rt (.ref p) H') : tSeq (tRet te) tz D σ H :=
  h F0 H0 F H σ s _ fun p dx fv F' H' g hp nd z => k p dx fv F' H' (s.g.trans g) hp nd (z.back s.g.hh)
theorem q_retLN {F1 : Hp} {d : Addr} {od : Obj} {kv : List (List Key × V)} {kvs : List (List Key × Slot)} {nx bk ct : L2.St → Hp → Prop} {rt : VK} (s : St F1 H0 F H σ δ) (bs : Base F0 H0 F1) (hi : δ[i]? = some (.ow (dicL d od kv kvs))) (h : EvN te δ C fs) (k : ∀ p dx fv F' H', Grow F0 H0 F' H' → F' p = some (.ins C dx fv) → (fv.map (·.2)).Nodup → NiF H0 F' H' fv fs → rt (.ref p) H') :
    tSeq (tRet te) tz ⟨nx, fun v H' => H' d = some (.frz od (.dT kv)) ∧ rt v (upd H' d (.dT kv)), bk, ct⟩ σ H := by
  refine h F1 H0 F H σ s _ fun p dx fv F' H' g hp nd z => ?_
  obtain ⟨hfr, su⟩ := (s.grow g).unlock hi
  obtain ⟨h1, _⟩ := s.unlock hi
  refine ⟨hfr, k p dx fv F' _ (bs su.g) hp nd ((NiF.frameH z fun {a} ha e => ?_).back s.g.hh)⟩
  have := (z.mem ha).1
  rw [e, h1] at this
  cases this
end
end J

/-! != of nested lists of the same things; locked dicts handed on; loops with a pair as target; not in a list of tuples -/
namespace J
open PySem PySem.Spec L2 PyProof.Rows
section
variable {K : PySem.W.Frag} {F0 H0 F H : Hp} {σ : L2.St} {δ es : List Ent} {te tb ta tk tv : TE} {tr : TA} {tz tu : TS} {D : Ends} {i j i1 i2 : Nat} {S : Slot} {e1 e2 : Ent} {o o1 o2 : Own} {ss ts : List Slot}
/-! ### != -/
def IdR (K : PySem.W.Frag) (H : Hp) (x y : V) : Prop := (∃ a, x = .ref a ∧ y = .ref a) ∨ ∃ a b xs, x = .ref a ∧ y = .ref b ∧ SqL K H a xs ∧ SqL K H b xs ∧ ∀ v ∈ xs, ∃ c, v = V.ref c
theorem vals_refs : ∀ {xs : List V} {us ws : List Value}, Vals xs us → Vals xs ws → (∀ v ∈ xs, ∃ c, v = V.ref c) → us = ws := by
  intro xs us ws r1
  induction r1 generalizing ws with
  | nil => intro r2 _; cases r2; rfl
  | @cons x u _ _ p _ ih =>
    intro r2 hr
    cases r2 with
    | @cons _ w _ _ q t2 =>
      obtain ⟨c, rfl⟩ := hr _ List.mem_cons_self
      have e1 : u = Value.ref c := p
      have e2 : w = Value.ref c := q
      rw [e1, e2, ih t2 fun v hv => hr v (List.mem_cons_of_mem _ hv)]
theorem idR_at {X : Cx} {pins : List (Addr × Obj)} {s : Shared} (I : L2.Inv X pins σ H s) {A : Around} (hu : A.units < cLine) {x y : V} {v u : Value} (h : IdR X.K H x y) (rx : RelV x v) (ry : RelV y u) : SeqAt.EqAt A s v u true := by
  rcases h with ⟨a, rfl, rfl⟩ | ⟨a, b, xs, rfl, rfl, ha, hb, hr⟩
  · cases (show v = Value.ref a from rx)
    cases (show u = Value.ref a from ry)
    exact SeqAt.EqAt.same _
  · cases (show v = Value.ref a from rx)
    cases (show u = Value.ref b from ry)
    by_cases e : a = b
    · subst e
      exact SeqAt.EqAt.same _
    · obtain ⟨us, r1, p1, _⟩ := I.list ha
      obtain ⟨ws, r2, p2, _⟩ := I.list hb
      have euw : us = ws := vals_refs r1 r2 hr
      subst euw
      have z := SeqAt.RcAt.lists (A := A) (e := fun _ => true) p1.isList p2.isList rfl hu (fun j h1 h2 => SeqAt.EqAt.same _)
      rw [show ((List.range us.toArray.size).all fun _ => true) = true from List.all_eq_true.mpr fun _ _ => rfl] at z
      exact SeqAt.EqAt.of_refs e z
theorem idR_items {X : Cx} {pins : List (Addr × Obj)} {s : Shared} (I : L2.Inv X pins σ H s) {A : Around} (hu : A.units < cLine) {xs ys : List V} (hp : Paired (IdR X.K H) xs ys) :
    ∀ {us ws : List Value}, Vals xs us → Vals ys ws → ∀ j (h1 : j < us.length) (h2 : j < ws.length), SeqAt.EqAt A s us[j] ws[j] true := by
  induction hp with
  | nil =>
    intro us ws r1 r2 j h1 h2
    cases r1
    exact absurd h1 (Nat.not_lt_zero j)
  | cons h _ k =>
    intro us ws r1 r2 j h1 h2
    cases r1 with
    | cons a1 b1 =>
      cases r2 with
      | cons a2 b2 =>
        cases j with
        | zero => exact idR_at I hu h a1 a2
        | succ j => exact k b1 b2 j (Nat.lt_of_succ_lt_succ h1) (Nat.lt_of_succ_lt_succ h2)
def rNeV (K : PySem.W.Frag) : R2 := fun x y H Q => ∃ a b xs ys, x = V.ref a ∧ y = V.ref b ∧ SqL K H a xs ∧ SqL K H b ys ∧ Paired (IdR K H) xs ys ∧ Q (.bl false) H
theorem op_neV {X : Cx} (hu : X.A.units + 64 < cLine) : OpR X (compareOp .NotEq) (rNeV X.K) := by
  intro pins s σ H x y v u Q I rx ry h
  obtain ⟨a, b, xs, ys, rfl, rfl, ha, hb, hp, q⟩ := h
  cases (show v = Value.ref a from rx)
  cases (show u = Value.ref b from ry)
  obtain ⟨us, r1, p1, _⟩ := I.list ha
  obtain ⟨ws, r2, p2, _⟩ := I.list hb
  have hsz : us.toArray.size = ws.toArray.size := by
    rw [List.size_toArray, List.size_toArray, ← r1.length, ← r2.length]
    exact Paired.length hp
  refine SeqAt.RcNeAt.lists (A := X.A) (e := fun _ => true) p1.isList p2.isList hsz (by omega) (fun j h1 h2 => ?_) _ _ _ _ ?_
  · have k := idR_items I (A := X.A.in1) (by show X.A.units + 1 < cLine; omega) hp r1 r2 j (by simpa using h1) (by simpa using h2)
    simpa using k
  · rw [show ((List.range us.toArray.size).all fun _ => true) = true from List.all_eq_true.mpr fun _ _ => rfl]
    exact ⟨.bl false, H, I, rfl, q⟩
def rNeW (K : PySem.W.Frag) : R2 := fun x y H Q => rNeJ K x y H Q ∨ rNeV K x y H Q
theorem ko_neV {X : Cx} {k : Nat} (hK : X.K = K) (hr : Room k X.A) : OpR X (compareOp .NotEq) (rNeW K) := by subst hK; exact OpR.or (jo_ne (Room.u64 hr)) (op_neV (Room.u64 hr))
theorem ko_eqV {X : Cx} {k : Nat} (hK : X.K = K) (hr : Room k X.A) : OpR X (compareOp .Eq) (rEqJ K) := ko_eq hK hr
/-- a list of things known by their place -/
def PinL (S : Slot) : Prop := ∃ vs : List V, (∀ v ∈ vs, ∃ c, v = V.ref c) ∧ ∀ F v, S.P F v → ∃ a, v = .ref a ∧ F a = some (.lst vs)
theorem pinL {vs : List V} (hl : vs.length = ss.length) (hv : ∀ v ∈ vs, ∃ a, v = V.ref a) : PinL (lstS (List.zipWith pinS vs ss)) := by
  refine ⟨vs, hv, fun F v h => ?_⟩
  obtain ⟨p, ho, rfl, hp, xs, rfl, px⟩ := h
  obtain ⟨rfl, _⟩ := pin_un hl px
  exact ⟨p, rfl, hp⟩
theorem jv_neV (h : ∀ S ∈ ss, PinL S) (h1 : IsR e1 (lstO ss)) (h2 : IsR e2 (lstO ss)) : OpE (rNeW K) e1 e2 (.v (bS false)) := OpE.inr fun F H x y s a b Q q => by
  obtain ⟨p, ho, rfl, hp, xs, rfl, px⟩ := h1.get a s
  obtain ⟨p', ho', rfl, hp', ys, rfl, py⟩ := h2.get b s
  refine ⟨p, p', xs, ys, rfl, rfl, SqL.of hp, SqL.of hp', ?_, q _ F H (Grow.refl s) rfl⟩
  clear hp hp' a b h1 h2
  induction px generalizing ys with
  | nil => cases py; exact .nil
  | @cons x S _ _ p1 _ ih =>
    cases py with
    | @cons y _ _ _ p2 t2 =>
      obtain ⟨vs, hv, hS⟩ := h S List.mem_cons_self
      obtain ⟨a, ea, fa⟩ := hS F x p1
      obtain ⟨b, eb, fb⟩ := hS F y p2
      exact .cons (.inr ⟨a, b, vs, ea, eb, SqL.of (s a _ fa), SqL.of (s b _ fb), hv⟩) (ih (fun T hT => h T (List.mem_cons_of_mem _ hT)) _ t2)
theorem jv_neJ (h : OpE (rNeJ K) e1 e2 (.v S)) : OpE (rNeW K) e1 e2 (.v S) := OpE.inl h
/-- a field's list pinned -/
theorem q_pinN {C : Addr} {fs : List (Str × Own)} {f : Str} (s : St F0 H0 F H σ δ) (hi : δ[i]? = some (.ni C fs)) (hno : OneN δ i) (hl : fs.lookup f = some (lstO ss)) (hr : ∀ S ∈ ss, ∀ F v, S.P F v → ∃ a, v = V.ref a) {P : Prop}
    (k : ∀ vs : List V, vs.length = ss.length → (∀ v ∈ vs, ∃ a, v = V.ref a) → St F0 H0 F H σ (δ.set i (.ni C (putN f (lstO (List.zipWith pinS vs ss)) fs))) → P) : P := by
  obtain ⟨p, dx, fv, e, hp, nd, z⟩ := s.ni i C fs hi
  obtain ⟨a, ho, hlk, hf, ha, vs, rfl, pv⟩ := z.look hl
  refine k vs pv.length ?_ ?_
  · have : ∀ {vs : List V} {ss : List Slot}, PairS F vs ss → (∀ S ∈ ss, ∀ F v, S.P F v → ∃ a, v = V.ref a) → ∀ v ∈ vs, ∃ a, v = V.ref a := by
      intro vs ss h
      induction h with
      | nil => intro _ v hv; cases hv
      | cons p _ ih =>
        intro hr v hv
        cases hv with
        | head => exact hr _ List.mem_cons_self _ _ p
        | tail _ hv => exact ih (fun S hS => hr S (List.mem_cons_of_mem _ hS)) v hv
    exact this pv hr
  · have w := s.mutN (o' := lstO (List.zipWith pinS vs ss)) (u := .lst vs) hi hno e hp hlk ⟨vs, rfl, pin_of pv⟩
    rw [upd_eq ha] at w
    exact w
def noN : Ent → Prop
  | .ni _ _ => False
  | _ => True
def allN : List Ent → Prop
  | [] => True
  | e :: l => noN e ∧ allN l
def oneB : List Ent → Nat → Prop
  | [], _ => True
  | _ :: l, 0 => allN l
  | e :: l, i + 1 => noN e ∧ oneB l i
theorem allN_at : ∀ {l : List Ent} {k : Nat} {C : Addr} {fs : List (Str × Own)}, allN l → l[k]? ≠ some (.ni C fs)
  | [], _, _, _, _ => by simp
  | e :: l, 0, C, fs, h => by
    intro q
    have q : e = .ni C fs := Option.some.inj q
    subst q
    exact h.1
  | e :: l, k + 1, C, fs, h => by
    intro q
    exact allN_at (k := k) h.2 (by simpa using q)
theorem oneN_of : ∀ {l : List Ent} {i : Nat}, oneB l i → OneN l i
  | [], _, _ => fun k C fs _ q => by simp at q
  | e :: l, 0, h => fun k C fs hk q => by
    obtain ⟨k', rfl⟩ : ∃ k', k = k' + 1 := ⟨k - 1, by omega⟩
    exact allN_at (k := k') h (by simpa using q)
  | e :: l, i + 1, h => fun k C fs hk q => by
    cases k with
    | zero =>
      have q : e = .ni C fs := Option.some.inj q
      subst q
      exact h.1
    | succ k => exact oneN_of (i := i) h.2 k C fs (fun z => hk (by rw [z])) (by simpa using q)
/-! ### a dict that stands locked -/
def frzO (kvs : List (List Key × Slot)) : Own := ⟨fun F _ ho => ∃ od kv, ho = .frz od (.dT kv) ∧ PK F kv kvs, fun s ⟨od, kv, e, p⟩ => ⟨od, kv, e, PK.mono s p⟩⟩
abbrev frzS (kvs : List (List Key × Slot)) : Slot := refS (frzO kvs)
theorem dgetF {x : List Int} {v y : V} {kvs : List (List Key × Slot)} (s : Same F H) (h1 : (frzS kvs).P F v) (h2 : (tpS x).P F y) : ∃ p kv, v = .ref p ∧ PK F kv kvs ∧ DGet H p y (valV kv (kx x)) := by
  obtain ⟨p, ho, rfl, hp, od, kv, rfl, pv⟩ := h1
  obtain ⟨b, rfl, hb, _⟩ := fv_of h2
  exact ⟨p, kv, rfl, pv, .inr ⟨kv, kx x, b, .inr ⟨od, s p _ hp⟩, rfl, by rw [kx_V]; exact s b _ hb, rfl⟩⟩
theorem ev_niF {x : List Int} {L : List (List Int)} {kvs : List (List Key × Slot)} (ha : EvE ta δ (.v (tpS x))) (hb : EvE tb δ (.v (frzS kvs))) (hk : kvs.map (·.1) = L.map kx) : EvE (tNiJ K ta tb) δ (.v (bS (!decide (x ∈ L)))) := fun F0 H0 F H σ s Q q =>
  .inr (.inl (ha F0 H0 F H σ s _ fun y F1 H1 g1 a1 => hb F0 H0 F1 H1 σ (s.grow g1) _ fun v F2 H2 g2 a2 => by
    obtain ⟨p, kv, rfl, pv, dg⟩ := dgetF g2.fh a2 ((tpS x).mono g2.ff a1)
    refine ⟨p, _, rfl, dg, ?_⟩
    rw [some_kx pv hk]
    exact q _ F2 H2 (g1.trans g2) rfl))
theorem ev_inF {x : List Int} {L : List (List Int)} {kvs : List (List Key × Slot)} (ha : EvE ta δ (.v (tpS x))) (hb : EvE tb δ (.v (frzS kvs))) (hk : kvs.map (·.1) = L.map kx) : EvE (tInJ K ta tb) δ (.v (bS (decide (x ∈ L)))) := fun F0 H0 F H σ s Q q =>
  .inr (.inl (ha F0 H0 F H σ s _ fun y F1 H1 g1 a1 => hb F0 H0 F1 H1 σ (s.grow g1) _ fun v F2 H2 g2 a2 => by
    obtain ⟨p, kv, rfl, pv, dg⟩ := dgetF g2.fh a2 ((tpS x).mono g2.ff a1)
    refine ⟨p, _, rfl, dg, ?_⟩
    rw [some_kx pv hk]
    exact q _ F2 H2 (g1.trans g2) rfl))
theorem ev_getF {x : List Int} {kvs : List (List Key × Slot)} {r : List Key × Slot} (ha : EvE ta δ (.v (frzS kvs))) (hb : EvE tb δ (.v (tpS x))) (hf : kvs.find? (fun q => decide (q.1 = kx x)) = some r) : EvE (tIx K ta tb) δ (.v r.2) := fun F0 H0 F H σ s Q q =>
  .inr (ha F0 H0 F H σ s _ fun v F1 H1 g1 a1 => hb F0 H0 F1 H1 σ (s.grow g1) _ fun y F2 H2 g2 a2 => by
    obtain ⟨p, kv, rfl, pv, dg⟩ := dgetF g2.fh ((frzS kvs).mono g2.ff a1) a2
    have z := find_keys (k := kx x) pv
    rw [hf] at z
    obtain ⟨w, hw, pw⟩ := z
    rw [hw] at dg
    exact ⟨p, w, rfl, dg, q w F2 H2 (g1.trans g2) pw⟩)
/-- for x in d -/
theorem q_forF {kvs : List (List Key × Slot)} {L : List (List Int)} (s : St F0 H0 F H σ δ) (h : EvE ta δ (.v (frzS kvs))) (hk : kvs.map (·.1) = L.map kx) (I : Nat → List Ent → Prop) (h0 : I 0 δ)
    (hs : ∀ F1, Base F0 H0 F1 → ∀ n x δ' σ' F' H', L[n]? = some x → I n δ' → St F1 H0 F' H' σ' (δ'.set j (.v (tpS x))) → tu ⟨NX F1 H0 (I (n + 1)), D.rt, tz D, NX F1 H0 (I (n + 1))⟩ σ' H')
    (hd : ∀ δ' σ' F' H', I L.length δ' → St F0 H0 F' H' σ' δ' → tz D σ' H') : tSeq (tFor (iAny K ta) (gName j) tu) tz D σ H := by
  refine .inr (.inr (h F0 H0 F H σ s _ fun v F1 H1 g1 a1 => ?_))
  obtain ⟨d, ho, rfl, hp, od, kv, rfl, pk⟩ := a1
  have s1 := s.grow g1
  have hl := keys_len pk hk
  refine ⟨d, od, rfl, .inr ⟨kv, g1.fh d _ hp, ?_⟩⟩
  refine ⟨fun n m σ' H' => m = L.length - n ∧ n ≤ L.length ∧ NX F1 H0 (I n) σ' H', ⟨L.length, by simp, Nat.zero_le _, F1, δ, s1.rebase, h0⟩, ?_⟩
  rintro n m σ' H' ⟨rfl, hn, F', δ', s', hI'⟩
  have hfr : H' d = some (.frz od (.dT kv)) := s'.fh d _ (s'.g.ff d _ hp)
  by_cases hlt : n < L.length
  · refine .inr ⟨⟨hfr, by omega⟩, NX F1 H0 (I (n + 1)), fun σ2 H2 h2 => ⟨L.length - (n + 1), by omega, rfl, hlt, h2⟩, ?_⟩
    rintro x H2 ⟨rfl, k, v, q, hkv, rfl, hq⟩
    obtain ⟨y, hy, rfl⟩ := key_at pk hk hkv
    rw [kx_V] at hq
    exact hs F1 s1.base n y δ' _ F' _ hy hI' (s'.set_v (tp_of (s'.tt q _ hq)))
  · have en : n = L.length := by omega
    subst en
    exact .inl ⟨⟨hfr, by omega⟩, hd δ' σ' F' _ hI' (s'.unbase s1.base)⟩
/-- [te for j in d] -/
theorem eo_lcF {kvs : List (List Key × Slot)} {L : List (List Int)} (f : List Int → Slot) (h : EvE ta δ (.v (frzS kvs))) (hk : kvs.map (·.1) = L.map kx) (hz : L.length ≤ 40000) (he : ∀ x ∈ L, EvE te (δ.set j (.v (tpS x))) (.v (f x))) :
    EvO (tLc (iAny K ta) (gName j) tYes te [j]) δ (lstO (L.map f)) := fun F0 H0 F H σ s Q q => by
  refine .inr (.inr (h F0 H0 F H σ s _ fun v F1 H1 g1 a1 => ?_))
  obtain ⟨p, ho, rfl, hp, od, kv, rfl, pk⟩ := a1
  have s1 := s.grow g1
  have hl := keys_len pk hk
  refine ⟨p, od, rfl, .inr ⟨kv, g1.fh p _ hp, fun Dl hD => ?_⟩⟩
  refine ⟨fun n m H' => m = L.length - n ∧ n ≤ L.length ∧ LcI F1 H1 Dl ((L.take n).map f) H', ⟨L.length, by simp, Nat.zero_le _, LcI.start g1.fh hD⟩, ?_⟩
  rintro n m H' ⟨rfl, hn, hI⟩
  obtain ⟨F', acc, g, hf', hp', pa⟩ := id hI
  have hfr := g.hh p _ (g1.fh p _ hp)
  by_cases hlt : n < L.length
  · refine .inr ⟨⟨hfr, by omega⟩, LcI F1 H1 Dl ((L.take (n + 1)).map f), fun H2 h2 => ⟨L.length - (n + 1), by omega, rfl, hlt, h2⟩, ?_⟩
    rintro x H2 ⟨rfl, k, v, a, hkv, rfl, hq⟩
    obtain ⟨y, hy, rfl⟩ := key_at pk hk hkv
    rw [kx_V] at hq
    have hm := List.mem_of_getElem? hy
    refine ⟨wipe1, lc_turn (b := true) (T := tpS y) (S := f y) (ss := (L.take n).map f) s1 hD (by rw [List.length_map, List.length_take]; omega) (fun F2 g2 => tp_of (g2.tt s1.tt a _ hq)) hI et_yes (fun _ => he y hm) fun H3 z => ?_⟩
    rw [if_pos rfl] at z
    rw [List.take_add_one, hy, List.map_append]
    exact z
  · have en : n = L.length := by omega
    subst en
    rw [List.take_length] at pa
    exact .inl ⟨⟨hfr, by omega⟩, q Dl _ F' H' (g1.trans g) (g1.hh.free hD) hf' hp' ⟨acc, rfl, pa⟩⟩
theorem St.lockV {kvs : List (List Key × Slot)} (s : St F0 H0 F H σ δ) (hi : δ[i]? = some (.ow (dicO kvs))) : ∃ d kv, H d = some (.dT kv) ∧ H0 d = none ∧ F d = none ∧ ∀ od, ∃ F1, St F0 H0 F1 (upd H d (.frz od (.dT kv))) σ (δ.set i (.v (frzS kvs))) := by
  obtain ⟨d, ho, e, z0, zf, hp, kv, rfl, pk⟩ := s.ow i _ hi
  refine ⟨d, kv, hp, z0, zf, fun od => ?_⟩
  have s1 : St F0 H0 F (upd H d (.frz od (.dT kv))) σ (δ.set i (.ow (frzO kvs))) := s.mut hi e ⟨od, kv, rfl, pk⟩
  obtain ⟨F1, s2⟩ := s1.freeze (i := i) (o := frzO kvs) (List.getElem?_set_self (List.getElem?_eq_some_iff.mp hi).1)
  rw [List.set_set] at s2
  exact ⟨F1, s2⟩
/-- return .., a dict of one's own locked meanwhile -/
theorem q_retLK {v0 : V} {kvs : List (List Key × Slot)} (s : St F0 H0 F H σ δ) (i : Nat) (hi : δ[i]? = some (.ow (dicO kvs))) (h : EvE te (δ.set i (.v (frzS kvs))) (.v (kS v0))) (k : ∀ v F' H', Grow F0 H0 F' H' → (kS v0).P F' v → D.rt v H') : tSeq (tLock (tRet te)) tz D σ H := by
  obtain ⟨d, kv, hd, z0, zf, hl⟩ := s.lockV hi
  refine ⟨d, .dT kv, hd, trivial, fun od => ?_⟩
  obtain ⟨F1, s1⟩ := hl od
  refine h F0 H0 F1 _ σ s1 _ fun v F' H' g a => ?_
  have hfr : H' d = some (.frz od (.dT kv)) := g.hh d _ upd_same
  have gg := s1.g.trans g
  have f0 : F0 d = none := s.g.ff.free zf
  refine ⟨hfr, k v (era F' d) (upd H' d (.dT kv)) ⟨fun b o e => ?_, fun b o e => ?_, fun b o e => ?_, fun b hb n => ?_, fun t b vs e => ?_⟩ a⟩
  · rw [era_ne (ne_of_none e f0)]
    exact gg.ff b o e
  · rw [upd_ne (ne_of_none e z0)]
    exact gg.hh b o e
  · by_cases hb : b = d
    · rw [hb, era_same] at e
      cases e
    · rw [era_ne hb] at e
      rw [upd_ne hb]
      exact gg.fh b o e
  · by_cases hd : b = d
    · rw [hd]
      exact era_same
    · rw [era_ne hd]
      exact gg.nw b hb n
  · by_cases hb : b = d
    · rw [hb, upd_same] at e
      cases e
    · rw [upd_ne hb] at e
      rw [era_ne hb]
      exact gg.tt t b vs e
/-- an expression, a dict of one's own locked meanwhile -/
theorem eo_lockO {kvs : List (List Key × Slot)} (hi : δ[i]? = some (.ow (dicO kvs))) (h : ∀ d od kv, EvO te (δ.set i (.ow (dicL d od kv kvs))) o) : EvO (tLockE te) δ o := fun F0 H0 F H σ s Q q => by
  obtain ⟨d, ho, e, z0, zf, hp, kv, rfl, pk⟩ := s.ow i _ hi
  refine ⟨d, .dT kv, hp, trivial, fun od => ?_⟩
  have s1 : St F0 H0 F (upd H d (.frz od (.dT kv))) σ (δ.set i (.ow (dicL d od kv kvs))) := s.mut hi e ⟨rfl, rfl, pk⟩
  refine h d od kv F0 H0 F _ σ s1 _ fun p ho F' H' g hn hf hp' z => ?_
  have hfr : H' d = some (.frz od (.dT kv)) := g.hh d _ upd_same
  have hpd : p ≠ d := fun e => by
    rw [e, upd_same] at hn
    cases hn
  have fd : F' d = none := g.nw d (by rw [upd_same]; exact fun z => nomatch z) zf
  refine ⟨hfr, q p ho F' _ ⟨g.ff, fun b o e => ?_, fun b o e => ?_, fun b hb n => ?_, fun t => tt_upd (g.tt (tt_upd t (by intro _ h; cases h))) (by intro _ h; cases h)⟩ (by rw [upd_ne hpd] at hn; exact hn) hf (by rw [upd_ne hpd]; exact hp') z⟩
  · by_cases hb : b = d
    · rw [hb] at e ⊢
      rw [upd_same, ← e, hp]
    · rw [upd_ne hb]
      exact g.hh b o (by rw [upd_ne hb]; exact e)
  · rw [upd_ne (ne_of_none e fd)]
    exact g.fh b o e
  · refine g.nw b ?_ n
    by_cases hd : b = d
    · rw [hd, upd_same]
      exact fun z => nomatch z
    · rw [upd_ne hd]
      exact hb
/-! ### a pair as target -/
theorem q_forL2 {α : Type} {xs : List α} {f g : α → Slot} {j1 j2 : Nat} (s : St F0 H0 F H σ δ) (h : EvE ta δ (.v (lstS (xs.map fun a => tupS [f a, g a])))) (I : Nat → List Ent → Prop) (h0 : I 0 δ)
    (hs : ∀ F1, Base F0 H0 F1 → ∀ n a δ' σ' F' H', xs[n]? = some a → I n δ' → St F1 H0 F' H' σ' ((δ'.set j1 (.v (f a))).set j2 (.v (g a))) → tu ⟨NX F1 H0 (I (n + 1)), D.rt, tz D, NX F1 H0 (I (n + 1))⟩ σ' H')
    (hd : ∀ δ' σ' F' H', I xs.length δ' → St F0 H0 F' H' σ' δ' → tz D σ' H') : tSeq (tFor (iAny K ta) (gTup K 2 (gCons (gName j1) (gCons (gName j2) gNil))) tu) tz D σ H := by
  refine .inl (h F0 H0 F H σ s _ fun v F1 H1 g1 a1 => ?_)
  obtain ⟨p, ho, rfl, hp, vs, rfl, pv⟩ := a1
  have s1 := s.grow g1
  have hlen : vs.length = xs.length := by rw [pv.length, List.length_map]
  refine ⟨p, rfl, ⟨vs, SqL.of (g1.fh p _ hp)⟩, for_list (D := { D with nx := tz D }) (xs := vs) (fun n => NX F1 H0 (I n)) ⟨F1, δ, s1.rebase, h0⟩ ?_ ?_ ?_⟩
  · rintro n σ' H' _ ⟨F', δ', s', _⟩
    exact SqL.of (s'.fh p _ (s'.g.ff p _ hp))
  · rintro n x σ' H' hx ⟨F', δ', s', hI⟩
    have hn : n < xs.length := by
      rw [← hlen]
      exact (List.getElem?_eq_some_iff.mp hx).1
    have hxn : xs[n]? = some xs[n] := List.getElem?_eq_getElem hn
    obtain ⟨w, hw, q⟩ := PairS.get (i := n) (S := tupS [f xs[n], g xs[n]]) (PairS.mono s'.g.ff pv) (by rw [List.getElem?_map, hxn]; rfl)
    rw [hx] at hw
    cases hw
    obtain ⟨t, ho, rfl, ht, ws, rfl, pw⟩ := q
    cases pw with
    | cons p1 t1 => cases t1 with
      | cons p2 t2 => cases t2 with
        | nil => exact ⟨t, _, rfl, SqT.of (s'.fh t _ ht), rfl, _, _, rfl, _, _, rfl, rfl, hs F1 s1.base n _ δ' _ F' H' hxn hI ((s'.set_v p1).set_v p2)⟩
  · rintro σ' H' ⟨F', δ', s', hI⟩
    rw [hlen] at hI
    exact hd δ' σ' F' H' hI (s'.unbase s1.base)
/-- x not in a list of tuples -/
theorem ev_niLT {x : List Int} {L : List (List Int)} (ha : EvE ta δ (.v (tpS x))) (hb : EvE tb δ e1) (hr : IsR e1 (lstO (L.map tpS))) : EvE (tNiJ K ta tb) δ (.v (bS (!decide (x ∈ L)))) := fun F0 H0 F H σ s Q q =>
  .inr (.inr (ev_op (r := rNotInD K) (e3 := .v (bS (!decide (x ∈ L)))) ha hb (fun F H v y s a b Q q => by
    have h1 := dat_tp (K := K) (x := x) isR_v
    have h2 := dat_ltp (K := K) hr
    refine ⟨tpD x, L.map tpD, h1.to F H v s a, h2.to F H y s b, h1.sh, h2.sh, ?_⟩
    rw [any_tp]
    exact q _ F H (Grow.refl s) rfl) F0 H0 F H σ s Q q))
end
end J

/-! dicts of lists that are changed, lists of lists that are changed; sorted of lists of tuples; pop; reversed -/
namespace J
open PySem PySem.Spec L2 PyProof.Rows
section
variable {K : PySem.W.Frag} {F0 H0 F H : Hp} {σ : L2.St} {δ es : List Ent} {te tb ta tk tv : TE} {tr : TA} {tz tu : TS} {D : Ends} {i j i1 i2 : Nat} {S S1 S2 : Slot} {e1 e2 : Ent} {o o1 o2 : Own} {ss ts : List Slot}
/-! ### a store without own objects -/
def noO : Ent → Prop
  | .ow _ => False
  | .ni _ _ => False
  | _ => True
def allO : List Ent → Prop
  | [] => True
  | e :: l => noO e ∧ allO l
theorem allO_at : ∀ {l : List Ent} {k : Nat} {e : Ent}, allO l → l[k]? = some e → noO e
  | [], _, _, _, h => by simp at h
  | a :: l, 0, e, h, q => by
    have q : a = e := Option.some.inj q
    subst q
    exact h.1
  | a :: l, k + 1, e, h, q => allO_at (k := k) h.2 (by simpa using q)
theorem allO_set : ∀ {l : List Ent} {k : Nat} {e : Ent}, allO l → noO e → allO (l.set k e)
  | [], _, _, _, _ => True.intro
  | a :: l, 0, e, h, q => ⟨q, h.2⟩
  | a :: l, k + 1, e, h, q => ⟨h.1, allO_set (k := k) h.2 q⟩
theorem St.mutX (s : St F0 H0 F H σ δ) (no : allO δ) {p : Addr} {u : HO} (h0 : H0 p = none) (hf : F p = none) (hn : ∀ vs, u ≠ .tup vs := by intro _ h; cases h) : St F0 H0 F (upd H p u) σ δ where
  g := ⟨s.g.ff, same_updR s.g.hh h0, same_updR s.g.fh hf, s.g.nw, fun t => tt_upd (s.g.tt t) hn⟩
  len := s.len
  at_ := s.at_
  ow := fun i o h => (allO_at no h).elim
  bo := s.bo
  sep := s.sep
  tt := tt_upd s.tt hn
  ni := fun i C fs h => (allO_at no h).elim
  sepn := fun i j o a C fs h => (allO_at no h).elim
/-! ### loops whose turns tell of the heaps -/
def NXX (F0 H0 : Hp) (X : Hp → Hp → L2.St → List Ent → Prop) : L2.St → Hp → Prop := fun σ H => ∃ F δ, St F0 H0 F H σ δ ∧ X F H σ δ
theorem q_nxX {X : Hp → Hp → L2.St → List Ent → Prop} {rt : VK} {bk ct : L2.St → Hp → Prop} (s : St F0 H0 F H σ δ) (h : X F H σ δ) : tNext ⟨NXX F0 H0 X, rt, bk, ct⟩ σ H := ⟨F, δ, s, h⟩
theorem q_forLX (s : St F0 H0 F H σ δ) (h : EvE ta δ (.v (lstS ss))) (X : Nat → Hp → Hp → L2.St → List Ent → Prop) (h0 : ∀ F1 H1, Grow F H F1 H1 → X 0 F1 H1 σ δ)
    (hs : ∀ F1, Base F0 H0 F1 → ∀ n T x δ' σ' F' H', ss[n]? = some T → X n F' H' σ' δ' → St F1 H0 F' H' (σ'.set j (some x)) (δ'.set j (.v T)) → tu ⟨NXX F1 H0 (X (n + 1)), D.rt, tz D, NXX F1 H0 (X (n + 1))⟩ (σ'.set j (some x)) H')
    (hd : ∀ δ' σ' F' H', X ss.length F' H' σ' δ' → St F0 H0 F' H' σ' δ' → tz D σ' H') : tSeq (tFor (iAny K ta) (gName j) tu) tz D σ H := by
  refine .inl (h F0 H0 F H σ s _ fun v F1 H1 g1 a1 => ?_)
  obtain ⟨p, ho, rfl, hp, vs, rfl, pv⟩ := a1
  have s1 := s.grow g1
  refine ⟨p, rfl, ⟨vs, SqL.of (g1.fh p _ hp)⟩, for_list (D := { D with nx := tz D }) (xs := vs) (fun n => NXX F1 H0 (X n)) ⟨F1, δ, s1.rebase, h0 F1 H1 g1⟩ ?_ ?_ ?_⟩
  · rintro n σ' H' _ ⟨F', δ', s', _⟩
    exact SqL.of (s'.fh p _ (s'.g.ff p _ hp))
  · rintro n x σ' H' hx ⟨F', δ', s', hI⟩
    obtain ⟨T, hT, px⟩ : ∃ T, ss[n]? = some T ∧ T.P F' x := by
      have hn : n < vs.length := (List.getElem?_eq_some_iff.mp hx).1
      rw [pv.length] at hn
      obtain ⟨w, hw, q⟩ := PairS.get (PairS.mono s'.g.ff pv) (List.getElem?_eq_getElem hn)
      rw [hx] at hw
      cases hw
      exact ⟨_, List.getElem?_eq_getElem hn, q⟩
    exact hs F1 s1.base n T x δ' σ' F' H' hT hI (s'.set_v px)
  · rintro σ' H' ⟨F', δ', s', hI⟩
    rw [pv.length] at hI
    exact hd δ' σ' F' H' hI (s'.unbase s1.base)
/-! ### a dict of lists of one's own -/
def DL (H0 F H : Hp) (σ : L2.St) (i : Nat) (ks : List (List Int)) (D : List Int → List Slot) : Prop :=
  ∃ (d : Addr) (f : List Int → Addr), σ[i]? = some (some (.ref d)) ∧ H d = some (.dT (ks.map fun k => (kx k, V.ref (f k)))) ∧ (H0 d = none ∧ F d = none) ∧
    (∀ k ∈ ks, f k ≠ d ∧ (H0 (f k) = none ∧ F (f k) = none) ∧ ∃ vs, H (f k) = some (.lst vs) ∧ PairS F vs (D k)) ∧ ∀ k ∈ ks, ∀ k' ∈ ks, f k = f k' → k = k'
section
variable {ks : List (List Int)} {Dd : List Int → List Slot} {F' H' : Hp}
theorem DL.grow (g : Grow F H F' H') (h : DL H0 F H σ i ks Dd) : DL H0 F' H' σ i ks Dd := by
  obtain ⟨d, f, e, hd, ⟨z0, zf⟩, hk, inj⟩ := h
  refine ⟨d, f, e, g.hh d _ hd, ⟨z0, g.nw d (by rw [hd]; exact fun z => nomatch z) zf⟩, fun k hk' => ?_, inj⟩
  obtain ⟨h1, ⟨h2, h3⟩, vs, h4, h5⟩ := hk k hk'
  exact ⟨h1, ⟨h2, g.nw _ (by rw [h4]; exact fun z => nomatch z) h3⟩, vs, g.hh _ _ h4, PairS.mono g.ff h5⟩
theorem DL.set {j : Nat} {x : Option V} (h : DL H0 F H σ i ks Dd) (ne : j ≠ i) : DL H0 F H (σ.set j x) i ks Dd := by
  obtain ⟨d, f, e, r⟩ := h
  exact ⟨d, f, by rw [List.getElem?_set_ne ne]; exact e, r⟩
theorem DL.cong {Dd' : List Int → List Slot} (h : DL H0 F H σ i ks Dd) (e : ∀ k ∈ ks, Dd k = Dd' k) : DL H0 F H σ i ks Dd' := by
  obtain ⟨d, f, e1, hd, z, hk, inj⟩ := h
  refine ⟨d, f, e1, hd, z, fun k hk' => ?_, inj⟩
  rw [← e k hk']
  exact hk k hk'
/-- found = {} -/
theorem q_newDL (s : St F0 H0 F H σ δ) (hi : i < δ.length) (k : ∀ σ' F' H', St F0 H0 F' H' σ' (δ.set i .un) → DL H0 F' H' σ' i [] Dd → tz D σ' H') : tSeq (tAsg tDNewT (gName i)) tz D σ H := fun p hp => by
  have g : Grow F H F (upd H p (.dT [])) := Grow.newH s.fh hp
  refine k _ F _ ((s.grow g).set_un (some (.ref p))) ⟨p, fun _ => 0, List.getElem?_set_self (by rw [s.len]; exact hi), upd_same, ⟨s.g.hh.free hp, s.fh.free hp⟩, fun k h => (by cases h), fun k h => (by cases h)⟩
/-- found[x] = [] -/
theorem q_putDL {x : List Int} (s : St F0 H0 F H σ δ) (no : allO δ) (h : DL H0 F H σ i ks Dd) (hb : EvE tb δ (.v (tpS x))) (hn : x ∉ ks) (hz : ks.length < 100000) (hx : Dd x = [])
    (k : ∀ F' H', St F0 H0 F' H' σ δ → DL H0 F' H' σ i (ks ++ [x]) Dd → tz D σ H') : tSeq (sDPut (tVar i) tb (tLst tNil)) tz D σ H := by
  refine ⟨Nat.zero_le _, fun q hq => ?_⟩
  have g1 : Grow F H F (upd H q (.lst [])) := Grow.newH s.fh hq
  have fq := s.fh.free hq
  have q0 := s.g.hh.free hq
  have hqne := h
  have h1 := h.grow g1
  have s1 := s.grow g1
  obtain ⟨d0, f0, e0, hd0, _, hk0, _⟩ := hqne
  obtain ⟨d, _, e, _⟩ := id h1
  refine ⟨.ref d, e, hb F0 H0 F _ σ s1 _ fun y F2 H2 g2 a2 => ?_⟩
  have s2 := s1.grow g2
  have hq2 : H2 q = some (.lst []) := g2.hh q _ upd_same
  have fq2 : F2 q = none := g2.nw q (by rw [upd_same]; exact fun z => nomatch z) fq
  obtain ⟨d', f, e', hd, ⟨z0, zf⟩, hk, inj⟩ := h1.grow g2
  rw [e] at e'
  cases e'
  rw [e0] at e
  cases e
  obtain ⟨b, rfl, hb2, _⟩ := fv_of a2
  have hput : putK (ks.map fun k => (kx k, V.ref (f k))) (kx x) (V.ref q) = (ks.map fun k => (kx k, V.ref (f k))) ++ [(kx x, V.ref q)] := by
    unfold putK
    have e : ((ks.map fun k => (kx k, V.ref (f k))).any fun r => decide (r.1 = kx x)) = false := by
      rw [List.any_eq_false]
      intro r hr c
      obtain ⟨k, hk, rfl⟩ := List.mem_map.mp hr
      have c : kx k = kx x := of_decide_eq_true c
      exact hn (kx_inj c ▸ hk)
    rw [e, if_neg Bool.false_ne_true]
  refine ⟨d0, _, rfl, DPut.t hd (by rw [kx_V]; exact g2.fh b _ hb2) (by rw [List.length_map]; exact sizeLt hz), ?_⟩
  rw [hput]
  have hqd : q ≠ d0 := fun z => by
    rw [z, hd0] at hq
    cases hq
  have hqf : ∀ k ∈ ks, f k ≠ q := fun k hk' z => by
    obtain ⟨_, _, vs, h4, _⟩ := hk k hk'
    obtain ⟨_, _, vs0, h40, _⟩ := hk0 k hk'
    have : H2 (f0 k) = some (.lst vs0) := g2.hh _ _ (g1.hh _ _ h40)
    have hx0 : f0 k ≠ q := fun z2 => by
      rw [z2, hq] at h40
      cases h40
    have e6 : (ks.map fun k => (kx k, V.ref (f k))) = ks.map fun k => (kx k, V.ref (f0 k)) := by
      have e7 : H2 d0 = some (.dT (ks.map fun k => (kx k, V.ref (f0 k)))) := g2.hh _ _ (g1.hh _ _ hd0)
      rw [hd] at e7
      injection e7 with e8
      injection e8
    have e9 := List.map_inj_left.mp e6 k hk'
    have e10 : f k = f0 k := by
      exact V.ref.inj (Prod.mk.inj e9).2
    exact hx0 (e10.symm.trans z)
  refine k F2 _ (s2.mutX no z0 zf) ⟨d0, fun k => if k = x then q else f k, e0, ?_, ⟨z0, zf⟩, fun k hk' => ?_, fun k hk1 k' hk2 e => ?_⟩
  · rw [upd_same, List.map_append]
    congr 2
    congr 1
    · apply List.map_congr_left
      intro k hk'
      show (kx k, V.ref (f k)) = (kx k, V.ref (if k = x then q else f k))
      rw [if_neg (fun z => hn (by rw [← z]; exact hk'))]
    · show [(kx x, V.ref q)] = [(kx x, V.ref (if x = x then q else f x))]
      rw [if_pos rfl]
  · by_cases c : k = x
    · simp only [if_pos c]
      refine ⟨hqd, ⟨q0, fq2⟩, [], ?_, ?_⟩
      · rw [upd_ne hqd]
        exact hq2
      · rw [c, hx]
        exact .nil
    · simp only [if_neg c]
      have hk'' : k ∈ ks := by
        rcases List.mem_append.mp hk' with h | h
        · exact h
        · exact absurd (List.mem_singleton.mp h) c
      obtain ⟨h1, h2, vs, h4, h5⟩ := hk k hk''
      exact ⟨h1, h2, vs, by rw [upd_ne h1]; exact h4, h5⟩
  · have inks : ∀ k, k ∈ ks ++ [x] → k ≠ x → k ∈ ks := fun k h c => by
      rcases List.mem_append.mp h with h | h
      · exact h
      · exact absurd (List.mem_singleton.mp h) c
    by_cases c1 : k = x
    · by_cases c2 : k' = x
      · rw [c1, c2]
      · simp only [if_pos c1, if_neg c2] at e
        exact absurd e.symm (hqf k' (inks k' hk2 c2))
    · by_cases c2 : k' = x
      · simp only [if_neg c1, if_pos c2] at e
        exact absurd e (hqf k (inks k hk1 c1))
      · simp only [if_neg c1, if_neg c2] at e
        exact inj k (inks k hk1 c1) k' (inks k' hk2 c2) e
theorem find_ks {x : List Int} {f : List Int → Addr} (h : x ∈ ks) : valV (ks.map fun k => (kx k, V.ref (f k))) (kx x) = some (V.ref (f x)) := by
  unfold valV
  rw [List.find?_map]
  have e : ((fun q : List Key × V => decide (q.1 = kx x)) ∘ fun k : List Int => (kx k, V.ref (f k))) = fun k => decide (k = x) := by
    funext k
    exact decide_eq_decide.mpr ⟨fun h => kx_inj h, fun h => congrArg kx h⟩
  rw [e]
  have f2 : ks.find? (fun k => decide (k = x)) = some x := by
    cases q : ks.find? fun k => decide (k = x) with
    | none => exact absurd (decide_eq_true rfl) (List.find?_eq_none.mp q x h)
    | some w =>
      have := List.find?_some q
      rw [of_decide_eq_true this]
  rw [f2]
  rfl
/-- found[x].append(e) -/
theorem q_appDL {x : List Int} (s : St F0 H0 F H σ δ) (no : allO δ) (h : DL H0 F H σ i ks Dd) (hb : EvE tb δ (.v (tpS x))) (hx : x ∈ ks) (he : EvE te δ (.v S)) (hz : (Dd x).length < 100000)
    (k : ∀ F' H', St F0 H0 F' H' σ δ → DL H0 F' H' σ i ks (fun y => if y = x then Dd y ++ [S] else Dd y) → tz D σ H') : tSeq (tDrop (tBM K "list" rAppend (tIx K (tVar i) tb) (tCons te tNil))) tz D σ H := by
  obtain ⟨d, _, e, _⟩ := id h
  refine .inr ⟨.ref d, e, hb F0 H0 F H σ s _ fun y F1 H1 g1 a1 => ?_⟩
  have s1 := s.grow g1
  have h1 := h.grow g1
  obtain ⟨d', f, e', hd, zz, hk, inj⟩ := id h1
  rw [e] at e'
  cases e'
  obtain ⟨b, rfl, hb2, _⟩ := fv_of a1
  obtain ⟨n1, n2, vs, hl, _⟩ := hk x hx
  refine ⟨d, .ref (f x), rfl, .inr ⟨_, kx x, b, .inl hd, rfl, by rw [kx_V]; exact g1.fh b _ hb2, (find_ks hx).symm⟩, ?_⟩
  refine ⟨.inl ⟨rfl, vs, SqL.of hl⟩, he F0 H0 F1 H1 σ s1 _ fun v F2 H2 g2 a2 => ?_⟩
  have s2 := s1.grow g2
  obtain ⟨d', f', e', hd2, ⟨z0, zf⟩, hk2, inj2⟩ := h1.grow g2
  rw [e] at e'
  cases e'
  have ef : f' x = f x := by
    have e7 := g2.hh _ _ hd
    rw [hd2] at e7
    injection e7 with e8
    injection e8 with e8
    have e9 := List.map_inj_left.mp e8 x hx
    exact V.ref.inj (Prod.mk.inj e9).2
  obtain ⟨m1, ⟨m2, m3⟩, vs2, hl2, pv2⟩ := hk2 x hx
  rw [ef] at hl2 m1 m2 m3
  have evs : vs2 = vs := by
    have := g2.hh _ _ hl
    rw [hl2] at this
    cases this
    rfl
  subst evs
  refine ⟨f x, vs2, v, rfl, rfl, hl2, by rw [pv2.length]; exact sizeLt hz, ?_⟩
  refine k F2 _ (s2.mutX no m2 m3) ⟨d, f', e, ?_, ⟨z0, zf⟩, fun y hy => ?_, inj2⟩
  · rw [upd_ne (fun z => m1 z.symm)]
    exact hd2
  · obtain ⟨h1, h2, ws, h4, h5⟩ := hk2 y hy
    by_cases c : y = x
    · subst c
      refine ⟨h1, h2, vs2 ++ [v], ?_, ?_⟩
      · rw [ef, upd_same]
      · simp only [if_pos rfl]
        exact PairS.snoc pv2 a2
    · refine ⟨h1, h2, ws, ?_, ?_⟩
      · rw [upd_ne (fun z => c (inj2 y hy x hx (z.trans ef.symm)))]
        exact h4
      · simp only [if_neg c]
        exact h5
/-! ### what is new, frozen; what is frozen, own again -/
open Classical in
noncomputable def addF (F H : Hp) (A : Addr → Prop) : Hp := fun b => if A b then H b else F b
open Classical in
noncomputable def subF (F : Hp) (A : Addr → Prop) : Hp := fun b => if A b then none else F b
theorem addF_in {A : Addr → Prop} {b : Addr} (h : A b) : addF F H A b = H b := by unfold addF; rw [if_pos h]
theorem addF_out {A : Addr → Prop} {b : Addr} (h : ¬ A b) : addF F H A b = F b := by unfold addF; rw [if_neg h]
theorem subF_in {A : Addr → Prop} {b : Addr} (h : A b) : subF F A b = none := by unfold subF; rw [if_pos h]
theorem subF_out {A : Addr → Prop} {b : Addr} (h : ¬ A b) : subF F A b = F b := by unfold subF; rw [if_neg h]
theorem same_add {A : Addr → Prop} (hA : ∀ a, A a → F a = none) : Same F (addF F H A) := fun b o e => by
  rw [addF_out (fun h => by rw [hA b h] at e; cases e)]
  exact e
theorem grow_add {A : Addr → Prop} (g : Grow F0 H0 F H) (hA : ∀ a, A a → H0 a = none ∧ F a = none) : Grow F0 H0 (addF F H A) H := by
  refine ⟨g.ff.trans (same_add fun a h => (hA a h).2), g.hh, fun b o e => ?_, fun b hb n => ?_, fun t b vs e => same_add (fun a h => (hA a h).2) b _ (g.tt t b vs e)⟩
  · by_cases c : A b
    · rw [addF_in c] at e
      exact e
    · rw [addF_out c] at e
      exact g.fh b o e
  · rw [addF_out (fun c => hb (hA b c).1)]
    exact g.nw b hb n
theorem St.add {A : Addr → Prop} (s : St F0 H0 F H σ δ) (no : allO δ) (hA : ∀ a, A a → H0 a = none ∧ F a = none) : St F0 H0 (addF F H A) H σ δ where
  g := grow_add s.g hA
  len := s.len
  at_ := fun i S h => let ⟨v, e, p⟩ := s.at_ i S h; ⟨v, e, S.mono (same_add fun a h => (hA a h).2) p⟩
  ow := fun i o h => (allO_at no h).elim
  bo := fun i o h => let ⟨p, ho, e, hp, z⟩ := s.bo i o h; ⟨p, ho, e, hp, o.mono (same_add fun a h => (hA a h).2) z⟩
  sep := s.sep
  tt := fun b vs e => same_add (fun a h => (hA a h).2) b _ (s.tt b vs e)
  ni := fun i C fs h => (allO_at no h).elim
  sepn := fun i j o a C fs h => (allO_at no h).elim
/-- return found: all its lists frozen -/
theorem q_retDL (s : St F0 H0 F H σ δ) (h : DL H0 F H σ i ks Dd) (k : ∀ v F' H', Grow F0 H0 F' H' → (refS (dicO (ks.map fun k => (kx k, lstS (Dd k))))).P F' v → D.rt v H') : tSeq (tRet (tVar i)) tz D σ H := by
  obtain ⟨d, f, e, hd, ⟨z0, zf⟩, hk, inj⟩ := h
  refine ⟨.ref d, e, ?_⟩
  have hA : ∀ a, (a = d ∨ ∃ k ∈ ks, a = f k) → H0 a = none ∧ F a = none := fun a h => by
    rcases h with rfl | ⟨k, hk', rfl⟩
    · exact ⟨z0, zf⟩
    · exact (hk k hk').2.1
  have sm : Same F (addF F H fun a => a = d ∨ ∃ k ∈ ks, a = f k) := same_add fun a h => (hA a h).2
  refine k (.ref d) (addF F H fun a => a = d ∨ ∃ k ∈ ks, a = f k) H (grow_add s.g hA) ⟨d, _, rfl, (addF_in (.inl rfl)).trans hd, _, rfl, ?_⟩
  have : ∀ l : List (List Int), (∀ k ∈ l, k ∈ ks) → Paired (fun (p : List Key × V) (q : List Key × Slot) => p.1 = q.1 ∧ q.2.P (addF F H fun a => a = d ∨ ∃ k ∈ ks, a = f k) p.2) (l.map fun k => (kx k, V.ref (f k))) (l.map fun k => (kx k, lstS (Dd k))) := by
    intro l
    induction l with
    | nil => intro _; exact .nil
    | cons a l ih =>
      intro hl
      have ha := hl a List.mem_cons_self
      obtain ⟨_, _, vs, h4, h5⟩ := hk a ha
      exact .cons ⟨rfl, f a, _, rfl, (addF_in (.inr ⟨a, ha, rfl⟩)).trans h4, vs, rfl, PairS.mono sm h5⟩ (ih fun k hk => hl k (List.mem_cons_of_mem _ hk))
  exact this ks fun _ h => h
end
/-! ### a pair popped -/
theorem q_popT2 (s : St F0 H0 F H σ δ) (hi : δ[i]? = some (.ow (lstO (ss ++ [tupS [S1, S2]])))) (k : ∀ σ' F' H', St F0 H0 F' H' σ' (((δ.set i (.ow (lstO ss))).set i1 (.v S1)).set i2 (.v S2)) → tz D σ' H') :
    tSeq (tAsg (tBM0 K "list" rPop (tVar i)) (gTup K 2 (gCons (gName i1) (gCons (gName i2) gNil)))) tz D σ H := by
  obtain ⟨p, ho, e, hp, vs, rfl, pv⟩ := s.loc hi
  have split : ∀ {vs : List V} {ss : List Slot} {T : Slot}, PairS F vs (ss ++ [T]) → ∃ ws w, vs = ws ++ [w] ∧ PairS F ws ss ∧ T.P F w := by
    intro vs ss T h
    induction ss generalizing vs with
    | nil =>
      cases h with
      | cons p t => cases t with
        | nil => exact ⟨[], _, rfl, .nil, p⟩
    | cons a l ih =>
      cases h with
      | cons p t =>
        obtain ⟨ws, w, rfl, h1, h2⟩ := ih t
        exact ⟨_ :: ws, w, rfl, .cons p h1, h2⟩
  obtain ⟨ws, w, rfl, h1, t, ho, rfl, ht, us, rfl, pu⟩ := split pv
  refine ⟨.ref p, e, .inl ⟨rfl, _, SqL.of hp⟩, p, _, .ref t, rfl, rfl, hp, by simp, ?_⟩
  rw [List.dropLast_concat]
  have s1 := s.mut (ho := .lst ws) (o' := lstO ss) hi e ⟨ws, rfl, h1⟩
  cases pu with
  | cons p1 t1 => cases t1 with
    | cons p2 t2 => cases t2 with
      | nil =>
        have htp : t ≠ p := fun z => by
          have := s.fh t _ ht
          rw [z, hp] at this
          cases this
        exact ⟨t, _, rfl, SqT.of (s1.fh t _ ht), rfl, _, _, rfl, _, _, rfl, rfl, k _ F _ ((s1.set_v p1).set_v p2)⟩
/-! ### one of many -/
def exO {ι : Type} (P : ι → Prop) (o : ι → Own) : Own := ⟨fun F a ho => ∃ i, P i ∧ (o i).P F a ho, fun s ⟨i, h, z⟩ => ⟨i, h, (o i).mono s z⟩⟩
/-- for x in reversed(xs) -/
theorem q_forRevEx {ι : Type} {P : ι → Prop} {f : ι → List Slot} (s : St F0 H0 F H σ δ) (h : EvAs tr δ [.v (refS (exO P fun i => lstO (f i)))]) (I : ι → Nat → List Ent → Prop) (h0 : ∀ i, P i → I i 0 δ)
    (hs : ∀ i, P i → ∀ F1, Base F0 H0 F1 → ∀ n T δ' σ' F' H', n < (f i).length → (f i).reverse[n]? = some T → I i n δ' → St F1 H0 F' H' σ' (δ'.set j (.v T)) → tu ⟨NX F1 H0 (I i (n + 1)), D.rt, tz D, NX F1 H0 (I i (n + 1))⟩ σ' H')
    (hd : ∀ i, P i → ∀ δ' σ' F' H', I i (f i).length δ' → St F0 H0 F' H' σ' δ' → tz D σ' H') : tSeq (tFor (iRev K tr) (gName j) tu) tz D σ H := by
  refine h F0 H0 F H σ s _ fun vs F1 H1 g1 a1 => ?_
  obtain ⟨x, ex, b1⟩ := one a1
  subst ex
  obtain ⟨p, ho, rfl, hp, ι0, hP, ws, rfl, pv⟩ := b1
  have s1 := s.grow g1
  refine ⟨p, ws, rfl, SqL.of (g1.fh p _ hp), RT.for_Itv (D := { D with nx := tz D }) (xs := ws) (fun n => NX F1 H0 (I ι0 n)) ⟨F1, δ, s1.rebase, h0 ι0 hP⟩ ?_ ?_ ?_⟩
  · rintro n σ' H' ⟨F', δ', s', _⟩
    exact SqL.of (s'.fh p _ (s'.g.ff p _ hp))
  · rintro n x σ' H' hn hx ⟨F', δ', s', hI⟩
    have hl : ws.length = (f ι0).length := pv.length
    have hn2 : n < (f ι0).length := by rw [← hl]; exact hn
    have hg : (f ι0).reverse[n]? = some (f ι0)[(f ι0).length - 1 - n] := by
      rw [List.getElem?_reverse hn2, List.getElem?_eq_getElem (by omega)]
    obtain ⟨w, hw, q⟩ := PairS.get (i := (f ι0).length - 1 - n) (PairS.mono s'.g.ff pv) (List.getElem?_eq_getElem (by omega))
    rw [← hl] at hw
    rw [hx] at hw
    cases hw
    exact hs ι0 hP F1 s1.base n _ δ' _ F' H' hn2 hg hI (s'.set_v q)
  · rintro σ' H' ⟨F', δ', s', hI⟩
    rw [pv.length] at hI
    exact hd ι0 hP δ' σ' F' H' hI (s'.unbase s1.base)
/-! ### lists of new lists -/
def newS (H0 : Hp) (o : Own) : Slot := ⟨fun F v => ∃ a ho, v = .ref a ∧ F a = some ho ∧ o.P F a ho ∧ H0 a = none, fun s ⟨a, ho, e, h, p, n⟩ => ⟨a, ho, e, s a _ h, o.mono s p, n⟩⟩
theorem q_appNew (s : St F0 H0 F H σ δ) (hi : δ[i]? = some (.ow (lstO ss))) (h : EvO te δ o) (hz : ss.length < 100000) (k : ∀ σ' F' H', St F0 H0 F' H' σ' (δ.set i (.ow (lstO (ss ++ [newS H0 o])))) → tz D σ' H') :
    tSeq (tDrop (tBM K "list" rAppend (tVar i) (tCons te tNil))) tz D σ H := by
  obtain ⟨p, ho, e, hp, vs, rfl, pv⟩ := s.loc hi
  refine ⟨.ref p, e, .inl ⟨rfl, vs, SqL.of hp⟩, h F0 H0 F H σ s _ fun q ho F' H' g hn hf hq z => ?_⟩
  have g2 := g.freeze hn hf hq
  have s' := s.grow g2
  refine ⟨p, vs, .ref q, rfl, rfl, g2.hh p _ hp, by rw [pv.length]; exact sizeLt hz, ?_⟩
  exact k _ (upd F' q ho) _ (s'.mut hi e ⟨_, rfl, PairS.snoc (PairS.mono g2.ff pv) ⟨q, ho, rfl, upd_same, o.mono (same_upd hf) z, s.g.hh.free hn⟩⟩)
def encK (c : List (List Int)) : PyData := .list (c.map tpD)
/-- sorted(xs), xs lists of tuples of ints -/
def rSortLL (K : PySem.W.Frag) : List V → Hp → VK → Prop := fun vs H Q => ∃ (a : Addr) (xs : List V) (bs : List (List (List Int))) (R : V → List (List Int) → Prop), vs = [V.ref a] ∧ SqL K H a xs ∧ bs.length ≤ 100000 ∧ Paired R xs bs ∧ (∀ x b, R x b → Dp K H x (encK b)) ∧
  ∀ (ys : List V) (p : Addr), Paired R ys (bs.mergeSort (PySem.W.dataLe false encK)) → H p = none → Q (.ref p) (upd H p (.lst ys))
theorem alike_tps : ∀ xs ys : List (List Int), PySem.W.alikeAll (xs.map tpD) (ys.map tpD) = true
  | [], _ => by rw [List.map_nil, PySem.W.alikeAll]
  | _ :: _, [] => by rw [List.map_nil, List.map_cons, PySem.W.alikeAll]
  | x :: xs, y :: ys => by
    rw [List.map_cons, List.map_cons, PySem.W.alikeAll, alike_tps xs ys, Bool.and_true]
    unfold tpD
    simp only [PySem.W.alike]
    exact PySem.W.alike_ints x y
theorem alike_enc (b b' : List (List Int)) : PySem.W.alike (encK b) (encK b') = true := by
  unfold encK
  simp only [PySem.W.alike]
  exact alike_tps b b'
theorem enc_depth (b : List (List Int)) : (encK b).depth ≤ 2 := by
  unfold encK
  simp only [PyData.depth]
  have : PyData.depthAll (b.map tpD) ≤ 1 := by
    induction b with
    | nil => exact Nat.zero_le _
    | cons x b ih =>
      rw [List.map_cons]
      simp only [PyData.depthAll]
      refine Nat.max_le.mpr ⟨?_, ih⟩
      unfold tpD
      simp only [PyData.depth]
      rw [PySem.W.depth_ints]
      exact Nat.le_refl _
  omega
theorem cr_sortedLL {X : Cx} (hu : X.A.units + 64 < cLine) : CallR X (.builtin "sorted") (rSortLL X.K) := by
  intro pins s σ H vs us Q I r h
  obtain ⟨a, xs, bs, R, rfl, hs, hL, hp, hR, q⟩ := h
  rw [Vals.ref1 r]
  obtain ⟨its, rv, hl, hz⟩ := I.list hs
  have each : ∀ {xs : List V} {its : List Value} {bs : List (List (List Int))}, Vals xs its → Paired R xs bs → PySem.W.EachIs (fun v b => ∃ x, RelV x v ∧ R x b) its bs := by
    intro xs its bs rv hp
    induction hp generalizing its with
    | nil => cases rv; exact .nil
    | cons p _ ih =>
      cases rv with
      | cons r1 r2 => exact .cons ⟨_, r1, p⟩ (ih r2)
  have e := each rv hp
  refine PySem.W.sorted_data (enc := encK) (R := fun v b => ∃ x, RelV x v ∧ R x b) hl.isList e (e.mono fun v b ⟨x, rx, hx⟩ => Dp.reads I (encK b) x v (hR x b hx) rx) (PySem.W.AllAlike.of alike_enc) (PySem.W.Sortable.others fun b => ⟨fun h => (by unfold encK at h; cases h), fun xs h => (by unfold encK at h; cases h)⟩) (size_ok hL)
    (fun b _ => by have := enc_depth b; omega) fun out hlen eo => ?_
  have back : ∀ {out : List Value} {cs : List (List (List Int))}, PySem.W.EachIs (fun v b => ∃ x, RelV x v ∧ R x b) out cs → ∃ ys, Vals ys out ∧ Paired R ys cs := by
    intro out cs h
    induction h with
    | nil => exact ⟨[], .nil, .nil⟩
    | cons p _ ih =>
      obtain ⟨x, r1, r2⟩ := p
      obtain ⟨ys, h1, h2⟩ := ih
      exact ⟨x :: ys, .cons r1 h1, .cons r2 h2⟩
  obtain ⟨ys, vy, py⟩ := back eo
  obtain ⟨ep, he'⟩ := PyProof.Rows.sortedAll_at s.heap its out.toArray
  refine ⟨.ref _, upd H (s.heap.objs.size + 1) (.lst ys), I.laid (t' := s.toks) (fun _ _ => PyProof.Rows.sortedAll_old) (Nat.le_succ _) ⟨?_, out, ep, vy, he'⟩, rfl, q _ _ py (I.hok.fresh (Nat.le_succ _))⟩
  rw [vy.length, hlen]
  exact size_ok hL
def rSortJL (K : PySem.W.Frag) : List V → Hp → VK → Prop := fun vs H Q => rSortJ K vs H Q ∨ rSortLL K vs H Q
theorem kc_sortedL {X : Cx} {k : Nat} (hK : X.K = K) (hc : X.calm = true) (hr : Room k X.A) : CallR X (.builtin "sorted") (rSortJL K) := by
  subst hK
  exact CallR.or (kc_sorted rfl hc) (cr_sortedLL (Room.u64 hr))
theorem eo_sortTL {xs : List (List Int)} {d : Nat} (h : EvE te δ e1) (hr : IsR e1 (lstO (xs.map tpS))) (hd : 1 ≤ d) (hx : ∀ x ∈ xs, TOk d x) : EvO (tCB (rSortJL K) (tCons te tNil)) δ (lstO ((sortT xs).map tpS)) := fun F0 H0 F H σ s Q q =>
  h F0 H0 F H σ s _ fun v F1 H1 g1 a1 => by
    obtain ⟨p, ho, rfl, hp, vs, rfl, pv⟩ := hr.get a1 g1.fh
    have mt := mem_tp pv
    refine .inl (.inl ⟨p, vs, fv F1, d, 64, rfl, SqL.of hp, hd, fun x hm => ?_, fun ys r hperm hs hr => ?_⟩)
    · obtain ⟨⟨t, e1, e2⟩, e3⟩ := mt x hm
      exact ⟨⟨t, e1, SqT.of (g1.fh t _ e2)⟩, hx _ e3⟩
    · have e : ys.map (fv F1) = sortT xs := by
        refine sortT_uniq hx ?_ (List.pairwise_map.mpr hs)
        rw [← pairs_tp pv]
        exact hperm.map _
      refine q r _ F1 _ (g1.trans (Grow.newH g1.fh hr)) (g1.hh.free hr) (g1.fh.free hr) upd_same ⟨_, rfl, ?_⟩
      rw [← e]
      exact tp_pairs fun y hy => (mt y (hperm.mem_iff.mp hy)).1
/-- a new list of new lists of tuples -/
def NestV (H0 F H : Hp) (KK : List (List (List Int))) (v : V) : Prop := ∃ (p : Addr) (as : List Addr), v = .ref p ∧ H p = some (.lst (as.map V.ref)) ∧ (p :: as).Nodup ∧ (H0 p = none ∧ F p = none) ∧
  Paired (fun a c => (H0 a = none ∧ F a = none) ∧ ∃ vs, H a = some (.lst vs) ∧ PairS F vs (c.map tpS)) as KK
theorem dp_tp {x : List Int} {v : V} (s : Same F H) (h : (tpS x).P F v) : Dp K H v (tpD x) := (dat_it (K := K) (e := .v (tpS x)) (xs := x) isR_v).to F H v s h
/-- return sorted(xs), xs a list of new lists -/
theorem q_retNest {Ks KK : List (List (List Int))} (s : St F0 H0 F H σ δ) (f0 : Same F0 H0) (hi : δ[i]? = some (.ow (lstO (Ks.map fun c => newS H0 (lstO (c.map tpS)))))) (hz : Ks.length ≤ 100000) (hk : Ks.mergeSort (PySem.W.dataLe false encK) = KK) (nd : KK.Nodup)
    (k : ∀ v F' H', Grow F0 H0 F' H' → NestV H0 F' H' KK v → D.rt v H') : tSeq (tRet (tCB (rSortJL K) (tCons (tVar i) tNil))) tz D σ H := by
  obtain ⟨p0, ho, e, hp, vs, rfl, pv⟩ := s.loc hi
  refine ⟨.ref p0, e, .inr ⟨p0, vs, Ks, fun x c => (newS H0 (lstO (c.map tpS))).P F x, rfl, SqL.of hp, hz, ?_, fun x c h => ?_, fun ys p py hn => ?_⟩⟩
  · have : ∀ {vs : List V} {Ks : List (List (List Int))}, PairS F vs (Ks.map fun c => newS H0 (lstO (c.map tpS))) → Paired (fun x c => (newS H0 (lstO (c.map tpS))).P F x) vs Ks := by
      intro vs Ks h
      induction Ks generalizing vs with
      | nil => cases h; exact .nil
      | cons c Ks ih =>
        cases h with
        | cons p t => exact .cons p (ih t)
    exact this pv
  · obtain ⟨a, ho, rfl, ha, ⟨ws, rfl, pw⟩, _⟩ := h
    refine .lst (SqL.of (s.fh a _ ha)) ?_
    have : ∀ {ws : List V} {c : List (List Int)}, PairS F ws (c.map tpS) → DpAll K H ws (c.map tpD) := by
      intro ws c h
      induction c generalizing ws with
      | nil => cases h; exact .nil
      | cons x c ih =>
        cases h with
        | cons p t => exact .cons (dp_tp s.fh p) (ih t)
    exact this pw
  · rw [hk] at py
    have hnd : ∀ {ys : List V} {L : List (List (List Int))}, Paired (fun x c => (newS H0 (lstO (c.map tpS))).P F x) ys L → ∃ as : List Addr, ys = as.map V.ref ∧ Paired (fun a c => H0 a = none ∧ ∃ vs, F a = some (.lst vs) ∧ PairS F vs (c.map tpS)) as L := by
      intro ys L h
      induction h with
      | nil => exact ⟨[], rfl, .nil⟩
      | cons p _ ih =>
        obtain ⟨as, e1, e2⟩ := ih
        obtain ⟨a, ho, rfl, ha, ⟨ws, rfl, pw⟩, n⟩ := p
        exact ⟨a :: as, by rw [e1]; rfl, .cons ⟨n, ws, ha, pw⟩ e2⟩
    obtain ⟨as, rfl, pa⟩ := hnd py
    have inl : ∀ {as : List Addr} {L : List (List (List Int))}, Paired (fun a c => H0 a = none ∧ ∃ vs, F a = some (.lst vs) ∧ PairS F vs (c.map tpS)) as L → ∀ a ∈ as, ∃ c ∈ L, H0 a = none ∧ ∃ vs, F a = some (.lst vs) ∧ PairS F vs (c.map tpS) := by
      intro as L h
      induction h with
      | nil => intro a ha; cases ha
      | cons p _ ih =>
        intro a ha
        rcases List.mem_cons.mp ha with rfl | ha
        · exact ⟨_, List.mem_cons_self, p⟩
        · obtain ⟨c, hc, q⟩ := ih a ha
          exact ⟨c, List.mem_cons_of_mem _ hc, q⟩
    have asnd : as.Nodup := by
      have : ∀ {as : List Addr} {L : List (List (List Int))}, Paired (fun a c => H0 a = none ∧ ∃ vs, F a = some (.lst vs) ∧ PairS F vs (c.map tpS)) as L → L.Nodup → as.Nodup := by
        intro as L h
        induction h with
        | nil => intro _; exact List.nodup_nil
        | @cons a c as L p t ih =>
          intro hL
          obtain ⟨h1, h2⟩ := List.nodup_cons.mp hL
          refine List.nodup_cons.mpr ⟨fun ha => ?_, ih h2⟩
          obtain ⟨c', hc', _, ws, hw, pw⟩ := inl t a ha
          obtain ⟨_, us, hu, pu⟩ := p
          rw [hu] at hw
          cases hw
          have e1 := pairs_tp pu
          have e2 := pairs_tp pw
          rw [e1] at e2
          exact h1 (e2 ▸ hc')
      exact this pa nd
    have inH : ∀ a ∈ as, H0 a = none ∧ ∃ vs, F a = some (.lst vs) := fun a ha => by
      obtain ⟨_, _, h1, vs, h2, _⟩ := inl pa a ha
      exact ⟨h1, vs, h2⟩
    have pna : p ∉ as := fun h => by
      obtain ⟨_, vs, h2⟩ := inH p h
      have := s.fh p _ h2
      rw [hn] at this
      cases this
    have hgn := Grow.newH (o := .lst (as.map V.ref)) s.fh hn
    have gg := s.g.trans hgn
    have fp : F p = none := s.fh.free hn
    refine k (.ref p) (subF F (· ∈ as)) _ ⟨fun b o e => ?_, gg.hh, fun b o e => ?_, fun b hb n => ?_, fun t b vs e => ?_⟩ ⟨p, as, rfl, upd_same, List.nodup_cons.mpr ⟨pna, asnd⟩, ⟨s.g.hh.free hn, by rw [subF_out pna]; exact fp⟩, ?_⟩
    · rw [subF_out (fun h => by
        have := f0 b o e
        rw [(inH b h).1] at this
        cases this)]
      exact gg.ff b o e
    · by_cases c : b ∈ as
      · rw [subF_in c] at e
        cases e
      · rw [subF_out c] at e
        exact gg.fh b o e
    · by_cases c : b ∈ as
      · exact subF_in c
      · rw [subF_out c]
        exact gg.nw b hb n
    · have e3 := gg.tt t b vs e
      rw [subF_out (fun h => by
        obtain ⟨_, ws, h2⟩ := inH b h
        rw [h2] at e3
        cases e3)]
      exact e3
    · have fin : ∀ {bs : List Addr} {L : List (List (List Int))}, (∀ b ∈ bs, b ∈ as) → Paired (fun a c => H0 a = none ∧ ∃ vs, F a = some (.lst vs) ∧ PairS F vs (c.map tpS)) bs L →
          Paired (fun a c => (H0 a = none ∧ subF F (· ∈ as) a = none) ∧ ∃ vs, upd H p (.lst (as.map V.ref)) a = some (.lst vs) ∧ PairS (subF F (· ∈ as)) vs (c.map tpS)) bs L := by
        intro bs L hb h
        induction h with
        | nil => exact .nil
        | @cons a c bs L q _ ih =>
          have ha := hb a List.mem_cons_self
          obtain ⟨h1, vs, h2, h3⟩ := q
          refine .cons ⟨⟨h1, subF_in ha⟩, vs, ?_, ?_⟩ (ih fun b h => hb b (List.mem_cons_of_mem _ h))
          · rw [upd_ne (fun z => pna (by rw [← z]; exact ha))]
            exact s.fh a _ h2
          · have : ∀ {ws : List V} {c : List (List Int)}, PairS F ws (c.map tpS) → PairS (subF F (· ∈ as)) ws (c.map tpS) := by
              intro ws c h
              induction c generalizing ws with
              | nil => cases h; exact .nil
              | cons x c ih =>
                cases h with
                | cons p1 t1 =>
                  obtain ⟨t, ho, rfl, ht, us, rfl, pu⟩ := p1
                  have e1 := PairS.kmap (f := V.int) pu
                  subst e1
                  refine .cons (tp_of (F := subF F (· ∈ as)) ?_) (ih t1)
                  rw [subF_out (fun h => by
                    obtain ⟨_, ws, h2⟩ := inH t h
                    rw [h2] at ht
                    cases ht)]
                  exact ht
            exact this h3
      exact fin (fun b h => h) pa
/-! ### what a call tells of the heaps -/
theorem q_setG {R : Rel} {E : XK} {P : Hp → Hp → Hp → Hp → V → Prop} (s : St F0 H0 F H σ δ) (hi : i < δ.length) (h : EvAs tr δ es) (hR : R es (.g P)) (k : ∀ σ' F1 H1 F' H' v, Grow F H F1 H1 → St F0 H0 F' H' σ' (δ.set i .un) → σ'[i]? = some (some v) → P F1 H1 F' H' v → tz D σ' H') :
    tSeq (tAsg (tCall (SpOf R) [] E tr) (gName i)) tz D σ H :=
  h F0 H0 F H σ s _ fun vs F1 H1 g1 a1 => ⟨F1, es, .g P, g1.fh, (s.grow g1).tt, pair_app a1, hR, fun v F' H' g hv => k _ F1 H1 F' H' v g1 (((s.grow g1).grow g).set_un (some v)) (List.getElem?_set_self (by rw [s.len]; exact hi)) hv⟩
theorem NestV.less {H1 : Hp} {KK : List (List (List Int))} {v : V} (h : NestV H1 F H KK v) (sm : Same H0 H1) : NestV H0 F H KK v := by
  obtain ⟨p, as, e, hp, nd, ⟨z0, zf⟩, pa⟩ := h
  exact ⟨p, as, e, hp, nd, ⟨sm.free z0, zf⟩, Paired.mapP pa fun a c ⟨⟨h1, h2⟩, h3⟩ => ⟨⟨sm.free h1, h2⟩, h3⟩⟩
theorem NestV.grow {F' H' : Hp} {KK : List (List (List Int))} {v : V} (g : Grow F H F' H') (h : NestV H0 F H KK v) : NestV H0 F' H' KK v := by
  obtain ⟨p, as, e, hp, nd, ⟨z0, zf⟩, pa⟩ := h
  exact ⟨p, as, e, g.hh p _ hp, nd, ⟨z0, g.nw p (by rw [hp]; exact fun z => nomatch z) zf⟩, Paired.mapP pa fun a c ⟨⟨h1, h2⟩, vs, h3, h4⟩ => ⟨⟨h1, g.nw a (by rw [h3]; exact fun z => nomatch z) h2⟩, vs, g.hh a _ h3, PairS.mono g.ff h4⟩⟩
/-- a test while the nest is taken as frozen -/
theorem q_whenFz {KK : List (List (List Int))} {v : V} {tt : TT} (s : St F0 H0 F H σ δ) (no : allO δ) (hi : δ[i]? = some .un) (hv : σ[i]? = some (some v)) (n : NestV H0 F H KK v) (h : EvT tt (δ.set i (.v (lstS (KK.map fun c => lstS (c.map tpS))))) false)
    (k : ∀ F' H', St F0 H0 F' H' σ δ → NestV H0 F' H' KK v → tz D σ H') : tSeq (tIfS tt tu tNext) tz D σ H := by
  obtain ⟨p, as, rfl, hp, nd, ⟨z0, zf⟩, pa⟩ := id n
  have inl : ∀ {as : List Addr} {L : List (List (List Int))}, Paired (fun a c => (H0 a = none ∧ F a = none) ∧ ∃ vs, H a = some (.lst vs) ∧ PairS F vs (c.map tpS)) as L → ∀ a ∈ as, (H0 a = none ∧ F a = none) ∧ ∃ vs, H a = some (.lst vs) := by
    intro as L h
    induction h with
    | nil => intro a ha; cases ha
    | cons p _ ih =>
      intro a ha
      rcases List.mem_cons.mp ha with rfl | ha
      · obtain ⟨h1, vs, h2, _⟩ := p
        exact ⟨h1, vs, h2⟩
      · exact ih a ha
  have hA : ∀ a, a ∈ p :: as → H0 a = none ∧ F a = none := fun a ha => by
    rcases List.mem_cons.mp ha with rfl | ha
    · exact ⟨z0, zf⟩
    · exact (inl pa a ha).1
  have hL : ∀ a, a ∈ p :: as → ∃ vs, H a = some (.lst vs) := fun a ha => by
    rcases List.mem_cons.mp ha with rfl | ha
    · exact ⟨_, hp⟩
    · exact (inl pa a ha).2
  have sm : Same F (addF F H (· ∈ p :: as)) := same_add fun a h => (hA a h).2
  have hil : i < δ.length := (List.getElem?_eq_some_iff.mp hi).1
  have eσ : σ.set i (some (V.ref p)) = σ := by
    obtain ⟨hlt, e3⟩ := List.getElem?_eq_some_iff.mp hv
    rw [← e3]
    exact List.set_getElem_self hlt
  have s1 : St F0 H0 (addF F H (· ∈ p :: as)) H σ (δ.set i (.v (lstS (KK.map fun c => lstS (c.map tpS))))) := by
    have q := (s.add (A := (· ∈ p :: as)) no hA).set_v (i := i) (v := .ref p) (S := lstS (KK.map fun c => lstS (c.map tpS))) ⟨p, _, rfl, (addF_in List.mem_cons_self).trans hp, _, rfl, ?_⟩
    · rw [eσ] at q
      exact q
    · have : ∀ {bs : List Addr} {L : List (List (List Int))}, (∀ b ∈ bs, b ∈ p :: as) → Paired (fun a c => (H0 a = none ∧ F a = none) ∧ ∃ vs, H a = some (.lst vs) ∧ PairS F vs (c.map tpS)) bs L → PairS (addF F H (· ∈ p :: as)) (bs.map V.ref) (L.map fun c => lstS (c.map tpS)) := by
        intro bs L hb h
        induction h with
        | nil => exact .nil
        | @cons a c bs L q _ ih =>
          obtain ⟨_, vs, h2, h3⟩ := q
          exact .cons ⟨a, _, rfl, (addF_in (hb a List.mem_cons_self)).trans h2, vs, rfl, PairS.mono sm h3⟩ (ih fun b h => hb b (List.mem_cons_of_mem _ h))
      exact this (fun b h => List.mem_cons_of_mem _ h) pa
  refine h F0 H0 _ H σ s1 _ fun F' H' g => ?_
  have hg : Grow F H (subF F' (· ∈ p :: as)) H' := by
    refine ⟨fun b o e => ?_, g.hh, fun b o e => ?_, fun b hb n' => ?_, fun t b vs e => ?_⟩
    · have hb : b ∉ p :: as := fun h => by rw [(hA b h).2] at e; cases e
      rw [subF_out hb]
      exact g.ff b o (sm b o e)
    · by_cases c : b ∈ p :: as
      · rw [subF_in c] at e
        cases e
      · rw [subF_out c] at e
        exact g.fh b o e
    · by_cases c : b ∈ p :: as
      · exact subF_in c
      · rw [subF_out c]
        exact g.nw b hb (by rw [addF_out c]; exact n')
    · have e3 := g.tt (fun b vs e => sm b _ (t b vs e)) b vs e
      rw [subF_out (fun h => by
        obtain ⟨ws, hw⟩ := hL b h
        have := g.hh b _ hw
        rw [e] at this
        cases this)]
      exact e3
  show tz D σ H'
  exact k _ H' (s.grow hg) (n.grow hg)
/-- v[0].append(e) -/
theorem q_app0 {c : List (List Int)} {KK : List (List (List Int))} {v : V} (s : St F0 H0 F H σ δ) (no : allO δ) (hv : σ[i]? = some (some v)) (n : NestV H0 F H (c :: KK) v) (he : EvE te δ (.v S)) (hz : c.length < 100000)
    (k : ∀ F' H' p, v = .ref p → St F0 H0 F' H' σ δ → (∃ ws, H' p = some (.lst ws) ∧ ws.length = KK.length + 1) → (H0 p = none ∧ F' p = none) → tz D σ H') : tSeq (tDrop (tBM K "list" rAppend (tIx K (tVar i) (tC (.int 0))) (tCons te tNil))) tz D σ H := by
  obtain ⟨p, as, rfl, hp, nd, ⟨z0, zf⟩, pa⟩ := n
  cases pa with
  | @cons a _ as' _ q pa' =>
    obtain ⟨⟨h1, h2⟩, vs, h3, h4⟩ := q
    refine .inl ⟨.ref p, hv, .inl ⟨p, V.ref a :: as'.map V.ref, 0, .ref a, rfl, rfl, SqL.of hp, atI_nat (xs := V.ref a :: as'.map V.ref) (j := 0) rfl, ?_⟩⟩
    refine ⟨.inl ⟨rfl, vs, SqL.of h3⟩, he F0 H0 F H σ s _ fun w F2 H2 g2 a2 => ?_⟩
    have s2 := s.grow g2
    have pa3 := g2.hh a _ h3
    have npa : p ≠ a := fun z => (List.nodup_cons.mp nd).1 (z ▸ List.mem_cons_self)
    refine ⟨a, vs, w, rfl, rfl, pa3, by rw [h4.length, List.length_map]; exact sizeLt hz, ?_⟩
    refine k F2 _ p rfl (s2.mutX no h1 (g2.nw a (by rw [h3]; exact fun z => nomatch z) h2)) ⟨V.ref a :: as'.map V.ref, ?_, ?_⟩ ⟨z0, g2.nw p (by rw [hp]; exact fun z => nomatch z) zf⟩
    · rw [upd_ne npa]
      exact g2.hh p _ hp
    · rw [List.length_cons, List.length_map, Paired.length pa']
/-- v.append(e) -/
theorem q_appR {p : Addr} (s : St F0 H0 F H σ δ) (no : allO δ) (hv : σ[i]? = some (some (.ref p))) (hp : ∃ ws, H p = some (.lst ws) ∧ ws.length < 100000) (hf : H0 p = none ∧ F p = none) (he : EvE te δ (.v S)) (k : ∀ F' H', St F0 H0 F' H' σ δ → tz D σ H') :
    tSeq (tDrop (tBM K "list" rAppend (tVar i) (tCons te tNil))) tz D σ H := by
  obtain ⟨ws, hp, hl⟩ := hp
  refine ⟨.ref p, hv, .inl ⟨rfl, ws, SqL.of hp⟩, he F0 H0 F H σ s _ fun w F2 H2 g2 a2 => ?_⟩
  exact ⟨p, ws, w, rfl, rfl, g2.hh p _ hp, sizeLt hl, k F2 _ ((s.grow g2).mutX no hf.1 (g2.nw p (by rw [hp]; exact fun z => nomatch z) hf.2))⟩
end
end J

namespace J
open PySem PySem.Spec L2 PyProof.Rows
/-! ### a comprehension out of which an exception flies -/
section
variable {M : Model} {A : Around} {E : Value → Shared → Prop} {s : Shared} {env : Env}
/-- the block's environment -/
abbrev blkEnv (scope : Scope) (env cenv : Env) : Env := { cenv with scope := relabel scope env }
theorem kinds_of {scope : Scope} (c5 : ∀ x ∈ scope.names, x.2 = .local → scope.names.lookup x.1 = some .local) {vs : List (Str × NameKind)} (sub : ∀ x ∈ vs, x ∈ scope.names) (ce : Env) :
    ∀ x ∈ vs, x.2 = .local → (blkEnv scope env ce).kindOf x.1 = some .local := fun x hx hl => lookup_relabel_local (c5 x (sub x hx) hl)
theorem compr_x {e : Expr} {scope : Scope} {pos : Pos} {newAcc first : Sem Value} {g : Comprehension} {gs : List Comprehension} {cl : List (Str × Addr)} {use : Option (Value → Sem Unit)} {Q : Value → Shared → Prop} {R : Value → Env → Result → Shared → Prop}
    (c1 : clausesOf e = g :: gs) (c2 : ∀ x, foldedSetIterable g.iter env x = pure x) (c3 : closureFor scope env = pure cl) (c4 : scope.kind = .function) (c5 : ∀ x ∈ scope.names, x.2 = .local → scope.names.lookup x.1 = some .local)
    (ok : ∀ acc ce f s', R acc ce (.ok f) s' → compPost M A E use Q acc ce.locals (.ok f) s')
    (er : ∀ acc ce x s', R acc ce (.error x) s' → ∃ m, s'.heap.Ns ce.locals m ∧ ∀ h', Heap.SameBut ce.locals s'.heap h' → wpAny M A (passOn "comprehension.variables-let-go" x ce : Sem Value) (fun _ _ => False) E { s' with heap := h' })
    (h : wpAny M A first (fun x s1 => wpAny M A (pyIter x) (fun it s2 => wpAny M A newAcc (fun acc s3 => wpAny M A (newFunctionEnv scope env.globals cl [] env.qual none .none (some env)) (fun ce s4 =>
      codeAny M A (.compStart e 0 it acc (blkEnv scope env ce)) (R acc (blkEnv scope env ce)) s4) E s3) E s2) E s1) E s) :
    wpAny M A (comprehension e scope env pos newAcc false first use) Q E s := by
  have id2 : ∀ (x : Value) (t : Shared), E x t → E x t := fun _ _ z => z
  have mem1 : ∀ x ∈ (scope.names.filter fun x => (x.2 == .local || x.2 == .cell) && x.1 != (".0" : Str)).reverse, x ∈ scope.names := fun x hx => (List.mem_filter.mp (List.mem_reverse.mp hx)).1
  have mem2 : ∀ x ∈ (scope.names.filter fun x => (x.2 == .local || x.2 == .cell) && x.1 != (".0" : Str)).reverse.drop 1 ++ (scope.names.filter fun x => (x.2 == .local || x.2 == .cell) && x.1 != (".0" : Str)).reverse.take 1, x ∈ scope.names := fun x hx =>
    (List.mem_append.mp hx).elim (fun z => mem1 x (List.mem_of_mem_drop z)) fun z => mem1 x (List.mem_of_mem_take z)
  unfold comprehension
  rw [c3, c1]
  apply wpAny_bind
  refine wpAny_mono h (fun x s1 k1 => ?_) id2
  apply wpAny_bind
  apply wpAny_standAt
  apply wpAny_bind
  refine wpAny_of_eq (c2 x) ?_
  apply wpAny_bind
  apply wpAny_holding
  refine wpAny_mono k1 (fun it s2 k2 => ?_) id2
  apply wpAny_standIf
  apply wpAny_bind
  refine wpAny_mono k2 (fun acc s3 k3 => ?_) id2
  apply wpAny_bind
  apply wpAny_pure
  apply wpAny_bind
  refine wpAny_mono k3 (fun ce s4 k4 => ?_) id2
  dsimp only
  apply wpAny_holding
  apply wpAny_bind
  apply wpAny_attempt
  apply wpAny_holding
  refine wpAny_run (codeAny_mono k4 fun r s5 hr => ?_)
  cases r with
  | error x =>
    obtain ⟨m, ns, hr⟩ := er _ _ _ _ hr
    apply wpAny_bind
    apply wpAny_holding
    exact wpAny_comp_letGo (cenv := blkEnv scope env ce) c4 _ s5 m (kinds_of c5 mem1 ce) ns fun h' _ _ sb => wpAny_mono (hr h' sb) (fun _ _ z => False.elim z) id2
  | ok f =>
    have hr := ok _ _ _ _ hr
    cases use with
    | none =>
      obtain ⟨m, ns, hr⟩ := hr
      apply wpAny_bind
      apply wpAny_holding
      exact wpAny_comp_letGo (cenv := blkEnv scope env ce) c4 _ s5 m (kinds_of c5 mem1 ce) ns fun h' _ _ sb => wpAny_pure (hr h' sb)
    | some u =>
      apply wpAny_bind
      apply wpAny_rule
      apply wpAny_bind
      apply wpAny_holding
      refine wpAny_mono hr (fun _ s6 ⟨m, ns, hr⟩ => ?_) id2
      apply wpAny_bind
      exact wpAny_comp_letGo (cenv := blkEnv scope env ce) c4 _ s6 m (kinds_of c5 mem2 ce) ns fun h' _ _ sb => wpAny_pure (hr h' sb)
end
theorem note_eq {e : Value} {c c' : Env} (h : c.frame = c'.frame) : noteFrame e c = noteFrame e c' := by
  unfold noteFrame PySem.frameOf
  rw [h]
theorem noted_at {M : Model} {A : Around} {E : Value → Shared → Prop} {s : Shared} {env : Env} {outer : List Env} {L a : Addr} {B : Heap} {Z : Obj → Prop} {Q : Unit → Shared → Prop} (hZ : PXN.Steady1 Z) (hfr : A.frames = some (env :: outer)) (hf : env.frame = some L)
    (x : Sky B (env :: outer) a Z L s.heap) (q : ∀ h1, HandSPX.HeldZ B (env :: outer) a Z L h1 → s.heap.UpToSlots h1 → Q () { s with heap := h1 }) : wpAny M A (noteFrame (.ref a) env) Q E s := by
  rcases x with ⟨x1, x2, x3, oe, vs, x4, x5, x6, x7⟩ | x | x
  · exact PXN.look_newZ hZ hfr x3 hf x4 x1 x2 x6 x7 x5 q
  · exact PXN.looks_onZ hZ hfr hf x q
  · exact HandSPX.againZ hf x.2.2.2 (q s.heap x (Heap.UpToSlots.refl _))
theorem frames_at {B B' h h' : Heap} : ∀ {l : List Env}, h.FunFrames B l → (∀ b, B.get? b = none → B'.get? b = none) → (∀ b ∈ frs l, h'.get? b = h.get? b) → h'.FunFrames B' l
  | [], _, _, _ => trivial
  | env :: l, ⟨k1, ⟨L, o, k2, k3, k4, k5⟩, k6⟩, hb, he => ⟨k1, ⟨L, o, k2, hb L k3, (he L (List.mem_filterMap.mpr ⟨env, List.mem_cons_self, k2⟩)).trans k4, k5⟩,
    frames_at k6 hb fun b m => he b (by obtain ⟨e, e1, e2⟩ := List.mem_filterMap.mp m; exact List.mem_filterMap.mpr ⟨e, List.mem_cons_of_mem _ e1, e2⟩)⟩
/-- an exception of the block's element -/
def xeB (Y : Cx) (Eb : XK) (u : Value) (s' : Shared) : Prop := ∃ (pins : List (Addr × Obj)) (σ : L2.St) (H : Hp) (s : Shared), Inv Y pins σ H s ∧ L2N.CX Y.prog Y.w Y.stack H s Eb u s'
/-- what the block's end wants of it -/
def errEnd (X : Cx) (ce : Env) (x : Value) (s' : Shared) : Prop := ∃ m, s'.heap.Ns ce.locals m ∧ ∀ h', Heap.SameBut ce.locals s'.heap h' → wpAny (model X.prog X.w) X.A (passOn "comprehension.variables-let-go" x ce : Sem Value) (fun _ _ => False) X.xe { s' with heap := h' }
section
variable {X : Cx} {W : WX} {pins : List (Addr × Obj)} {σ : L2.St} {H3 : Hp} {s3 : Shared} {ce : Env} {fp : List Addr} {scope : Scope} {Eb : XK}
theorem blk_err (hs : X.stack = X.env :: X.outer) (hf : X.env.frame = some X.env.locals) (tk : L2N.Takes X W) (hE : ∀ cls d σ' H', σ'.length = X.N.length → Eb cls d H' → W cls d σ' H')
    (I3 : Inv X pins σ H3 s3) (cf : ce.frame = X.env.frame) (cL : ce.locals = s3.heap.objs.size) (ff : ∀ b ∈ fp, FpOk X pins H3 b) {u : Value} {s' : Shared} (x : xeB (X.blk s3 H3 scope ce fp) Eb u s') :
    notedBy (model X.prog X.w) X.A ce (fun e s'' => errEnd X ce e s'') u s' := by
  obtain ⟨pins', σ', H', s, Ib, cx⟩ := x
  have I7 : Inv X pins σ H' s := Inv.call' (ch := fp) I3 Ib.os Ib.base Ib.hok Ib.bare fun b hb => let z := ff b hb; ⟨z.2.2.2.1, z.2.1, z.2.2.2.2.1, z.2.2.2.2.2⟩
  obtain ⟨mC, hnC, _⟩ := Ib.loc
  have hnC : s.heap.Ns ce.locals mC := hnC
  have nC : H' ce.locals = none := Ib.free
  have hfr : X.A.frames = some (X.env :: X.outer) := I3.ok.frames.trans (congrArg some hs)
  have inS : ∀ b ∈ frs X.stack, b < s3.heap.objs.size := fun b hb => by
    obtain ⟨_, o, e, _⟩ := I3.stack.mem hb
    exact Heap.lt_size e
  have fr : ce.locals ∉ frs X.stack := fun hm => Nat.lt_irrefl _ (cL ▸ inS _ hm)
  obtain ⟨oC, esC, epC, hoC, hdC, hrC⟩ := id hnC
  have nsC : s'.heap.Ns ce.locals mC := by
    obtain ⟨a, B, H'', cls, d, e, fl, hok, ub, _⟩ := id cx
    exact ⟨oC, esC, epC, fl.1 _ _ (ub.keep _ _ hoC nC fr), hdC, hrC⟩
  have cx' : L2N.CX X.prog X.w X.stack H' s (fun c d H => Eb c d H ∧ H ce.locals = none) u s' := by
    obtain ⟨a, B, H'', cls, d, e, fl, hok, ub, na, os, ag, he⟩ := id cx
    exact ⟨a, B, H'', cls, d, e, fl, hok, ub, na, os, ag, he, ub.free _ _ hoC nC⟩
  obtain ⟨a, B, sI, pins2, σ2, H2, cls, d, rfl, I, nb, up, sky, na, os, ag, w1, w2⟩ := L2N.XE.of_call (W := fun c d _ H => Eb c d H ∧ H ce.locals = none) I7 (fun _ _ _ z => z) cx'
  rw [hs] at sky
  show wpAny _ X.A (noteFrame (.ref a) ce) _ _ _
  rw [note_eq cf]
  refine noted_at L2N.Zn.steady hfr hf sky fun h1 held up1 => ?_
  refine ⟨mC, up1.ns nsC, fun h' sb => ?_⟩
  obtain ⟨k1, k2, k3, oe, vs, T, oT, ts, he, hz, hd, g1, nT, Te, hT, hdT, g3⟩ := held
  obtain ⟨oc, es, ep, hoc, hdc, _⟩ := up1.ns nsC
  have ane : a ≠ ce.locals := fun z => by
    rw [z, hoc] at he
    cases he
    rw [hdc] at hd
    cases hd
  have Tne : T ≠ ce.locals := fun z => by
    rw [z, hoc] at hT
    cases hT
    rw [hdc] at hdT
    cases hdT
  have hid : ∀ {G : Heap} {b : Addr} {o : Obj}, (PySem.W.hideAll G [ce.locals]).get? b = some o → b ≠ ce.locals ∧ G.get? b = some o := fun {G b o} e => by
    refine ⟨fun z => ?_, PySem.W.of_hideAll _ e⟩
    rw [z, PySem.W.hideAll_none _ List.mem_cons_self] at e
    cases e
  have hidN : ∀ {G : Heap} {b : Addr}, G.get? b = none → (PySem.W.hideAll G [ce.locals]).get? b = none := fun {G b} e => by
    cases q : (PySem.W.hideAll G [ce.locals]).get? b with
    | none => rfl
    | some o => rw [(hid q).2] at e; cases e
  have st' : (PySem.W.hideAll B [ce.locals]).StaysIn h' := fun b o e => (sb.2 b (hid e).1).trans (k1 b o (hid e).2)
  have fr' : h'.FunFrames (PySem.W.hideAll B [ce.locals]) (X.env :: X.outer) := frames_at k3 (fun b e => hidN e) fun b hb => sb.2 b fun z => fr (by rw [hs, ← z]; exact hb)
  have I' : Inv X [] σ2 H2 { sI with heap := PySem.W.hideAll sI.heap [ce.locals], toks := sI.toks } := by
    refine Inv.turned (it := ce.locals) (Inv.unpinned (pins := []) (by simpa using I)) (fun b o hb e => PySem.W.hideAll_get _ e (by simpa using hb)) w2 ?_ (.inr ?_) (fun y c e => ?_) fun p hp => ?_
    · rw [cL]
      exact Nat.ne_of_gt I3.lt
    · rw [cL]
      exact I3.sz
    · obtain ⟨v, o, e1, _⟩ := I3.cell y c e
      rw [cL]
      exact Nat.ne_of_lt (Heap.lt_size e1)
    · have z := (I3.pin p (List.mem_append_left _ (by simpa using hp))).1
      rw [cL]
      exact Nat.ne_of_lt (Heap.lt_size z)
  unfold PySem.passOn
  refine wpAny_bind (wpAny_field ((sb.2 a ane).trans he) hd g1 ?_)
  rw [if_neg (show ¬ ((Value.ref T == Value.none) = true) from by simp)]
  have fin : wpAny (model X.prog X.w) X.A (setFlight (.ref a) ce.frame) (fun _ s4 => wpAny (model X.prog X.w) X.A (throw (.ref a) : Sem Value) (fun _ _ => False) X.xe s4) X.xe { s' with heap := h' } := by
    rw [cf, hf]
    refine HandSPX.setFlight_anyZ (base := PySem.W.hideAll B [ce.locals]) (Z := L2N.Zn cls d) (l := X.env :: X.outer) st' fr' ⟨oe, vs, T, oT, ts, (sb.2 a ane).trans he, hz, hd, g1, hidN nT, Te, (sb.2 T Tne).trans hT, hdT, g3⟩ fun h4 a1 a2 a3 a4 => wpAny_throw (tk _ _ ?_)
    refine ⟨a, PySem.W.hideAll B [ce.locals], _, [], σ2, H2, cls, d, rfl, I', fun b o e hb => PySem.W.hideAll_get _ (nb b o (hid e).2 hb) (by simpa using (hid e).1), fun b o e hn => ?_, .inr (.inr ⟨?_, hidN k2, ?_, a3⟩), na, os, ag, hE _ _ _ _ I'.len w1⟩
    · obtain ⟨sl1, e1⟩ := up b o (hid e).2 hn
      obtain ⟨sl2, e2⟩ := up1 b _ e1 hn
      have e3 : h'.get? b = some { o with slots := sl2 } := (sb.2 b (hid e).1).trans e2
      obtain ⟨sl3, e4⟩ := a4 b _ e3 hn
      exact ⟨sl3, e4⟩
    · exact a1
    · rw [hs]
      exact a2
  first
    | exact wpAny_bind (wpAny_pure (wpAny_bind fin))
    | exact wpAny_bind fin

/-- [elt for tg in iter] whose element may raise -/
theorem lcx_core {s : Shared} {H : Hp} {Q : VK} {elt tg iter : Expr} {own : List (Str × Nat)} {pos pos' : Pos} {wi : TI} {g : TG} {te : TE} {use : Option (Value → Sem Unit)} {Qf : Value → Shared → Prop}
    (hs : X.stack = X.env :: X.outer) (hf : X.env.frame = some X.env.locals) (tk : L2N.Takes X W) (hE : ∀ cls d σ' H', σ'.length = X.N.length → Eb cls d H' → W cls d σ' H')
    (hc : X.calm = true) (hN : X.N.Nodup) (I : Inv X pins σ H s) (hi : PI X tg iter wi) (ok : BlkOk X.N X.env.scope scope own)
    (hg : ∀ (s : Shared) (H : Hp) (C : Addr) (cl : List (Str × Addr)) (fp : List Addr), PG (X.blk s H scope (compEnvC scope cl C X.env) fp) tg g)
    (he : ∀ (s : Shared) (H : Hp) (C : Addr) (cl : List (Str × Addr)) (fp : List Addr), PE ((X.blk s H scope (compEnvC scope cl C X.env) fp).wish (xeB (X.blk s H scope (compEnvC scope cl C X.env) fp) Eb)) elt te)
    (hi2 : ∀ x, foldedSetIterable iter X.env x = pure x) (h : tLc wi g tYes te (own.map (·.2)) σ H Q)
    (hRR : ∀ D C s' m H', Inv X pins σ H' s' → Q (.ref D) H' → s'.heap.Ns C m → FpOk X pins H' C → compPost (model X.prog X.w) X.A X.xe use Qf (.ref D) C (.ok .next) s') :
    wpAny (model X.prog X.w) X.A (comprehension (.ListComp elt [⟨tg, iter, [], 0⟩] scope pos) scope X.env pos' (newList []) false (eval iter X.env) use) Qf X.xe s := by
  have free : ∀ y ∈ scope.names, y.2 = .free → ∃ c, X.env.cells.lookup y.1 = some c := fun y hy e => I.ok.has _ (ok.free y hy e)
  refine compr_x (use := use) (R := fun acc ce r t => (∀ f, r = .ok f → compPost (model X.prog X.w) X.A X.xe use Qf acc ce.locals (.ok f) t) ∧ ∀ u, r = .error u → errEnd X ce u t) rfl hi2 (closure_ok free) ok.kind (fun y hy e => by rw [ok.uniq y hy, e])
    (fun acc ce f t z => z.1 f rfl) (fun acc ce u t z => z.2 u rfl) (thn (hi.run pins s σ H _ I h) fun xv s1 q1 => thn q1 fun iv s2 q2 => ?_)
  obtain ⟨it, fp, tn, J, H2, rfl, I2, T, st2, f2, q⟩ := q2
  refine wpAny_newObj_type (newEnv_comp ?blk) (show 0 ≤ sizeLine by decide)
  have nD : H2 s2.heap.objs.size = none := I2.hok.fresh (Nat.le_refl _)
  obtain ⟨V, ⟨m0, v0⟩, turn⟩ := q s2.heap.objs.size nD
  generalize eD : s2.heap.objs.size = D at nD v0 turn ⊢
  generalize e3 : ({ s2 with heap := s2.heap.push { cls := .type "list", data := .seq ([] : List Value).toArray } } : Shared) = s3
  have p3 : s3.heap = s2.heap.push { cls := .type "list", data := .seq ([] : List Value).toArray } := by rw [← e3]
  have I3 : Inv X pins σ (upd H2 D (.lst [])) s3 := by
    subst e3
    refine Inv.laid (t' := s2.toks) I2 (fun b o e => Heap.get?_push_of_some _ e) (Nat.le_of_eq eD) ⟨Nat.zero_le _, [], 0, .nil, ?_⟩
    subst eD
    exact Heap.get?_push_size _ rfl
  have lt2 : ∀ b ∈ fp, b < s2.heap.objs.size := fun b hb => let ⟨o, e, _⟩ := T.obj _ _ st2 b hb; Heap.lt_size e
  have neD : ∀ b ∈ fp, b ≠ D := fun b hb => by rw [← eD]; exact Nat.ne_of_lt (lt2 b hb)
  have f3 : ∀ b ∈ fp, FpOk X pins (upd H2 D (.lst [])) b ∧ b < s3.heap.objs.size := fun b hb =>
    ⟨⟨(upd_ne (neD b hb)).trans (f2 b hb).1, (f2 b hb).2⟩, by rw [p3, Heap.size_push]; exact Nat.lt_succ_of_lt (lt2 b hb)⟩
  have st3 : tn 0 s3.heap := T.keep _ _ _ st2 fun b _ o e => by rw [p3]; exact Heap.get?_push_of_some _ e
  have I4 := block_start I3 ok hN f3
  have pg := hg s3 (upd H2 D (.lst [])) s3.heap.objs.size (cellsFrom (s3.heap.objs.size + 1) scope.names (cloFrom X.env.cells scope.names [])) fp
  have pe := he s3 (upd H2 D (.lst [])) s3.heap.objs.size (cellsFrom (s3.heap.objs.size + 1) scope.names (cloFrom X.env.cells scope.names [])) fp
  have err := fun {u : Value} {s' : Shared} (x : xeB (X.blk s3 (upd H2 D (.lst [])) scope (compEnvC scope (cellsFrom (s3.heap.objs.size + 1) scope.names (cloFrom X.env.cells scope.names [])) s3.heap.objs.size X.env) fp) Eb u s') =>
    (show notedBy _ _ (compEnvC scope (cellsFrom (s3.heap.objs.size + 1) scope.names (cloFrom X.env.cells scope.names [])) s3.heap.objs.size X.env) _ u s' from by refine blk_err hs hf tk hE I3 ?_ ?_ (fun b hb => (f3 b hb).1) x <;> rfl)
  show codeAny _ _ (.compStart (.ListComp elt [⟨tg, iter, [], 0⟩] scope pos) 0 (.ref it) (.ref D) (compEnvC scope (cellsFrom (s3.heap.objs.size + 1) scope.names (cloFrom X.env.cells scope.names [])) s3.heap.objs.size X.env))
    (fun r t => (∀ f, r = .ok f → compPost (model X.prog X.w) X.A X.xe use Qf (.ref D) s3.heap.objs.size (.ok f) t) ∧ ∀ u, r = .error u → errEnd X (compEnvC scope (cellsFrom (s3.heap.objs.size + 1) scope.names (cloFrom X.env.cells scope.names [])) s3.heap.objs.size X.env) u t)
    { s3 with heap := pushCells (s3.heap.push { cls := .type "dict", data := .dict #[] }) scope.names }
  have n3 : ∀ b ∈ fp, (upd H2 D (.lst [])) b = none := fun b hb => (f3 b hb).1.1
  generalize ec : compEnvC scope (cellsFrom (s3.heap.objs.size + 1) scope.names (cloFrom X.env.cells scope.names [])) s3.heap.objs.size X.env = ce at I4 pg pe err ⊢
  have eL : ce.locals = s3.heap.objs.size := by rw [← ec]; rfl
  generalize eH : upd H2 D (.lst []) = H3 at I3 I4 pg pe err v0 n3 f3
  generalize e4 : ({ s3 with heap := pushCells (s3.heap.push { cls := .type "dict", data := .dict #[] }) scope.names } : Shared) = s4 at I4 ⊢
  have st4 : tn 0 s4.heap := T.keep _ _ _ st3 fun b _ o e => by rw [← e4]; exact pushCells_keeps _ _ _ _ (Heap.get?_push_of_some _ e)
  have still : ∀ {σ' : L2.St} {H' : Hp} {s' : Shared}, Inv (X.blk s3 H3 scope ce fp) [] σ' H' s' → (∀ b ∈ fp, H' b = none) → ∀ b ∈ fp, FpOk (X.blk s3 H3 scope ce fp) [] H' b := fun {σ' H' s'} I' hn b hb =>
    ⟨hn b hb, (I'.ok.exf b hb).1, I'.ok.exfs b hb, .inl hb, fun y c e => (I'.ok.exf b hb).2 y c e, fun p hp => by cases hp⟩
  have loop : codeAny (model X.prog X.w) X.A (.compLoop (.ListComp elt [⟨tg, iter, [], 0⟩] scope pos) 0 (.ref it) (.ref D) ce)
      (fun r t => (∀ f, r = .ok f → compPost (model X.prog X.w) X.A X.xe use Qf (.ref D) s3.heap.objs.size (.ok f) t) ∧ ∀ u, r = .error u → errEnd X ce u t) s4 := by
    refine compLoop_any (fun n t => ∃ i H', Inv (X.blk s3 H3 scope ce fp) [] (wipe σ (own.map (·.2))) H' t ∧ tn i t.heap ∧ (∀ b ∈ fp, H' b = none) ∧ V i n H') ?_ m0 ⟨0, H3, I4, st4, n3, v0⟩
    rintro n s5 ⟨i, H5, I5, st5, n5, v5⟩
    rcases turn i n H5 v5 with ⟨stop, qq⟩ | ⟨go, Nx, hNx, step⟩
    · refine thnF (T.done (X.blk s3 H3 scope ce fp) rfl rfl rfl hc i [] s5 _ H5 (fun _ _ => False) I5 (still I5 n5) st5 stop) fun r s6 ⟨hr, I6⟩ => ?_
      subst hr
      have I7 : Inv X pins σ H5 s6 := Inv.call' (ch := fp) I3 I6.os I6.base I6.hok I6.bare fun b hb => let z := (f3 b hb).1; ⟨z.2.2.2.1, z.2.1, z.2.2.2.2.1, z.2.2.2.2.2⟩
      have nC : H5 s3.heap.objs.size = none := by rw [← eL]; exact I6.free
      obtain ⟨m, hn, _⟩ := I6.loc
      have hn : s6.heap.Ns ce.locals m := hn
      rw [eL] at hn
      exact ⟨fun f z => by cases z; exact hRR D s3.heap.objs.size s6 m H5 I7 qq hn (I3.fpOk (Nat.le_refl _) nC), fun u z => by cases z⟩
    · refine thnF (T.item (X.blk s3 H3 scope ce fp) rfl rfl rfl hc i [] s5 _ H5 (fun _ _ => False) I5 (still I5 n5) st5 go) fun r s6 ⟨u, hr, h6⟩ => ?_
      subst hr
      refine thnF h6 fun _ s7 ⟨x, H7, I7, r7, y7, st7, n7⟩ => ?_
      refine thnF (pg.run _ s7 _ H7 x u _ (I7.pinned (still I7 n7) (T.obj _ _ st7)) r7 (step x H7 y7)) fun _ s8 ⟨σ8, H8, I8, hw8, q8⟩ => ?_
      refine thnF ((pts_nil (X := X.blk s3 H3 scope ce fp)).run _ s8 σ8 H8 _ I8 q8) fun b s9 ⟨H9, I9, q9⟩ => ?_
      have fin : ∀ {s' : Shared} {H' : Hp}, Inv (X.blk s3 H3 scope ce fp) ([] ++ pinsAt fp s7.heap) σ8 H' s' → Nx H' → ∃ m, m < n ∧ ∃ i H', Inv (X.blk s3 H3 scope ce fp) [] (wipe σ (own.map (·.2))) H' s' ∧ tn i s'.heap ∧ (∀ b ∈ fp, H' b = none) ∧ V i m H' := fun {s' H'} I' nx => by
        obtain ⟨m', lt', v'⟩ := hNx H' nx
        have pin' : ∀ b ∈ fp, ∀ o, s7.heap.get? b = some o → s'.heap.get? b = some o ∧ H' b = none := fun b hb o e => by
          obtain ⟨z1, z2, _⟩ := I'.pin (b, o) (List.mem_append_right _ (List.mem_append_right _ (mem_pinsAt hb e)))
          exact ⟨z1, z2⟩
        refine ⟨m', lt', i + 1, H', Inv.weak (I'.unpinned (pins := [])) (by rw [← hw8]; exact wipe_length _ _) (fun j v e => ?_), T.keep _ _ _ st7 fun b hb o e => (pin' b hb o e).1, fun b hb => ?_, v'⟩
        · rw [← hw8] at e
          exact (wipe_some e).1
        · obtain ⟨o, e, _⟩ := T.obj _ _ st7 b hb
          exact (pin' b hb o e).2
      cases b with
      | false => exact fin I9 q9
      | true =>
        refine wpAny_mono (pe.run _ s9 σ8 H9 _ (I9.wish _) q9) (fun z s10 ⟨yv, H10, I10, r10, acc, hD10, hz10, nx⟩ => ?_) (fun u s10 x => ?_)
        · exact app_ok (X := X.blk s3 H3 scope ce fp) I10.unwish hD10 hz10 r10 fun s11 I11 => fin I11 nx
        · refine wpAny_mono (err x) (fun _ s11 z => ?_) (fun _ s11 z => ?_)
          · exact ⟨fun f q => (nomatch q), fun u' q => by cases q; exact z⟩
          · exact ⟨fun f q => (nomatch q), fun u' q => by cases q; exact z⟩
  exact codeAny_compStart_list loop (T.self X.A 0 _ _ _ st4 loop)
end
end J

namespace J
open PySem PySem.Spec L2 PyProof.Rows
/-! ### exceptions whose context is None, or one whose own context is None -/
/-- class, dict, context -/
def Zq (v : Value) (cls : Value) (d : Option Addr) : Obj → Prop := fun o => o.cls = cls ∧ o.dict = d ∧ ∀ vs : Array Value, o.data = .fields vs → vs[2]? = some v
theorem Zq.steady {v cls : Value} {d : Option Addr} : PXN.Steady1 (Zq v cls d) := fun o w h => by
  refine ⟨PXN.steady_cls o w h.1, PXN.steady_dict o w h.2.1, ?_⟩
  have h3 := h.2.2
  obtain ⟨c, e, dt, sl⟩ := o
  cases dt with
  | fields vs0 =>
    intro vs q
    have q2 : vs0.setIfInBounds 1 w = vs := Data.fields.inj q
    rw [← q2, Array.getElem?_setIfInBounds_ne (by decide)]
    exact h3 vs0 rfl
  | _ =>
    intro vs q
    cases q
/-- what is known of a context -/
def Past (B : Heap) (H : Hp) (a : Addr) (v : Value) : Prop := v = .none ∨ ∃ (x : Addr) (o : Obj) (vs : Array Value), v = .ref x ∧ x ≠ a ∧ B.get? x = some o ∧ o.data = .fields vs ∧ vs[2]? = some .none ∧ H x = none
def XEq (X : Cx) (W : WX) (u : Value) (s' : Shared) : Prop :=
  ∃ (a : Addr) (B : Heap) (sI : Shared) (pins : List (Addr × Obj)) (σ : L2.St) (H : Hp) (cls : Value) (d : Option Addr) (v : Value),
    u = .ref a ∧ Inv X pins σ H sI ∧ (∀ b o, sI.heap.get? b = some o → b ∉ frs X.stack → B.get? b = some o) ∧ sI.heap.UpToSlots s'.heap ∧
      Sky B X.stack a (Zq v cls d) X.env.locals s'.heap ∧ H a = none ∧ s'.os = sI.os ∧ AllBare s'.gens ∧ Past B H a v ∧ W cls d σ H
def Takesq (X : Cx) (W : WX) : Prop := ∀ u s', XEq X W u s' → X.xe u s'
def CXq (P : Program) (w : World) (outer : List Env) (H : Hp) (s : Shared) (E : XK) (u : Value) (s' : Shared) : Prop :=
  ∃ (a : Addr) (B : Heap) (H' : Hp) (cls : Value) (d : Option Addr) (v : Value), u = .ref a ∧ HandSPX.FlyingZ B outer a (Zq v cls d) s'.heap ∧ HOk P w H' B ∧ UB (frs outer) H H' s.heap B s'.heap ∧ H' a = none ∧ s'.os = s.os ∧ AllBare s'.gens ∧ Past B H' a v ∧ E cls d H'
section
variable {X : Cx} {W : WX} {E : XK} {pins : List (Addr × Obj)} {σ : L2.St} {H : Hp} {s s' : Shared}
/-- one whose context is None -/
theorem q_ofN {u : Value} (x : L2N.XE X W u s') : XEq X W u s' := by
  obtain ⟨a, B, sI, pins, σ, H, cls, d, e, I, nb, up, sky, na, os, ag, w⟩ := x
  exact ⟨a, B, sI, pins, σ, H, cls, d, .none, e, I, nb, up, sky, na, os, ag, .inl rfl, w⟩
theorem takesN (tk : Takesq X W) : L2N.Takes X W := fun u s' x => tk u s' (q_ofN x)
theorem q_leave (hs : X.stack = X.env :: X.outer) (hf : X.env.frame = some X.env.locals) (hex : X.ex = []) {E1 : Value → Shared → Prop} (hW : ∀ cls d σ H, W cls d σ H → E cls d H) {u : Value} (x : XEq X W u s') :
    wpAny (model X.prog X.w) X.A (leaving X.env u) (fun _ s'' => CXq X.prog X.w X.outer X.H_0 X.s_0 E u s'') E1 s' := by
  obtain ⟨a, B, sI, pins, σ, H, cls, d, v, rfl, I, nb, up, sky, na, os, ag, pa, w⟩ := x
  have hfr : X.A.frames = some (X.env :: X.outer) := I.ok.frames.trans (congrArg some hs)
  have old : ∀ b o, X.s_0.heap.get? b = some o → b ∉ X.fs → b ∉ frs X.stack := fun b o e hb hm => by
    rcases List.mem_cons.mp (I.stkSub b hm) with z | z
    · subst z
      exact Nat.lt_irrefl _ (Nat.lt_of_lt_of_le (Heap.lt_size e) I.ok.above)
    · exact hb z
  have nex : ∀ b, b ∉ X.ex := fun b hb => by rw [hex] at hb; cases hb
  have fin : ∀ h1, HandSPX.FlyingZ B X.outer a (Zq v cls d) h1 → s'.heap.UpToSlots h1 → CXq X.prog X.w X.outer X.H_0 X.s_0 E (.ref a) { s' with heap := h1 } := fun h1 fl up1 => by
    refine ⟨a, B, H, cls, d, v, rfl, fl, I.inGround nb, ⟨fun b o e n hb => ?_, fun b o e hb => ?_, fun b o e n => I.base.free b o e n (nex b), fun b o e hb => ?_, I.base.tups, I.base.frzs, I.base.tbls⟩, na, os.trans I.os, ag, pa, hW _ _ _ _ w⟩
    · exact nb b o (I.base.keep b o e n hb (nex b)) (old b o e hb)
    · obtain ⟨_, o0, e0, hnf⟩ := I.ok.funs.mem hb
      rw [e] at e0
      cases e0
      obtain ⟨l1, e1⟩ := I.base.slot b o e (I.ok.frf b hb) hb (nex b)
      obtain ⟨l2, e2⟩ := up b _ e1 hnf
      obtain ⟨l3, e3⟩ := up1 b _ e2 hnf
      exact ⟨l3, e3⟩
    · obtain ⟨o', e1⟩ := I.base.there b o e (nex b)
      exact ⟨o', nb b o' e1 (old b o e hb)⟩
  rw [hs] at sky
  rcases sky with ⟨x1, x2, x3, oe, vs, x4, x5, x6, x7⟩ | x | x
  · exact PXN.leaving_firstZ Zq.steady hfr x3 hf x4 x1 x2 x6 x7 x5 fin
  · exact PXN.leaves_onZ Zq.steady hfr hf x fin
  · exact HandSPX.leaves_heldZ hf x fin
theorem takesq_of (hs : X.stack = X.env :: X.outer) (hf : X.env.frame = some X.env.locals) (hex : X.ex = []) {E1 : Value → Shared → Prop}
    (hx : X.xe = fun e s' => wpAny (model X.prog X.w) X.A (leaving X.env e) (fun _ s'' => CXq X.prog X.w X.outer X.H_0 X.s_0 E e s'') E1 s') : Takesq X (fun cls d _ H => E cls d H) := fun u s' x => by
  rw [hx]
  exact q_leave (W := fun cls d _ H => E cls d H) hs hf hex (fun _ _ _ _ h => h) x
/-- a call's exception -/
theorem q_of_call (I : Inv X pins σ H s) (hW : ∀ cls d H', E cls d H' → W cls d σ H') {u : Value} (c : CXq X.prog X.w X.stack H s E u s') : XEq X W u s' := by
  obtain ⟨a, B, H', cls, d, v, rfl, fl, hok, ub, na, os, ag, pa, he⟩ := c
  obtain ⟨G, g1, g2⟩ := restrict s'.heap fun b => (B.get? b).isSome || decide (b ∈ frs X.stack)
  have st : B.StaysIn s'.heap := fl.1
  have inB : ∀ b o, B.get? b = some o → G.get? b = some o := fun b o e => (g1 b (by simp [e])).trans (st b o e)
  have inF : ∀ b, b ∈ frs X.stack → G.get? b = s'.heap.get? b := fun b hb => g1 b (by simp [hb])
  have of : ∀ b o, G.get? b = some o → s'.heap.get? b = some o ∧ ((B.get? b).isSome = true ∨ b ∈ frs X.stack) := fun b o e => by
    by_cases q : ((B.get? b).isSome || decide (b ∈ frs X.stack)) = true
    · rw [g1 b q] at e
      exact ⟨e, by simpa [Bool.or_eq_true] using q⟩
    · rw [g2 b (by simpa using q)] at e
      cases e
  refine ⟨a, B, { s with heap := G, gens := s'.gens, drawn := s'.drawn, toks := s'.toks }, pins, σ, H', cls, d, v, rfl, ?_, fun b o e hb => ?_, Heap.UpToSlots.of_keeps fun b o e => (of b o e).1, .inr (.inl fl), na, os, ag, pa, hW _ _ _ he⟩
  · refine Inv.call (ch := []) I ⟨fun b o e n hb _ => inB b o (ub.keep b o e n hb), fun b o e n hb _ => ?_, fun b o e n _ => ub.free b o e n, fun b o e _ => ?_, ub.tups, ub.frzs, ub.tbls⟩ (hok.kept inB) ag (fun _ z => nomatch z)
    · obtain ⟨sl, q⟩ := ub.slot b o e hb
      exact ⟨sl, (inF b hb).trans q⟩
    · by_cases hb : b ∈ frs X.stack
      · obtain ⟨sl, q⟩ := ub.slot b o e hb
        exact ⟨_, (inF b hb).trans q⟩
      · obtain ⟨o', q⟩ := ub.there b o e hb
        exact ⟨o', inB b o' q⟩
  · obtain ⟨e1, h | h⟩ := of b o e
    · obtain ⟨o', q⟩ := Option.isSome_iff_exists.mp h
      rw [st b o' q] at e1
      cases e1
      exact q
    · exact absurd h hb
/-- raise where an exception is handled whose context is None -/
theorem ps_raiseQ {e : Expr} {t : L2.St → Hp → XK → Prop} {pos : Pos} (hc : L2H.HotC X) (tk : Takesq X W) (he : L2N.PMk X e t) : PS X (.Raise (some e) none pos) (fun _ σ H => t σ H fun cls d H' => W cls d σ H') := by
  constructor
  intro pins s σ H D I h
  obtain ⟨p, ⟨hh, v1, d1, c1⟩, hp⟩ := hc
  show wpAny _ _ (do standAt pos; raiseStmt X.env (some (do let v ← eval e X.env; standAt pos; pure v)) none) _ _ _
  apply wpAny_bind
  apply wpAny_standAt
  refine HotX.raise_made_hot (x1 := p.1) ?_
  apply wpAny_bind
  refine wpAny_mono (he pins s σ H _ I h) (fun u s1 hu => ?_) fun _ _ x => x
  apply wpAny_bind
  apply wpAny_standAt
  apply wpAny_pure
  obtain ⟨a, oe, vs, sI, H', cls, d, rfl, J, k, hne, ha, hz, hd, h1, na, os, ag, r, q⟩ := hu
  obtain ⟨r1, r2⟩ := r (model X.prog X.w) s1.heap (J.kIn.keeps k)
  obtain ⟨P1, P2, P3, P4, _⟩ := J.pin p (List.mem_append_left _ hp)
  have ne : p.1 ≠ a := fun z => by
    rw [z, hne] at P1
    cases P1
  have lt2 : 2 < vs.size := (Array.getElem?_eq_some_iff.mp (hz.2.2 vs hd)).1
  have g1 : (vs.setIfInBounds 2 (Value.ref p.1))[1]? = some Value.none := (Array.getElem?_setIfInBounds_ne (by decide)).trans h1
  have nfr : p.1 ∉ frs X.stack := fun hm => (List.mem_cons.mp (J.stkSub _ hm)).elim P3 P4
  have at_ : (s1.heap.update a (Obj.mapFields (·.setIfInBounds 2 (.ref p.1)))).get? a = some (oe.mapFields (·.setIfInBounds 2 (.ref p.1))) := Heap.get?_update_self _ ha (Obj.isFreed_of_fields (Obj.data_mapFields hd _))
  have kp : ∀ b o, sI.heap.get? b = some o → (s1.heap.update a (Obj.mapFields (·.setIfInBounds 2 (.ref p.1)))).get? b = some o := fun b o e => by
    rw [Heap.get?_update_other _ _ (fun z => by rw [← z, hne] at e; cases e)]
    exact k b o e
  have nB : (PySem.W.hideAll sI.heap (frs X.stack)).get? a = none := by
    cases q : (PySem.W.hideAll sI.heap (frs X.stack)).get? a with
    | none => rfl
    | some o => rw [PySem.W.of_hideAll _ q] at hne; cases hne
  refine ⟨a, oe, vs, cls, rfl, ha, hz.1, hd, h1, lt2, ne, ⟨hh, p.2, v1, k _ _ P1, d1, c1⟩, r1, r2, tk _ _ ⟨a, PySem.W.hideAll sI.heap (frs X.stack), sI, pins, σ, H', cls, d, .ref p.1, rfl, J, fun b o e hb => PySem.W.hideAll_get _ e hb, Heap.UpToSlots.of_keeps kp, .inl ⟨fun b o e => kp b o (PySem.W.of_hideAll _ e), nB, ?_, _, _, at_, ⟨(Obj.cls_mapFields ..).trans hz.1, (HandSPX.dict_mapFields ..).trans hz.2.1, fun ws e => ?_⟩, Obj.data_mapFields hd _, g1⟩, na, os, ag, .inr ⟨p.1, p.2, v1, rfl, ne, PySem.W.hideAll_get _ P1 nfr, d1, c1, ?_⟩, q⟩⟩
  · exact Heap.FunFrames.of_keeps (fun b o e _ => ⟨o, kp b o e, rfl⟩) (funFrames_none J.stack fun b hb => PySem.W.hideAll_none _ hb)
  · rw [Obj.data_mapFields hd] at e
    cases e
    rw [Array.getElem?_setIfInBounds_self_of_lt lt2]
  · exact P2
/-- a def's own contexts -/
theorem tk_ofQ {P : Program} {w : World} {K : PySem.W.Frag} {mg : Str → Option Value} {base : Heap} {N : List Str} {q : Str} {sc : Scope} {f : Addr} {cd : Value} {A : Around} {outer : List Env} {s : Shared} {H : Hp} :
    Takesq (cxOf (CXq P w) P w K mg base N q sc f cd A outer s H E) (fun c d _ H => E c d H) := takesq_of rfl rfl rfl rfl
theorem px_ofQ {P : Program} {w : World} {K : PySem.W.Frag} {mg : Str → Option Value} {base : Heap} {N : List Str} {q : Str} {sc : Scope} {f : Addr} {cd : Value} {A : Around} {outer : List Env} {s : Shared} {H : Hp} :
    Passes (CXJ P w) (cxOf (CXq P w) P w K mg base N q sc f cd A outer s H E) E := L2N.passes_call (takesN tk_ofQ) fun _ _ _ _ h => h
/-- a callee that lets nothing out -/
theorem px_none {CX : CXT} {X : Cx} (h : ∀ l H s u s', ¬ CX l H s (fun _ _ _ => False) u s') : Passes CX X (fun _ _ _ => False) := fun _ _ _ _ _ _ _ z => (h _ _ _ _ _ z).elim
theorem cxq_no {P : Program} {w : World} {l : List Env} {H : Hp} {s : Shared} {u : Value} {s' : Shared} : ¬ CXq P w l H s (fun _ _ _ => False) u s' := fun ⟨_, _, _, _, _, _, _, _, _, _, _, _, _, _, z⟩ => z
theorem cxn_no {P : Program} {w : World} {l : List Env} {H : Hp} {s : Shared} {u : Value} {s' : Shared} : ¬ CXJ P w l H s (fun _ _ _ => False) u s' := fun ⟨_, _, _, _, _, _, _, _, _, _, _, _, z⟩ => z
/-- a call in the body of a try, a comprehension's element: the wish for all slots of that length -/
abbrev allS (n : Nat) (W : WX) : XK := fun c d H => ∀ σ : L2.St, σ.length = n → W c d σ H
theorem px_trN {X : Cx} {W : WX} (tk : L2N.Takes X W) : Passes (CXJ X.prog X.w) X (allS X.N.length W) := fun pins σ H s u s' I c => tk u s' (L2N.XE.of_call (W := W) I (fun _ _ _ h => h σ I.len) c)
theorem px_trQ {X : Cx} {W : WX} (tk : Takesq X W) : Passes (CXq X.prog X.w) X (allS X.N.length W) := fun pins σ H s u s' I c => tk u s' (q_of_call (W := W) I (fun _ _ _ h => h σ I.len) c)
/-- the element of a comprehension -/
theorem px_blk {X : Cx} {Eb : XK} : Passes (CXJ X.prog X.w) (X.wish (xeB X Eb)) Eb := fun pins σ H s u s' I c => ⟨pins, σ, H, s, I.unwish, c⟩
end
end J

namespace J
open PySem PySem.Spec L2 PyProof.Rows
section
variable {X : Cx} {W : WX} {scope : Scope} {Eb : XK}
/-- name = [.. for .. in ..] whose element may raise -/
theorem ps_setLcX {i : Nat} {y : Str} {py : Pos} {elt tg iter : Expr} {own : List (Str × Nat)} {pos spos : Pos} {wi : TI} {g : TG} {te : TE}
    (hs : X.stack = X.env :: X.outer) (hf : X.env.frame = some X.env.locals) (tk : L2N.Takes X W) (hE : ∀ cls d σ' H', σ'.length = X.N.length → Eb cls d H' → W cls d σ' H')
    (hc : X.calm = true) (hN : X.N.Nodup) (at_ : X.N[i]? = some y) (loc : X.env.scope.names.lookup y = some .local)
    (sw : swapsWith (.ListComp elt [⟨tg, iter, [], 0⟩] scope pos) (some (.Name y py)) spos.line X.env = pure true) (hi : PI X tg iter wi) (ok : BlkOk X.N X.env.scope scope own)
    (hg : ∀ (s : Shared) (H : Hp) (C : Addr) (cl : List (Str × Addr)) (fp : List Addr), PG (X.blk s H scope (compEnvC scope cl C X.env) fp) tg g)
    (he : ∀ (s : Shared) (H : Hp) (C : Addr) (cl : List (Str × Addr)) (fp : List Addr), PE ((X.blk s H scope (compEnvC scope cl C X.env) fp).wish (xeB (X.blk s H scope (compEnvC scope cl C X.env) fp) Eb)) elt te)
    (hi2 : ∀ x, foldedSetIterable iter X.env x = pure x := by intro _; rfl) :
    PS X (.Assign [.Name y py] (.ListComp elt [⟨tg, iter, [], 0⟩] scope pos) spos) (tAsg (tLc wi g tYes te (own.map (·.2))) (gName i)) := by
  constructor
  intro pins s σ H D I h
  rw [exec_Assign_Name_used _ _ _ _ sw]
  apply wpAny_bind
  apply wpAny_standAt
  apply wpAny_bind
  show wpAny _ X.A (do let _ ← comprehension (.ListComp elt [⟨tg, iter, [], 0⟩] scope pos) scope X.env (firstIterPos [⟨tg, iter, [], 0⟩] pos) (newList []) false (eval iter X.env) (some (assign (.Name y py) X.env))) _ _ s
  have h : tLc wi g tYes te (own.map (·.2)) σ H (fun x H1 => gName i x σ H1 D.nx) := h
  apply wpAny_bind
  refine thn (lcx_core (Qf := fun _ t => SP X pins D .next t) hs hf tk hE hc hN I hi ok hg he hi2 h fun D' C t m H' I' q ns fp => ?_) fun _ t z => wpAny_pure (wpAny_pure z)
  obtain ⟨f0, f1, _, f3, f4, f5⟩ := fp
  show wpAny _ _ (assign (.Name y py) X.env (.ref D')) _ _ _
  refine wpAny_assign_Name (store_ok2 (v := V.ref D') I' hN at_ (.inl loc) rfl (fun t2 I2 ⟨b, sb, hb⟩ => ?_) (.inr loc))
  have ne : C ≠ b := hb.elim (fun z => by rw [z]; exact f1) fun z e => f4 y b z e.symm
  exact ⟨m, ns.sameBut sb ne, fun h3 sb3 => ⟨_, H', Inv.turned (t' := t2.toks) I2 (fun b' o hb' e => (sb3.2 b' hb').trans e) f0 f1 f3 f4 f5, q⟩⟩
end
/-! ### try: body / except X: raise ..  / else: -/
section
variable {X : Cx} {x : Str} {C : Addr} {body suite orelse : List Stmt} {b₀ : Stmt} {np pos pos' : Pos} {tb : WX → TS} {ts : Addr → Value → Option Addr → TS} {Wout : WX} {u : TS}
theorem ps_tryXE (ho : PSs X orelse u) (hs : X.stack = X.env :: X.outer) (hf : X.env.frame = some X.env.locals) (gl : Gl X x) (hm : X.mg x = some (.ref C)) (hpa : ∀ hd : Option Value, PassesOwnAt (model X.prog X.w) (X.A.mark hd) X.A X.env X.xe) (tk : Takesq X Wout)
    (hb : ∀ (W : WX) (pn : List (Addr × Obj)) (xe : Value → Shared → Prop), L2N.Takes (X.tr pn xe) W → PSs (X.tr pn xe) body (tb W))
    (hsu : ∀ (a : Addr) (oe : Obj) (cls : Value) (d : Option Addr) (pn : List (Addr × Obj)), L2N.Zn cls d oe → Takesq (L2H.suiteX X a ((a, oe) :: pn)) Wout → L2H.HotC (L2H.suiteX X a ((a, oe) :: pn)) → PSs (L2H.suiteX X a ((a, oe) :: pn)) (b₀ :: suite) (ts a cls d))
    (hdb : (x == ("__debug__" : Str)) = false := by decide) :
    PS X (.Try body [.ExceptHandler (some (.Name x np)) none (b₀ :: suite) pos'] orelse [] pos) (fun D σ H => tb (wOnly X.K (.ref C) ts Wout D) { D with nx := u D } σ H) := by
  constructor
  intro pins s σ H D I h
  have ok := I.ok
  have hfr : X.A.frames = some (X.env :: X.outer) := ok.frames.trans (congrArg some hs)
  refine wpAny_Try_except (wpAny_mono ((hb (wOnly X.K (.ref C) ts Wout D) (X.pn ++ pins) (fun e t1 => wpAny (model X.prog X.w) X.A (noteFrame e X.env) (fun _ t2 => wpAny (model X.prog X.w) X.A (setFlight e none) (fun _ t3 =>
    wpAny (model X.prog X.w) X.A (handleBy e X.env [.ExceptHandler (some (.Name x np)) none (b₀ :: suite) pos']) (SP X pins D) X.xe t3) X.xe t2) X.xe t1) (fun v t' xx => ?_)).run [] s σ H { D with nx := u D } (I.toTry _) h) (fun f t q => ?_) (fun e t z => z))
  · obtain ⟨a, B, sI, pins1, σ1, H1, cls, d, rfl, I1, nb, up, sky, na, os, ag, b, hb1, yes, no⟩ := xx
    have J0 : Inv X pins σ1 H1 sI := I1.ofTry ok
    have sky1 : Sky B (X.env :: X.outer) a (L2N.Zn cls d) X.env.locals t'.heap := by rw [← hs]; exact sky
    show wpAny _ X.A (noteFrame (.ref a) X.env) _ _ _
    refine L2N.Sky.land L2N.Zn.steady hfr hf sky1 fun h1 fl1 up1 => ?_
    have J1 : Inv X pins σ1 H1 { t' with heap := h1 } := J0.landed nb fl1.1 (up.trans up1) os ag
    obtain ⟨o1, vs1, at1, z1, d1⟩ := fl1.there
    have nfr : a ∉ frs (X.env :: X.outer) := fun hm' => by
      obtain ⟨_, o', e', hnf⟩ := fl1.2.2.1.mem hm'
      rw [at1] at e'
      cases e'
      exact hnf _ d1
    have nL : a ≠ X.env.locals := fun z => nfr (List.mem_filterMap.mpr ⟨X.env, List.mem_cons_self, by rw [hf, z]⟩)
    have nF : a ∉ X.fs := fun hm' => by
      obtain ⟨e, he, q⟩ := List.mem_filterMap.mp hm'
      exact nfr (List.mem_filterMap.mpr ⟨e, List.mem_cons_of_mem _ he, q⟩)
    have S1 := J1.suite at1 d1 na nL nF
    refine wpAny_handleBy_cons (codeAny_handlers_test ?_) (by intro q; cases q)
    have ty : PySem.W.Looks (model X.prog X.w) h1 (typeOf (.ref a)) cls := fun A Q E s k q => wpAny_typeOf_ref (k _ _ at1) (by rw [z1.1]; exact q)
    have mt := PySem.W.exm_one (M := model X.prog X.w) (J1.kIn) ty hb1
    refine ld_glob (X := X.suite a ((a, o1) :: (X.pn ++ pins))) S1 gl hm ?_ hdb
    refine mt.here ?_
    cases b with
    | true =>
      apply codeAny_handlers_suite
      refine HandSPX.lands_againZ fl1 fun h2 fl2 up2 => ?_
      have J2 : Inv X pins σ1 H1 { t' with heap := h2 } := J0.landed nb fl2.1 ((up.trans up1).trans up2) os ag
      obtain ⟨o2, vs2, at2, z2, d2⟩ := fl2.there
      have S2 := J2.suite at2 d2 na nL nF
      have tkS : Takesq (L2H.suiteX X a ((a, o2) :: (X.pn ++ pins))) Wout := fun v2 s2 x2 => by
        obtain ⟨a3, B3, s3, pn3, σ3, H3, cls3, d3, c3, e3, I3, y⟩ := x2
        exact tk v2 s2 ⟨a3, B3, s3, pins, σ3, H3, cls3, d3, c3, e3, L2H.unsuiteX I3 ok, y⟩
      have hot : L2H.HotC (L2H.suiteX X a ((a, o2) :: (X.pn ++ pins))) := ⟨(a, o2), ⟨rfl, vs2, d2, z2.2.2 vs2 d2⟩, List.mem_cons_self⟩
      refine wpAny_mono ((hsu a o2 cls d (X.pn ++ pins) z2 tkS hot).run [] _ _ H1 _ (L2H.suiteX_of S2) (yes rfl a na)) (fun f t6 q => ?_) (fun e6 t6 z => hpa (some (.ref a)) e6 t6 z)
      cases f with
      | next => obtain ⟨σ6, H6, S6, q6⟩ := q; exact ⟨_, _, L2H.unsuiteX S6 ok, q6⟩
      | brk => obtain ⟨σ6, H6, S6, q6⟩ := q; exact ⟨_, _, L2H.unsuiteX S6 ok, q6⟩
      | cont => obtain ⟨σ6, H6, S6, q6⟩ := q; exact ⟨_, _, L2H.unsuiteX S6 ok, q6⟩
      | ret v => obtain ⟨v6, σ6, H6, S6, r6, q6⟩ := q; exact ⟨_, _, _, L2H.unsuiteX S6 ok, r6, q6⟩
    | false =>
      show wpAny _ X.A (handleBy (.ref a) X.env []) _ _ _
      apply wpAny_handleBy_nil
      obtain ⟨k1, k2, k3, oe, vs, T, oT, ts', he, hz, hd, g1, hr⟩ := id fl1
      unfold PySem.passOn
      refine wpAny_bind (wpAny_field he hd g1 ?_)
      rw [if_neg (show ¬ ((Value.ref T == Value.none) = true) from by simp)]
      have fin : wpAny (model X.prog X.w) X.A (setFlight (.ref a) X.env.frame) (fun _ s4 => wpAny (model X.prog X.w) X.A (throw (.ref a) : Sem Flow) (SP X pins D) X.xe s4) X.xe { t' with heap := h1 } := by
        rw [hf]
        refine HandSPX.setFlight_upZ (Z := Zq .none cls d) fl1 fun h4 hh4 up4 => wpAny_throw (tk _ _ ?_)
        exact ⟨a, B, sI, pins, σ1, H1, cls, d, .none, rfl, J0, nb, (up.trans up1).trans up4, .inr (.inr (by rw [hs]; exact hh4)), na, os, ag, .inl rfl, no rfl⟩
      first
        | exact wpAny_bind (wpAny_pure (wpAny_bind fin))
        | exact wpAny_bind fin
  · cases f with
    | next => obtain ⟨σ1, H1, J1, q1⟩ := q; exact ho.run pins t σ1 H1 D (J1.ofTry ok) q1
    | brk => obtain ⟨σ1, H1, J1, q1⟩ := q; exact ⟨σ1, H1, J1.ofTry ok, q1⟩
    | cont => obtain ⟨σ1, H1, J1, q1⟩ := q; exact ⟨σ1, H1, J1.ofTry ok, q1⟩
    | ret v => obtain ⟨v1, σ1, H1, J1, r1, q1⟩ := q; exact ⟨v1, σ1, H1, J1.ofTry ok, r1, q1⟩
end
end J

namespace J
open PySem PySem.Spec L2 PyProof.Rows HotX
/-! ### a built-in's own end (StopIteration) where an exception is handled -/
/-- the handled exception: its context is None, or an exception whose context is None -/
def HotH (A : Around) (x1 : Addr) (h : Heap) : Prop := A.handled = some (.ref x1) ∧ ∃ (o : Obj) (vs : Array Value) (v : Value), h.get? x1 = some o ∧ o.data = .fields vs ∧ vs[2]? = some v ∧
  (v = .none ∨ ∃ (x2 : Addr) (o2 : Obj) (vs2 : Array Value), v = .ref x2 ∧ x2 ≠ x1 ∧ h.get? x2 = some o2 ∧ o2.data = .fields vs2 ∧ vs2[2]? = some .none)
theorem HotH.keeps {A : Around} {x1 : Addr} {h h' : Heap} (z : HotH A x1 h) (k : ∀ b o, h.get? b = some o → (∃ vs, o.data = .fields vs ∧ 2 < vs.size) → h'.get? b = some o) : HotH A x1 h' := by
  obtain ⟨z1, o, vs, v, z2, z3, z4, z5⟩ := z
  refine ⟨z1, o, vs, v, k _ _ z2 ⟨vs, z3, (Array.getElem?_eq_some_iff.mp z4).1⟩, z3, z4, z5.imp id ?_⟩
  rintro ⟨x2, o2, vs2, y1, y2, y3, y4, y5⟩
  exact ⟨x2, o2, vs2, y1, y2, k _ _ y3 ⟨vs2, y4, (Array.getElem?_eq_some_iff.mp y5).1⟩, y4, y5⟩
section
variable {prog : Program} {w : World} {A : Around} {E : Value → Shared → Prop} {s : Shared}
theorem plain_unchain : plainId "proto.unchain" = true := by decide +kernel
theorem unchainQ {x1 a : Addr} {h0 : Heap} {Q : Value → Shared → Prop} (z : HotH A x1 h0) (k : ∀ b o, h0.get? b = some o → s.heap.get? b = some o) (na : h0.get? a = none) (q : Q .none s) :
    wpAny (model prog w) A (holding [Value.ref a] (runValue (.builtin "proto.unchain" ⟨[.ref a, .ref x1, .ref x1, .bool false], []⟩))) Q E s := by
  obtain ⟨hh, o, vs, v, g1, g2, g3, g4⟩ := z
  rcases g4 with rfl | ⟨x2, o2, vs2, rfl, n21, y1, y2, y3⟩
  · exact unchained (k _ _ g1) g2 g3 q
  · have n2a : x2 ≠ a := fun e => by rw [e, na] at y1; cases y1
    refine wpAny_holding (wpAny_runValue (codeAny_builtin entry_unchain ?_))
    show wpAny _ _ (field (.ref x1) 2 >>= _) _ _ s
    refine wpAny_bind (wpAny_field (k _ _ g1) g2 g3 ?_)
    rw [if_neg (show ¬ (Value.ref x2 == Value.none) = true from by simp)]
    rw [if_neg (show ¬ (Value.ref x2 == Value.ref a) = true from by simpa using n2a)]
    rw [if_neg (show ¬ (Value.ref x2 == Value.ref x1) = true from by simpa using n21)]
    refine wpAny_bind (wpAny_pure ?_)
    refine wpAny_pure ⟨plainId_quiet plain_unchain _, codeAny_builtin entry_unchain ?_⟩
    show wpAny _ _ (field (.ref x2) 2 >>= _) _ _ s
    refine wpAny_bind (wpAny_field (k _ _ y1) y2 y3 ?_)
    rw [if_pos (show (Value.none == Value.none) = true from rfl)]
    first
    | exact wpAny_bind (wpAny_pure (wpAny_pure q))
    | exact wpAny_pure q
theorem raiseNewQ {α : Type} {a x1 : Addr} {h0 : Heap} {oe : Obj} {vs : Array Value} {Q : α → Shared → Prop} (z : HotH A x1 h0) (k : ∀ b o, h0.get? b = some o → s.heap.get? b = some o) (na : h0.get? a = none) (ha : s.heap.get? a = some oe) (da : oe.data = .fields vs) (hi : 2 < vs.size)
    (hE : E (.ref a) { s with heap := s.heap.update a (Obj.mapFields (·.setIfInBounds 2 (.ref x1))) }) : wpAny (model prog w) A (raiseNew (.ref a) : Sem α) Q E s := by
  have ne : x1 ≠ a := fun e => by
    obtain ⟨_, o, vs, v, g1, _⟩ := z
    rw [e, na] at g1
    cases g1
  have hb : (Value.ref x1 != Value.ref a) = true := ref_bne ne
  unfold raiseNew
  refine wpAny_bind (wpAny_handled ?_)
  rw [z.1]
  show wpAny _ _ (if (Value.ref x1 != Value.ref a) = true then _ else _) _ _ _
  rw [if_pos hb]
  first
  | exact wpAny_bind (unchainQ z k na (wpAny_bind (chained ha da hi (wpAny_throw hE))))
  | exact wpAny_bind (wpAny_bind (unchainQ z k na (chained ha da hi (wpAny_throw hE))))
theorem list_endQ {it l x1 : Addr} {i : Nat} {items : Array Value} {Q : Option Value → Shared → Prop} (z : HotH A x1 s.heap) (n1 : ∀ o vs, s.heap.get? it = some o → o.data = .fields vs → vs.size ≤ 2)
    (hit : s.heap.IsListIter it l i) (hl : s.heap.IsList l items) (hx : items[i]? = none)
    (hQ : ∀ h1, Heap.ExtBut it s.heap h1 → Q none { s with heap := h1 }) : wpAny (model prog w) A (pyNext (.ref it)) Q E s := by
  obtain ⟨o, ho, hc, hd⟩ := id hit
  obtain ⟨ol, hol, _, nl, hdl⟩ := hl
  unfold pyNext
  apply wpAny_bind
  apply wpAny_attempt
  refine wpAny_callSpecial?_slot (name := Str.ofString "__next__") hit.typeIs slot_listiter_next (wpAny_call_entry slot_listiter_next hit.typeIs entry_listiter_next ?_ (args_listiter_next _))
  show wpAny _ _ (field (.ref it) 0 >>= _) _ _ s
  refine wpAny_bind (wpAny_field ho hd (x := .ref l) rfl ?_)
  show wpAny _ _ (if (Value.ref l == Value.none) = true then _ else _) _ _ s
  rw [if_neg (by simp)]
  show wpAny _ _ (field (.ref it) 1 >>= _) _ _ s
  refine wpAny_bind (wpAny_field ho hd (x := .int i 0) rfl ?_)
  show wpAny _ _ (seqItems? (.ref l) >>= _) _ _ s
  apply wpAny_bind
  refine wpAny_seqItems hol hdl ?_
  simp only [Int.toNat_natCast, hx]
  apply wpAny_bind
  apply wpAny_rule
  apply wpAny_bind
  refine wpAny_setField ho hd (by simp) ?_
  have zA : HotH A.in1 x1 (s.heap.update it (Obj.mapFields (·.setIfInBounds 0 Value.none))) := (show HotH A.in1 x1 s.heap from z).keeps fun b ob e ⟨ws, e2, e3⟩ => by
    rw [Heap.get?_update_other _ _ (fun q => by rw [← q] at e; exact absurd (n1 _ _ e e2) (Nat.not_le.mpr e3))]
    exact e
  show wpAny _ _ (newExc (.type "StopIteration") [] >>= _) _ _ _
  apply wpAny_bind
  simp only [newExc, newTuple]
  apply wpAny_bind
  refine wpAny_newObj_type ?_ (by size_fits)
  apply wpAny_bind (m := firstArgMember _ _)
  refine wpAny_of_eq (a := Value.none) (by first | rfl | (simp only [firstArgMember]; rfl)) ?_
  refine wpAny_newObj_type ?_ (by size_fits)
  refine raiseNewQ zA (fun b ob e => Heap.get?_push_of_some _ (Heap.get?_push_of_some _ e)) ?_ (Heap.get?_push_size _ rfl) rfl (by first | (simp; done) | (simp; omega) | (simp only [Array.size_append]; simp; omega)) ?_
  · cases q : (s.heap.update it (Obj.mapFields (·.setIfInBounds 0 Value.none))).get? _ with
    | none => rfl
    | some o1 => exact absurd (Heap.lt_size q) (by simp [Heap.size_push])
  refine wpAny_bind (wpAny_isInstance (T := "StopIteration") (b := true) ⟨_, Heap.get?_update_self _ (Heap.get?_push_size _ rfl) rfl, rfl⟩ isSubtype_stop ?_)
  refine wpAny_pure (hQ _ fun b ob nb e => ?_)
  have e1 : (s.heap.update it (Obj.mapFields (·.setIfInBounds 0 Value.none))).get? b = some ob := (Heap.get?_update_other _ _ (fun q => nb q.symm)).trans e
  have e2 := Heap.get?_push_of_some { cls := .type "tuple", dict := none, data := .seq #[] } e1
  rw [Heap.get?_update_other _ _ (Nat.ne_of_gt (Heap.lt_size (Heap.get?_push_of_some _ e1)))]
  exact Heap.get?_push_of_some _ (Heap.get?_push_of_some _ e1)
end
/-- the same by pins -/
def HotP (A : Around) (x1 : Addr) (ps : List (Addr × Obj)) : Prop := A.handled = some (.ref x1) ∧ ∃ (o : Obj) (vs : Array Value) (v : Value), (x1, o) ∈ ps ∧ o.data = .fields vs ∧ vs[2]? = some v ∧
  (v = .none ∨ ∃ (x2 : Addr) (o2 : Obj) (vs2 : Array Value), v = .ref x2 ∧ x2 ≠ x1 ∧ (x2, o2) ∈ ps ∧ o2.data = .fields vs2 ∧ vs2[2]? = some .none)
theorem HotP.at {A : Around} {x1 : Addr} {ps : List (Addr × Obj)} {h : Heap} (z : HotP A x1 ps) (k : ∀ p ∈ ps, h.get? p.1 = some p.2) : HotH A x1 h := by
  obtain ⟨z1, o, vs, v, z2, z3, z4, z5⟩ := z
  refine ⟨z1, o, vs, v, k _ z2, z3, z4, z5.imp id ?_⟩
  rintro ⟨x2, o2, vs2, y1, y2, y3, y4, y5⟩
  exact ⟨x2, o2, vs2, y1, y2, k _ y3, y4, y5⟩
theorem walksQ {prog : Program} {w : World} {A : Around} {x1 : Addr} {ps : List (Addr × Obj)} (z : HotP A x1 ps) (I ax : Addr) (ne : ax ≠ I) (nps : ∀ p ∈ ps, p.1 ≠ I) (items : Array Value) :
    Walks prog w A I (I :: ax :: ps.map (·.1)) [I] items.size (fun i v => items[i]? = some v) (fun i h => h.IsListIter I ax i ∧ h.IsList ax items ∧ ∀ p ∈ ps, h.get? p.1 = some p.2) where
  sub := fun b hb => by rw [List.mem_singleton.mp hb]; exact List.mem_cons_self
  frame := fun _ _ _ st hk => ⟨st.1.at fun o e => hk I List.mem_cons_self o e, st.2.1.at fun o e => hk ax (List.mem_cons_of_mem _ List.mem_cons_self) o e, fun p hp => hk p.1 (List.mem_cons_of_mem _ (List.mem_cons_of_mem _ (List.mem_map_of_mem hp))) p.2 (st.2.2 p hp)⟩
  item := fun i s Q E hi st hQ => by
    refine wpAny_pyNext_list_item st.1 st.2.1 (x := items[i]) (by simp [hi]) fun h1 it1 sb => ?_
    exact hQ _ h1 s.toks (by simp [hi]) ⟨it1, st.2.1.extBut sb.extBut ne, fun p hp => (sb.2 p.1 (nps p hp)).trans (st.2.2 p hp)⟩ fun b o hb e => sb.extBut b o (fun q => hb (by simp [q])) e
  done := fun s Q E st hQ => by
    refine list_endQ (z.at st.2.2) (fun o vs e d => ?_) st.1 st.2.1 (by simp) fun h1 k1 => hQ h1 s.toks fun b o hb e => k1 b o (fun q => hb (by simp [q])) e
    obtain ⟨o', e', _, d'⟩ := st.1
    rw [e] at e'
    cases e'
    rw [d] at d'
    cases d'
    exact Nat.le_refl 2
  self := fun _ _ _ _ st hQ => wpAny_pyIter_listiter st.1 hQ
theorem cr_anyQ {X : Cx} (hc : ∃ x1, HotP X.A x1 X.pn) : CallR X (.builtin "any") (rAny X.K) := by
  intro pins s σ H vs us Q I r h
  obtain ⟨a, bs, rfl, hs, q⟩ := h
  obtain ⟨its, rv, hl, _⟩ := I.list hs
  obtain ⟨x1, z⟩ := hc
  have z : HotP X.A.in1 x1 X.pn := z
  have hb := rv.bls
  rw [Vals.ref1 r]
  have pin : ∀ p ∈ X.pn, s.heap.get? p.1 = some p.2 := fun p hp => (I.pin p (List.mem_append_left _ hp)).1
  refine call_any_walk (iter_any hl.isList fun s2 e2 st ne => ?_)
  subst e2
  refine ⟨_, _, _, _, _, _, _, rfl, walksQ z _ a ne (fun p hp => Nat.ne_of_lt (Heap.lt_size (pin p hp))) its.toArray, ⟨st.1, st.2, fun p hp => Heap.get?_push_of_some _ (pin p hp)⟩, truth_bools hb, fun h1 tk k1 => ?_⟩
  refine ⟨.bl _, H, I.kept fun b o e => k1 b o (fun hm => ?_) (Heap.get?_push_of_some _ e), ?_, q⟩
  · rw [List.mem_singleton.mp hm] at e
    exact Nat.lt_irrefl _ (Heap.lt_size e)
  · show Value.bool _ = Value.bool _
    rw [← L2.any_range, hb, List.size_toArray, List.length_map]
/-! ### try: body / except X as e: suite -/
theorem suite_drop {X : Cx} {a : Addr} {L pins pn' : List (Addr × Obj)} {σ : L2.St} {H : Hp} {s : Shared} (I : Inv (X.suite a L) pn' σ H s) (sub : ∀ p ∈ X.pn ++ pins, p ∈ L) (ok : X.Ok) : Inv X pins σ H s :=
  ⟨ok, I.os, I.bare, I.base, I.loc, I.cell, I.free, I.freeC, fun p hp => I.pin p (List.mem_append_left _ (sub p hp)), I.hok, I.len⟩
theorem suite_up {X : Cx} {a : Addr} {L pins : List (Addr × Obj)} {σ : L2.St} {H : Hp} {s : Shared} (I : Inv X pins σ H s) (pin : ∀ p ∈ L, s.heap.get? p.1 = some p.2 ∧ H p.1 = none ∧ p.1 ≠ X.env.locals ∧ p.1 ∉ X.fs ∧ ∀ v, p.2.data ≠ .cell v) : Inv (X.suite a L) [] σ H s :=
  ⟨I.ok.suite _ _, I.os, I.bare, I.base, I.loc, I.cell, I.free, I.freeC, fun p hp => pin p (by rw [List.append_nil] at hp; exact hp), I.hok, I.len⟩
section
variable {X : Cx} {x n : Str} {C : Addr} {i : Nat} {body suite : List Stmt} {b₀ : Stmt} {np pos pos' : Pos} {tb : WX → TS} {ts : Addr → Value → Option Addr → TS}
theorem ps_try_asQ (hs : X.stack = X.env :: X.outer) (hf : X.env.frame = some X.env.locals) (hN : X.N.Nodup) (hi : X.N[i]? = some n) (hln : X.env.kindOf n = some .local) (gl : Gl X x) (hm : X.mg x = some (.ref C))
    (hb : ∀ (W : WX) (pn : List (Addr × Obj)) (xe : Value → Shared → Prop), Takesq (X.tr pn xe) W → PSs (X.tr pn xe) body (tb W))
    (hsu : ∀ (a : Addr) (oe : Obj) (cls : Value) (d : Option Addr) (pn : List (Addr × Obj)), Zc cls d oe → (∃ vs, oe.data = .fields vs) → (∃ x1, HotP (X.suite a ((a, oe) :: pn)).A x1 ((a, oe) :: pn)) → PSs (X.suite a ((a, oe) :: pn)) (b₀ :: suite) (ts a cls d))
    (hdb : (x == ("__debug__" : Str)) = false := by decide) :
    PS X (.Try body [.ExceptHandler (some (.Name x np)) (some n) (b₀ :: suite) pos'] [] [] pos) (fun D σ H => tb (wAs X.K (.ref C) i ts (fun _ _ _ _ => False) D) D σ H) := by
  constructor
  intro pins s σ H D I h
  have ok := I.ok
  have hfr : X.A.frames = some (X.env :: X.outer) := ok.frames.trans (congrArg some hs)
  refine wpAny_Try_except (wpAny_mono ((hb (wAs X.K (.ref C) i ts (fun _ _ _ _ => False) D) (X.pn ++ pins) (fun e t1 => wpAny (model X.prog X.w) X.A (noteFrame e X.env) (fun _ t2 => wpAny (model X.prog X.w) X.A (setFlight e none) (fun _ t3 =>
    wpAny (model X.prog X.w) X.A (handleBy e X.env [.ExceptHandler (some (.Name x np)) (some n) (b₀ :: suite) pos']) (SP X pins D) X.xe t3) X.xe t2) X.xe t1) (fun v t' xx => ?_)).run [] s σ H D (I.toTry _) h) (fun f t q => ?_) (fun e t z => z))
  · obtain ⟨a, B, sI, pins1, σ1, H1, cls, d, v, rfl, I1, nb, up, sky, na, os, ag, past, b, hb1, yes, no⟩ := xx
    have J0 : Inv X pins σ1 H1 sI := I1.ofTry ok
    have sky1 : Sky B (X.env :: X.outer) a (Zq v cls d) X.env.locals t'.heap := by rw [← hs]; exact sky
    show wpAny _ X.A (noteFrame (.ref a) X.env) _ _ _
    refine L2N.Sky.land Zq.steady hfr hf sky1 fun h1 fl1 up1 => ?_
    have J1 : Inv X pins σ1 H1 { t' with heap := h1 } := J0.landed nb fl1.1 (up.trans up1) os ag
    obtain ⟨o1, vs1, at1, z1, d1⟩ := fl1.there
    have far : ∀ {h : Heap} {c : Addr} {oc : Obj} {vs : Array Value}, h.FunFrames B (X.env :: X.outer) → h.get? c = some oc → oc.data = .fields vs → c ≠ X.env.locals ∧ c ∉ X.fs := fun {h c oc vs} ff e dd => by
      have nfr : c ∉ frs (X.env :: X.outer) := fun hm' => by
        obtain ⟨_, o', e', hnf⟩ := ff.mem hm'
        rw [e] at e'
        cases e'
        exact hnf _ dd
      refine ⟨fun z => nfr (List.mem_filterMap.mpr ⟨X.env, List.mem_cons_self, by rw [hf, z]⟩), fun hm' => ?_⟩
      obtain ⟨e, he, q⟩ := List.mem_filterMap.mp hm'
      exact nfr (List.mem_filterMap.mpr ⟨e, List.mem_cons_of_mem _ he, q⟩)
    have far1 := far fl1.2.2.1 at1 d1
    have S1 := J1.suite at1 d1 na far1.1 far1.2
    refine wpAny_handleBy_cons (codeAny_handlers_test ?_) (by intro q; cases q)
    have ty : PySem.W.Looks (model X.prog X.w) h1 (typeOf (.ref a)) cls := fun A Q E s k q => wpAny_typeOf_ref (k _ _ at1) (by rw [z1.1]; exact q)
    have mt := PySem.W.exm_one (M := model X.prog X.w) (J1.kIn) ty hb1
    refine ld_glob (X := X.suite a ((a, o1) :: (X.pn ++ pins))) S1 gl hm ?_ hdb
    refine mt.here ?_
    cases b with
    | false => exact (no rfl).elim
    | true =>
      apply codeAny_handlers_suite_as
      refine HandSPX.lands_againZ fl1 fun h2 fl2 up2 => ?_
      have J2 : Inv X pins σ1 H1 { t' with heap := h2 } := J0.landed nb fl2.1 ((up.trans up1).trans up2) os ag
      obtain ⟨o2, vs2, at2, z2, d2⟩ := fl2.there
      have far2 := far fl2.2.2.1 at2 d2
      have key : ∃ L : List (Addr × Obj), (∀ p ∈ X.pn ++ pins, p ∈ (a, o2) :: L) ∧ (∃ x1, HotP (X.suite a ((a, o2) :: L)).A x1 ((a, o2) :: L)) ∧ Inv (X.suite a ((a, o2) :: L)) [] σ1 H1 { t' with heap := h2 } := by
        rcases past with rfl | ⟨x2, oc, vsc, rfl, nxa, gx, dx, cx, hx⟩
        · exact ⟨X.pn ++ pins, fun p hp => List.mem_cons_of_mem _ hp, ⟨a, rfl, o2, vs2, .none, List.mem_cons_self, d2, z2.2.2 vs2 d2, .inl rfl⟩, J2.suite at2 d2 na far2.1 far2.2⟩
        · have far3 := far fl2.2.2.1 (fl2.1 _ _ gx) dx
          refine ⟨(x2, oc) :: (X.pn ++ pins), fun p hp => List.mem_cons_of_mem _ (List.mem_cons_of_mem _ hp), ⟨a, rfl, o2, vs2, .ref x2, List.mem_cons_self, d2, z2.2.2 vs2 d2, .inr ⟨x2, oc, vsc, rfl, nxa, List.mem_cons_of_mem _ List.mem_cons_self, dx, cx⟩⟩, suite_up J2 fun p hp => ?_⟩
          rcases List.mem_cons.mp hp with rfl | hp
          · exact ⟨at2, na, far2.1, far2.2, fun w z => by rw [show o2.data = _ from z] at d2; cases d2⟩
          rcases List.mem_cons.mp hp with rfl | hp
          · exact ⟨fl2.1 _ _ gx, hx, far3.1, far3.2, fun w z => by rw [show oc.data = _ from z] at dx; cases dx⟩
          · exact J2.pin p hp
      obtain ⟨L, sub, hot, S2⟩ := key
      refine store_ok (X := X.suite a ((a, o2) :: L)) (v := .ref a) S2 hN hi (.inl hln) rfl (fun s5 S5 => ?_) (.inr hln)
      refine wpAny_mono ((hsu a o2 cls d L ⟨z2.1, z2.2.1⟩ ⟨_, d2⟩ hot).run [] s5 _ H1 _ S5 (yes rfl a na)) (fun f t6 q => ?_) (fun _ _ z => False.elim z)
      have back : ∀ {σ6 : L2.St} {H6 : Hp} {R : Shared → Prop}, Inv (X.suite a ((a, o2) :: L)) [] σ6 H6 t6 → (∀ t7, Inv X pins (σ6.set i none) H6 t7 → R t7) →
          wpAny (model X.prog X.w) X.A (do bindName X.env n .none; unbindBehindTheSuite X.env n pos') (fun _ t7 => R t7) X.xe t6 := fun {σ6 H6 R} S6 hq => gone_ok (suite_drop S6 sub ok) hN hi hln hq
      cases f with
      | next => obtain ⟨σ6, H6, S6, q6⟩ := q; exact back S6 fun t7 J7 => ⟨_, _, J7, q6⟩
      | brk => obtain ⟨σ6, H6, S6, q6⟩ := q; exact back S6 fun t7 J7 => ⟨_, _, J7, q6⟩
      | cont => obtain ⟨σ6, H6, S6, q6⟩ := q; exact back S6 fun t7 J7 => ⟨_, _, J7, q6⟩
      | ret v => obtain ⟨v6, σ6, H6, S6, r6, q6⟩ := q; exact back S6 fun t7 J7 => ⟨_, _, _, J7, r6, q6⟩
  · cases f with
    | next => obtain ⟨σ1, H1, J1, q1⟩ := q; exact wpAny_execs_nil ⟨σ1, H1, J1.ofTry ok, q1⟩
    | brk => obtain ⟨σ1, H1, J1, q1⟩ := q; exact ⟨σ1, H1, J1.ofTry ok, q1⟩
    | cont => obtain ⟨σ1, H1, J1, q1⟩ := q; exact ⟨σ1, H1, J1.ofTry ok, q1⟩
    | ret v => obtain ⟨v1, σ1, H1, J1, r1, q1⟩ := q; exact ⟨v1, σ1, H1, J1.ofTry ok, r1, q1⟩
/-- what is asked only where p holds -/
theorem pss_if {X : Cx} {p : Prop} {b : List Stmt} {t : TS} (h : p → PSs X b t) : PSs X b (fun D σ H => p ∧ t D σ H) := ⟨fun pins s σ H D I z => (h z.1).run pins s σ H D I z.2⟩
end
end J

namespace J
open PySem PySem.Spec L2 PyProof.Rows
section
variable {K : PySem.W.Frag} {F0 H0 F H : Hp} {σ : L2.St} {δ es : List Ent} {te ta tb to : TE} {tl th : TO} {tz : TS} {D : Ends} {i j : Nat} {S T : Slot} {e e1 e2 : Ent} {c : Addr} {E : XK} {ss : List Slot}
/-! ### a comprehension's element that raises -/
theorem lc_fail {Dl : Addr} {H1 : Hp} {x : V} {H' : Hp} {Nx : Hp → Prop} (s : St F0 H0 F H σ δ) (px : ∀ F', Grow F H F' H' → T.P F' x) (p : LcI F H Dl ss H') (he : EvX te (δ.set j (.v T)) E c) (k : ∀ F' H', Grow F H F' H' → E (.ref c) none H') :
    tYes ((L2.wipe σ [j]).set j (some x)) H' fun b H3 => if b = true then te ((L2.wipe σ [j]).set j (some x)) H3 fun y H4 => ∃ acc, H4 Dl = some (.lst acc) ∧ acc.length < sizeLine ∧ Nx (upd H4 Dl (.lst (acc ++ [y]))) else Nx H3 := by
  obtain ⟨F', acc, g, hf, hp, pa⟩ := p
  have s' : St F0 H0 F' H' ((L2.wipe σ [j]).set j (some x)) (δ.set j (.v T)) := by
    have z := ((s.wipe j).grow g).set_v (i := j) (px F' g)
    rw [set_set_e] at z
    exact z
  show te _ H' _
  exact he F0 H0 F' H' _ s' (fun F3 H3 g3 => k F3 H3 (g.trans g3)) _
theorem ex_lcM {α : Type} (ex : α → Slot) (xs : List α) (f : α → Slot) (n : Nat) (a : α) (h : EvE ta δ e1) (hr : IsR e1 (lstO (xs.map ex))) (hz : xs.length ≤ 40000) (ha : xs[n]? = some a) (he : ∀ x ∈ xs.take n, EvE te (δ.set j (.v (ex x))) (.v (f x)))
    (hx : EvX te (δ.set j (.v (ex a))) E c) : EvX (tLc (iAny K ta) (gName j) tYes te [j]) δ E c := fun F0 H0 F H σ s k Q => by
  refine .inl (h F0 H0 F H σ s _ fun v F1 H1 g1 a1 => ?_)
  obtain ⟨p, ho, rfl, hp, vs, rfl, pv⟩ := hr.get a1 g1.fh
  have s1 := s.grow g1
  have hlen : vs.length = xs.length := by rw [pv.length, List.length_map]
  have hn : n < xs.length := (List.getElem?_eq_some_iff.mp ha).1
  refine ⟨p, rfl, ⟨vs, SqL.of hp⟩, fun Dl hD => lc_list (xs := vs) (fun i H' => i ≤ n ∧ LcI F1 H1 Dl ((xs.take i).map f) H') ⟨Nat.zero_le _, LcI.start g1.fh hD⟩ ?_ ?_ ?_⟩
  · rintro i H' _ ⟨_, F', acc, g, _⟩
    exact SqL.of (g.hh p _ hp)
  · rintro i x H' hi ⟨hin, hI⟩
    have hil : i < xs.length := by
      rw [← hlen]
      exact (List.getElem?_eq_some_iff.mp hi).1
    have hxi : xs[i]? = some xs[i] := List.getElem?_eq_getElem hil
    have px : (ex xs[i]).P F1 x := by
      obtain ⟨w, hw, z⟩ := PairS.get (i := i) (S := ex xs[i]) pv (by rw [List.getElem?_map, hxi]; rfl)
      rw [hi] at hw
      cases hw
      exact z
    by_cases hlt : i < n
    · have hm : xs[i] ∈ xs.take n := by
        rw [List.mem_take_iff_getElem]
        exact ⟨i, by omega, rfl⟩
      refine ⟨wipe1, lc_turn (b := true) (T := ex xs[i]) (S := f xs[i]) (ss := (xs.take i).map f) s1 hD (by rw [List.length_map, List.length_take]; omega) (fun F' g => (ex xs[i]).mono g.ff px) hI et_yes (fun _ => he _ hm) fun H' z => ⟨by omega, ?_⟩⟩
      rw [List.take_add_one, hxi, List.map_append]
      exact z
    · have e : i = n := by omega
      subst e
      have ea : xs[i] = a := by
        rw [hxi] at ha
        exact Option.some.inj ha
      rw [ea] at px
      exact ⟨wipe1, lc_fail (T := ex a) s1 (H1 := H1) (fun F' g => (ex a).mono g.ff px) hI hx fun F' H' g => k F' H' (g1.trans g)⟩
  · rintro H' ⟨hc, _⟩
    omega
/-! ### a store of which nothing is known -/
theorem St.blank {n : Nat} (g : Grow F0 H0 F H) (tt : TupIn F H) (hl : σ.length = n) : St F0 H0 F H σ (List.replicate n .un) := by
  have no : ∀ {k : Nat} {x : Ent}, (List.replicate n Ent.un)[k]? = some x → x = .un := fun {k x} h => by
    rw [List.getElem?_replicate] at h
    split at h
    · exact (Option.some.inj h).symm
    · cases h
  exact ⟨g, by rw [hl, List.length_replicate], fun _ _ h => (nomatch no h), fun _ _ h => (nomatch no h), fun _ _ h => (nomatch no h), fun _ _ _ _ _ _ h _ _ _ => (nomatch no h), tt, fun _ _ _ h => (nomatch no h), fun _ _ _ _ _ _ h _ _ _ => (nomatch no h)⟩
/-! ### texts -/
theorem ev_slS {z : Str} {lo hi : Option Int} (h : EvE te δ (.v (sS z))) (h1 : EvPO tl δ lo) (h2 : EvPO th δ hi) (hz : z.length ≤ 100000) : EvE (tSl (rSlJ K) te tl th) δ (.v (sS (Txt.slice z lo hi))) := fun F0 H0 F H σ s Q q =>
  h F0 H0 F H σ s _ fun x F1 H1 g1 a1 => h1 F0 H0 F1 H1 σ (s.grow g1) _ fun F2 H2 g2 => h2 F0 H0 F2 H2 σ ((s.grow g1).grow g2) _ fun F3 H3 g3 => by
    cases a1
    exact .inr (.inr ⟨z, rfl, size_ok hz, q _ F3 H3 ((g1.trans g2).trans g3) rfl⟩)
theorem jx_c {z : Str} {k : Nat} (hz : z.length ≤ 100000) (hk : k < z.length) : OpE (rIx K) (.v (sS z)) (.v (iS (k : Int))) (.v (sS ⟨#[(TL.tl z).getD k 0]⟩)) := fun F H x y s a b Q q => by
  cases a
  cases b
  refine .inr (.inr ⟨z, k, (TL.tl z).getD k 0, rfl, rfl, size_ok hz, ?_, q _ F H (Grow.refl s) rfl⟩)
  have hk2 : k < z.cps.toList.length := by rw [TL.len_tl] at hk; exact hk
  unfold atI
  rw [ixN_nat hk2]
  show z.cps.toList[k]? = some (z.cps.toList.getD k 0)
  rw [List.getD_eq_getElem?_getD, List.getElem?_eq_getElem hk2]
  rfl
theorem atI_last {α : Type} {xs : List α} {a : α} (h : xs.getLast? = some a) : atI xs (-1) = some a := by
  have hn : xs ≠ [] := fun e => by rw [e] at h; cases h
  have hl := List.length_pos_iff.mpr hn
  unfold atI ixN
  rw [if_neg (by omega), if_pos (by omega)]
  rw [List.getLast?_eq_getElem?] at h
  show xs[_]? = some a
  rw [← h]
  congr 1
  omega
theorem PairS.last {vs : List V} (h : PairS F vs ss) (hx : ss.getLast? = some S) : ∃ v, vs.getLast? = some v ∧ S.P F v := by
  rw [List.getLast?_eq_getElem?] at hx
  obtain ⟨v, hv, z⟩ := PairS.get h hx
  rw [← h.length] at hv
  exact ⟨v, by rw [List.getLast?_eq_getElem?]; exact hv, z⟩
theorem jx_last (h : IsR e1 (lstO ss)) (hx : ss.getLast? = some S) : OpE (rIx K) e1 (.v (iS (-1))) (.v S) := fun F H x y s a b Q q => by
  cases b
  obtain ⟨p, ho, rfl, hp, vs, rfl, pv⟩ := h.get a s
  obtain ⟨v, hv, z⟩ := pv.last hx
  exact .inl ⟨p, vs, -1, v, rfl, rfl, SqL.of hp, atI_last hv, q v F H (Grow.refl s) z⟩
theorem cut_init : cutS' ss none (some (-1)) = ss.dropLast := by
  unfold cutS'
  rw [HT.sIx_none, List.drop_zero, Nat.sub_zero, List.dropLast_eq_take]
  have e : HT.sIx ss.length ss.length (some (-1)) = ss.length - 1 := by
    show (if (-1 : Int) < 0 then ((-1 : Int) + (ss.length : Int)).toNat else min (-1 : Int).toNat ss.length) = _
    rw [if_pos (by decide)]
    omega
  rw [e]
def rStripC : V → List V → Hp → VK → Prop := fun x xs H Q => ∃ a b, x = .str a ∧ xs = [.str b] ∧ a.length ≤ sizeLine ∧ Q (.str (Txt.stripChars a b)) H
theorem mt_stripC {X : Cx} : MtR X "str.strip" rStripC := mt_stripChars
theorem ev_stripC {a b : Str} (h1 : EvE to δ (.v (sS a))) (h2 : EvE te δ (.v (sS b))) (ha : a.length ≤ 100000) : EvE (tBM K "str" rStripC to (tCons te tNil)) δ (.v (sS (Txt.stripChars a b))) := fun F0 H0 F H σ s Q q =>
  h1 F0 H0 F H σ s _ fun x F1 H1 g1 a1 => by
    cases a1
    refine ⟨rfl, h2 F0 H0 F1 H1 σ (s.grow g1) _ fun y F2 H2 g2 a2 => ?_⟩
    cases a2
    exact ⟨a, b, rfl, rfl, size_ok ha, q _ F2 H2 (g1.trans g2) rfl⟩
/-- a text times an int -/
def rMulT : R2 := fun x y H Q => ∃ (z : Str) (k : Nat), x = .str z ∧ y = .int (k : Int) ∧ z.length ≤ 16 ∧ k ≤ 1048576 ∧ Q (.str (Txt.mul z k)) H
theorem jo_muls {X : Cx} : OpR X (binaryOp .Mult) rMulT := by
  intro pins s σ H x y v u Q I rx ry h
  obtain ⟨z, k, rfl, rfl, h1, h2, q⟩ := h
  obtain ⟨t, rfl⟩ := rx
  obtain ⟨t2, rfl⟩ := ry
  exact PySem.W.KXi.mul (n := z.length) rfl h1 (by omega) (by omega) fun t' k' _ _ => ⟨.str _, H, I.tok _, ⟨_, rfl⟩, q⟩
theorem jv_muls {z : Str} {k : Nat} (h1 : z.length ≤ 16) (h2 : k ≤ 1048576) : OpE rMulT (.v (sS z)) (.v (iS (k : Int))) (.v (sS (Txt.mul z k))) := op_k fun _ _ q => ⟨z, k, rfl, rfl, h1, h2, q⟩
theorem jv_inS {z : Str} {xs : List Str} (h : IsR e1 (tupO (xs.map sS))) : OpE (rIn K false) (.v (sS z)) e1 (.v (bS (decide (z ∈ xs)))) := fun F H x y s a b Q q => by
  cases a
  obtain ⟨p, rfl, hp⟩ := IsR.kt (K := K) (f := V.str) h b s
  have fl : (xs.map V.str).all flatV = true := by
    rw [List.all_map, List.all_eq_true]
    intro x _
    rfl
  have key : ∀ l : List Str, inV (V.str z) (l.map V.str) = decide (z ∈ l) := fun l => by
    induction l with
    | nil => rfl
    | cons y l ih =>
      have e : inV (V.str z) ((y :: l).map V.str) = (decide (y = z) || inV (V.str z) (l.map V.str)) := by
        first
          | rfl
          | simp [inV, eqV]
      rw [e, ih]
      by_cases h : y = z
      · subst h
        rw [decide_eq_true rfl, Bool.true_or, decide_eq_true List.mem_cons_self]
      · rw [decide_eq_false h, Bool.false_or]
        congr 1
        rw [List.mem_cons]
        exact propext ⟨.inr, fun q => q.elim (fun q => absurd q.symm h) id⟩
  exact ⟨p, _, rfl, .inr hp, rfl, fl, q _ F H (Grow.refl s) (by rw [if_neg Bool.false_ne_true, key]; rfl)⟩
theorem ev_inS {z : Str} {xs : List Str} (ha : EvE ta δ (.v (sS z))) (hb : EvE tb δ e1) (h : IsR e1 (tupO (xs.map sS))) : EvE (tInJ K ta tb) δ (.v (bS (decide (z ∈ xs)))) := fun F0 H0 F H σ s Q q => .inl (ev_op ha hb (jv_inS h) F0 H0 F H σ s Q q)
/-! ### is None, isinstance -/
theorem op_isNn : OpE (fun x y H Q => y = V.non ∧ Q (.bl (decide (x = .non))) H) (.v nS) (.v nS) (.v (bS true)) := op_k fun _ _ q => ⟨rfl, q⟩
theorem op_isNt : OpE (fun x y H Q => y = V.non ∧ Q (.bl (decide (x = .non))) H) (.v (tupS ss)) (.v nS) (.v (bS false)) := fun F H x y s a b Q q => by
  cases b
  obtain ⟨p, ho, rfl, _⟩ := a
  exact ⟨rfl, q _ F H (Grow.refl s) rfl⟩
theorem kt_ns {K : PySem.W.Frag} : PySem.W.kitOne K (.type "NoneType") (.type "str") = some false := kit_ty (by decide +kernel)
theorem kt_is {K : PySem.W.Frag} : PySem.W.kitOne K (.type "int") (.type "str") = some false := kit_ty (by decide +kernel)
theorem kt_ls {K : PySem.W.Frag} : PySem.W.kitOne K (.type "list") (.type "str") = some false := kit_ty (by decide +kernel)
theorem kt_bs {K : PySem.W.Frag} : PySem.W.kitOne K (.type "bool") (.type "str") = some false := kit_ty (by decide +kernel)
theorem cb_isE {Da a C : Addr} {b : Bool} (hb : PySem.W.kitOne K (.ref Da) (.ref C) = some b) : CbE (rIsE K Da a) [.v (kS (.ref a)), .v (kS (.ref C))] (.v (bS b)) := fun F H xs s h Q q => by
  obtain ⟨x, y, rfl, a1, a2⟩ := two h
  cases a1
  cases a2
  exact ⟨.ref C, .ref C, b, rfl, fun u r => by cases r; rfl, hb, q _ F H (Grow.refl s) rfl⟩
theorem cb_isEt {Da a : Addr} {t : String} {b : Bool} (hb : PySem.W.kitOne K (.ref Da) (.type t) = some b) : CbE (rIsE K Da a) [.v (kS (.ref a)), .v (kS (.ty t))] (.v (bS b)) := fun F H xs s h Q q => by
  obtain ⟨x, y, rfl, a1, a2⟩ := two h
  cases a1
  cases a2
  exact ⟨.ty t, .type t, b, rfl, fun u r => by cases r; rfl, hb, q _ F H (Grow.refl s) rfl⟩
/-! ### a callee that stands in a slot -/
theorem ex_callL {R : Rel} {i : Nat} {f : Addr} {ta : TA} (hi : δ[i]? = some (.v (kS (.ref f)))) (h : EvAs ta δ es) (hR : R es (.x c)) : EvX (tCallL i f (SpOf R) [] E ta) δ E c := fun F0 H0 F H σ s q Q => by
  obtain ⟨v, e, z⟩ := s.at_ i _ hi
  cases z
  exact ⟨e, ex_call h hR F0 H0 F H σ s q Q⟩
theorem ev_callL {R : Rel} {i : Nat} {f : Addr} {ta : TA} (hi : δ[i]? = some (.v (kS (.ref f)))) (h : EvAs ta δ es) (hR : R es (.v S)) : EvE (tCallL i f (SpOf R) [] E ta) δ (.v S) := fun F0 H0 F H σ s Q q => by
  obtain ⟨v, e, z⟩ := s.at_ i _ hi
  cases z
  exact ⟨e, ev_call h hR F0 H0 F H σ s Q q⟩
/-! ### the place of a tuple in a list -/
theorem ev_indexL {x : List Int} {L : List (List Int)} {n : Nat} (ha : EvE ta δ e1) (hr : IsR e1 (lstO (L.map tpS))) (hb : EvE tb δ (.v (tpS x))) (hn : L[n]? = some x) (h1 : ∀ m < n, L[m]? ≠ some x) :
    EvE (tBM K "list" (rIndexD K) ta (tCons tb tNil)) δ (.v (iS (n : Int))) := fun F0 H0 F H σ s Q q =>
  ha F0 H0 F H σ s _ fun v F1 H1 g1 a1 => by
    obtain ⟨p, ho, rfl, hp, vs, rfl, pv⟩ := hr.get a1 g1.fh
    refine ⟨.inl ⟨rfl, vs, SqL.of hp⟩, hb F0 H0 F1 H1 σ (s.grow g1) _ fun y F2 H2 g2 a2 => ?_⟩
    have d1 := dat_ltp (K := K) hr
    have d2 := dat_tp (K := K) (x := x) (e := .v (tpS x)) isR_v
    refine ⟨p, y, tpD x, L.map tpD, n, tpD x, rfl, rfl, d1.to F2 H2 _ g2.fh (a1.grow g2), d2.to F2 H2 _ g2.fh a2, d1.sh, d2.sh, by rw [List.getElem?_map, hn]; rfl, by rw [eqv_tp]; exact decide_eq_true rfl, fun m z hm hz => ?_, q _ F2 H2 (g1.trans g2) rfl⟩
    rw [List.getElem?_map] at hz
    cases e : L[m]? with
    | none => rw [e] at hz; cases hz
    | some w =>
      rw [e] at hz
      cases hz
      rw [eqv_tp]
      exact decide_eq_false fun z => h1 m hm (by rw [e, z])
end
end J

namespace J
open PySem PySem.Spec L2 PyProof.Rows
/-! ### defs whose exceptions may have a context -/
structure CalQ (P : Program) (w : World) (K : PySem.W.Frag) (mg : Str → Option Value) (base : Heap) (k : Nat) (x : Str) (sp : Sp) : Prop where
  ex : ∃ (f : Addr) (fd : FuncData) (ps : List Str), FnOk P w K mg base (CXq P w) k f fd ps sp ∧ mg x = some (.ref f) ∧ PySem.W.keepIn K (.ref f) = true ∧ Binds K fd ps []
section
variable {X : Cx} {k j i : Nat} {C f : Addr} {x y : Str} {sp : Sp} {p pos : Pos} {e : Expr} {es : List Expr} {t : TA} {E : XK} {W : WX} {K : PySem.W.Frag}
/-- a call that lets nothing out -/
theorem pe_cQ (c : CalQ X.prog X.w X.K X.mg X.base k x sp) (hr : Room j X.A) (hk : k ≤ j) (hg : Gl X x) (ha : PA X (e :: es) t)
    (hdb : (x == ("__debug__" : Str)) = false := by decide) (he : starEach (e :: es) X.env = (false, eval e X.env) :: starEach es X.env := by rfl) (hpl : (backTo pos (starEach es X.env)).any (·.1) = false := by rfl) :
    PE X (.Call (.Name x p) (e :: es) [] pos) (tCall sp [] (fun _ _ _ => False) t) := by
  obtain ⟨f, fd, ps, F, hm, kp, b⟩ := c.ex
  exact pe_call F (hr.mono hk) hg hm kp b .nil (px_none fun _ _ _ _ _ => cxq_no) ha hdb he hpl
/-- the callee stands in a slot -/
theorem pe_callLQ (c : CalQ X.prog X.w X.K X.mg X.base k x sp) (v : ∃ u, X.mg x = some u ∧ RelV (.ref f) u) (hr : Room j X.A) (hk : k ≤ j) (hN : X.N[i]? = some y) (hv : Vis X.env.scope y) (hx : Passes (CXq X.prog X.w) X E) (ha : PA X (e :: es) t)
    (hdb : (y == ("__debug__" : Str)) = false := by decide) (hcd : (y == ("__classdict__" : Str)) = false := by decide)
    (he : starEach (e :: es) X.env = (false, eval e X.env) :: starEach es X.env := by rfl) (hpl : (backTo pos (starEach es X.env)).any (·.1) = false := by rfl) :
    PE X (.Call (.Name y p) (e :: es) [] pos) (tCallL i f sp [] E t) := by
  obtain ⟨f', fd, ps, F, hm, kp, b⟩ := c.ex
  obtain ⟨u, hu, r⟩ := v
  have eu : f' = f := by
    rw [hm] at hu
    have e1 := Option.some.inj hu
    have r : u = Value.ref f := r
    rw [r] at e1
    cases e1
    rfl
  subst eu
  exact pe_callL F (hr.mono hk) hN hv kp b .nil hx ha hdb hcd he hpl
theorem passN : Passes (CXJ X.prog X.w) X (fun _ _ _ => False) := px_none fun _ _ _ _ _ => cxn_no
theorem jv_nes {a b : Str} : OpE (rNeJ K) (.v (sS a)) (.v (sS b)) (.v (bS (!decide (a = b)))) := by
  have z : OpE (rNeJ K) (.v (sS a)) (.v (sS b)) (.v (bS (!decide (V.str a = V.str b)))) := OpE.inl (op_Ne rfl)
  have e : decide (V.str a = V.str b) = decide (a = b) := by
    by_cases h : a = b
    · rw [h, decide_eq_true rfl, decide_eq_true rfl]
    · rw [decide_eq_false h, decide_eq_false fun q => h (V.str.inj q)]
  rw [e] at z
  exact z
theorem ke_index {o : Expr} {to te : TE} {apos cpos : Pos} (hK : X.K = K) (hr : Room k X.A) (ho : PE X o to) (he : PE X e te) (hbase : attributeBase o "index" X.env (eval o X.env) = eval o X.env := by rfl)
    (hfew : ((backTo cpos (starEach [e] X.env)).all (fun x => !x.1) && (backToKw cpos (keywordEach [] X.env)).all (fun x => x.1.isSome) && decide ([e].length + ([] : List Keyword).length + (if ([] : List Keyword).isEmpty then 0 else 1) < 30)) = true := by rfl)
    (hline : (apos.endLine == cpos.line) = true := by rfl) (hs : starEach [e] X.env = (false, eval e X.env) :: starEach [] X.env := by rfl) :
    PE X (.Call (.Attribute o "index" apos) [e] [] cpos) (tBM K "list" (rIndexD K) to (tCons te tNil)) := by
  subst hK
  exact pe_bm PySem.F.plainAttrs_list PySem.F.slot_list_index PySem.F.type_list_index (mt_indexD (Room.u65 hr)) ho (pa_cons he pa_nil hs) hbase hfew hline hs rfl
theorem px_trN2 {n : Nat} (hn : X.N.length = n) (tk : L2N.Takes X W) : Passes (CXJ X.prog X.w) X (allS n W) := by
  subst hn
  exact px_trN tk
theorem px_trQ2 {n : Nat} (hn : X.N.length = n) (tk : Takesq X W) : Passes (CXq X.prog X.w) X (allS n W) := by
  subst hn
  exact px_trQ tk
theorem kc_anyQ (hK : X.K = K) (hc : ∃ x1, HotP X.A x1 X.pn) : CallR X (.builtin "any") (rAny K) := by subst hK; exact cr_anyQ hc
/-- the class of an exception, by its name -/
theorem exk {mg : Str → Option Value} (h : ExcK K mg x C) : ∃ u, mg x = some u ∧ RelV (.ref C) u := ⟨_, h.g, rfl⟩
end
/-! ### try statements, by name -/
def tTryX (K : PySem.W.Frag) (C : Addr) (ts : Addr → Value → Option Addr → TS) (Wout : WX) (tb : WX → TS) (u : TS) : TS := fun D σ H => tb (wOnly K (.ref C) ts Wout D) { D with nx := u D } σ H
def tTryA (K : PySem.W.Frag) (C : Addr) (i : Nat) (ts : Addr → Value → Option Addr → TS) (tb : WX → TS) : TS := fun D σ H => tb (wAs K (.ref C) i ts (fun _ _ _ _ => False) D) D σ H
section
variable {X : Cx} {x n : Str} {C : Addr} {i : Nat} {body suite orelse : List Stmt} {b₀ : Stmt} {np pos pos' : Pos} {tb : WX → TS} {ts : Addr → Value → Option Addr → TS} {Wout : WX} {u : TS} {K : PySem.W.Frag}
theorem ps_tX (hK : X.K = K) (ho : PSs X orelse u) (hs : X.stack = X.env :: X.outer) (hf : X.env.frame = some X.env.locals) (gl : Gl X x) (hm : X.mg x = some (.ref C)) (hpa : ∀ hd : Option Value, PassesOwnAt (model X.prog X.w) (X.A.mark hd) X.A X.env X.xe) (tk : Takesq X Wout)
    (hb : ∀ (W : WX) (pn : List (Addr × Obj)) (xe : Value → Shared → Prop), L2N.Takes (X.tr pn xe) W → PSs (X.tr pn xe) body (tb W))
    (hsu : ∀ (a : Addr) (oe : Obj) (cls : Value) (d : Option Addr) (pn : List (Addr × Obj)), L2N.Zn cls d oe → Takesq (L2H.suiteX X a ((a, oe) :: pn)) Wout → L2H.HotC (L2H.suiteX X a ((a, oe) :: pn)) → PSs (L2H.suiteX X a ((a, oe) :: pn)) (b₀ :: suite) (ts a cls d))
    (hdb : (x == ("__debug__" : Str)) = false := by decide) : PS X (.Try body [.ExceptHandler (some (.Name x np)) none (b₀ :: suite) pos'] orelse [] pos) (tTryX K C ts Wout tb u) := by
  subst hK
  exact ps_tryXE ho hs hf gl hm hpa tk hb hsu hdb
theorem ps_tA (hK : X.K = K) (hs : X.stack = X.env :: X.outer) (hf : X.env.frame = some X.env.locals) (hN : X.N.Nodup) (hi : X.N[i]? = some n) (hln : X.env.kindOf n = some .local) (gl : Gl X x) (hm : X.mg x = some (.ref C))
    (hb : ∀ (W : WX) (pn : List (Addr × Obj)) (xe : Value → Shared → Prop), Takesq (X.tr pn xe) W → PSs (X.tr pn xe) body (tb W))
    (hsu : ∀ (a : Addr) (oe : Obj) (cls : Value) (d : Option Addr) (pn : List (Addr × Obj)), Zc cls d oe → (∃ vs, oe.data = .fields vs) → (∃ x1, HotP (X.suite a ((a, oe) :: pn)).A x1 ((a, oe) :: pn)) → PSs (X.suite a ((a, oe) :: pn)) (b₀ :: suite) (ts a cls d))
    (hdb : (x == ("__debug__" : Str)) = false := by decide) : PS X (.Try body [.ExceptHandler (some (.Name x np)) (some n) (b₀ :: suite) pos'] [] [] pos) (tTryA K C i ts tb) := by
  subst hK
  exact ps_try_asQ hs hf hN hi hln gl hm hb hsu hdb
variable {tz : TS} {D : Ends} {σ : L2.St} {H : Hp}
theorem q_tX (h : tb (wOnly K (.ref C) ts Wout { D with nx := tz D }) { D with nx := u { D with nx := tz D } } σ H) : tSeq (tTryX K C ts Wout tb u) tz D σ H := h
theorem q_tA (h : tb (wAs K (.ref C) i ts (fun _ _ _ _ => False) { D with nx := tz D }) { D with nx := tz D } σ H) : tSeq (tTryA K C i ts tb) tz D σ H := h
end
section
variable {F0 H0 F H : Hp} {σ : L2.St} {δ δ' : List Ent} {tt : TT} {tu tz : TS} {D : Ends}
/-- if .., the ways come together -/
theorem q_join {b : Bool} (s : St F0 H0 F H σ δ) (h : EvT tt δ b) (h1 : b = true → ∀ σ' F' H', (∀ σ2 F2 H2, St F0 H0 F2 H2 σ2 δ' → tz D σ2 H2) → St F0 H0 F' H' σ' δ → tu { D with nx := tz D } σ' H') (h2 : b = false → δ = δ')
    (k : ∀ σ' F' H', St F0 H0 F' H' σ' δ' → tz D σ' H') : tSeq (tIfS tt tu tNext) tz D σ H :=
  q_when s h (fun hb σ F H s => h1 hb σ F H k s) fun hb σ F H s => k σ F H (h2 hb ▸ s)
end
theorem ex_orl {t u : TE} {δ : List Ent} {E : XK} {c : Addr} (h : EvX t δ E c) : EvX (fun σ H Q => t σ H Q ∨ u σ H Q) δ E c := fun F0 H0 F H σ s q Q => .inl (h F0 H0 F H σ s q Q)
theorem ex_orr {t u : TE} {δ : List Ent} {E : XK} {c : Addr} (h : EvX u δ E c) : EvX (fun σ H Q => t σ H Q ∨ u σ H Q) δ E c := fun F0 H0 F H σ s q Q => .inr (h F0 H0 F H σ s q Q)
end J

namespace J
open PySem PySem.Spec L2 PyProof.Rows L2H
/-! ### a def called within an except suite, which is told the exception that is handled -/
structure FnP (P : Program) (w : World) (K : PySem.W.Frag) (mg : Str → Option Value) (base : Heap) (CX : CXT) (k : Nat) (f : Addr) (fd : FuncData) (ps : List Str) (sp : Addr × Obj → Sp) : Prop where
  len : ∀ p vs H Q E, sp p vs H Q E → vs.length = ps.length
  run : ∀ (A : Around) (outer : List Env) (s : Shared) (H : Hp) (args : Args) (us : List Value) (vs : List V) (Q : VK) (E : XK) (p : Addr × Obj), RoomH k A → Hot1 A p → PinOk outer H s p → Env0 P w K mg base A outer s H → BindsTo s fd args (ps.zip us) → Vals vs us →
    sp p vs H Q E → codeAny (model P w) A (.call (.ref f) args) (CR CX outer P w H s Q E) s
theorem fnp_of {CX : CXT} {P : Program} {w : World} {K : PySem.W.Frag} {mg : Str → Option Value} {base : Heap} {k : Nat} {f : Addr} {x qual : Str} {st : Stmt} {fd : FuncData} {N ps : List Str} {sp : Addr × Obj → Sp} (F : Fun K x qual st f fd) (S : FnScope N ps (defScope st))
    (len : ∀ p vs H Q E, sp p vs H Q E → vs.length = ps.length)
    (body : ∀ (cdv : Value) (A : Around) (outer : List Env) (s : Shared) (H : Hp) (vs : List V) (Q : VK) (E : XK) (p : Addr × Obj), Hot1 A p → RoomH k (A.deeper (envOfC qual (defScope st) s.heap.objs.size f cdv)) → sp p vs H Q E →
      ∃ t, PSs (cxH CX P w K mg base N qual (defScope st) f cdv A outer s H E p) (defBody st) t ∧ t { nx := fun _ H' => Q .non H', rt := Q } (L2.start N vs) H) : FnP P w K mg base CX (k + 1) f fd ps sp := by
  rcases F.ex with ⟨_, _, _, _, _, _, cdv, _, _, rfl, at_, code_⟩
  refine ⟨len, fun A outer s H args us vs Q E p room hot pin e0 binds r hsp => ?_⟩
  have hl := len _ _ _ _ _ hsp
  have kin : K.In s.heap := e0.mod.kin.keeps fun b o e => (e0.bs b o e).1
  have lim : s.heap.NoLimit := e0.mod.nolimit.keeps fun b o e => (e0.bs b o e).1
  have kinds : ∀ y ∈ ps.zip us, (defScope st).names.lookup y.1 = some .local ∨ ((defScope st).names.lookup y.1 = some .cell ∧ ((cellsFrom (s.heap.objs.size + 1) (defScope st).names []).lookup y.1).isSome = true) := fun ⟨n, v⟩ hy =>
    (S.par n (List.of_mem_zip hy).1).imp id fun q => ⟨q, PySem.W.cellsFrom_some _ _ _ (.inl q)⟩
  refine codeAny_call_function room.depth (kin _ _ at_) rfl S.co S.gen rfl (PySem.W.codeRec_of kin code_) (binds _ _ _ _ ?_)
  refine wpAny_newFunctionEnv_cells S.kind kinds fun env he s1 x => ?_
  subst he
  refine ⟨lim.keeps x.toInCall.keep, codeAny_func ?_⟩
  obtain ⟨t, ht, hq⟩ := body cdv A outer s H vs Q E p hot (room.deeper _) hsp
  have I : Inv (cxH CX P w K mg base N qual (defScope st) f cdv A outer s H E p) [] (L2.start N vs) H s1 := inv_startH S pin e0 hl r x
  refine wpAny_mono (ht.run [] s1 (L2.start N vs) H _ I hq) (fun fl t1 z => ?_) fun e t1 z => z
  cases fl with
  | ret u => obtain ⟨v, σ', H', J, rv, q⟩ := z; exact ⟨v, H', J.os, J.bare, J.base, J.hok, rv, q⟩
  | next => obtain ⟨σ', H', J, q⟩ := z; exact ⟨V.non, H', J.os, J.bare, J.base, J.hok, rfl, q⟩
  | brk => obtain ⟨_, _, _, q⟩ := z; exact False.elim q
  | cont => obtain ⟨_, _, _, q⟩ := z; exact False.elim q
section
variable {X : Cx} {CX : CXT} {k j i : Nat} {f C : Addr} {fd : FuncData} {ps : List Str} {sp : Addr × Obj → Sp} {spx : Sp} {E : XK} {x y : Str} {pos q : Pos} {e : Expr} {es : List Expr} {t : TA} {p : Addr × Obj}
theorem pe_callP (F : FnP X.prog X.w X.K X.mg X.base CX k f fd ps sp) (room : RoomH k X.A) (hot : Hot1 X.A p) (hp : p ∈ X.pn) (hg : Gl X x) (hm : X.mg x = some (.ref f)) (hk : PySem.W.keepIn X.K (.ref f) = true) (hb : Binds X.K fd ps []) (hx : Passes CX X E)
    (ha : PA X (e :: es) t) (hdb : (x == ("__debug__" : Str)) = false := by decide) (he : starEach (e :: es) X.env = (false, eval e X.env) :: starEach es X.env := by rfl) (hpl : (backTo pos (starEach es X.env)).any (·.1) = false := by rfl) :
    PE X (.Call (.Name x q) (e :: es) [] pos) (tCall (sp p) [] E t) := by
  constructor
  intro pins s σ H Q I h
  refine wpAny_Call_Name_kw (ld_glob I hg hm ?_ hdb)
  refine PySem.W.callWith_K (h₀ := X.base) I.ok.mod.kin hk (thn (ha.run pos pins s σ H _ I h) fun us s1 ⟨vs, H1, I1, r, z⟩ => ⟨I1.kIn, ?_⟩) he hpl
  have z : sp p vs H1 Q E := by
    have z2 : sp p (vs ++ []) H1 Q E := z
    rw [List.append_nil] at z2
    exact z2
  have hl : us.length = ps.length := by rw [← r.length]; exact F.len _ _ _ _ _ z
  have b := hb s1 us I1.kIn (by rw [List.append_nil]; exact hl)
  rw [List.append_nil] at b
  obtain ⟨P1, P2, P3, P4, P5⟩ := I1.pin p (List.mem_append_left _ hp)
  refine wpAny_call (codeAny_mono (F.run X.A X.stack s1 H1 ⟨us, []⟩ us vs Q E p room hot ⟨P1, P2, fun m => (List.mem_cons.mp (I1.stkSub p.1 m)).elim P3 P4, P5⟩ I1.env0 b r z) fun r2 s2 hq => ?_)
  cases r2 with
  | error u => exact hx pins σ H1 s1 u s2 I1 hq
  | ok fl =>
    cases fl with
    | ret u => exact I1.after hq
    | next => exact False.elim hq
    | brk => exact False.elim hq
    | cont => exact False.elim hq
/-- isinstance of the handled exception, in such a def -/
theorem call_isP {a D : Addr} {oe : Obj} (hp : (a, oe) ∈ X.pn) (C : ExcC X.K D) (hz : Zc (.ref D) none oe) (hf : ∃ vs, oe.data = .fields vs) : CallR X (.builtin "isinstance") (rIsE X.K D a) := by
  rintro pins s σ H xs us Q I r ⟨c, cv, b, rfl, hcv, e, q⟩
  cases r with
  | cons rx rr => cases rr with
    | cons rt rr =>
      cases rr
      cases rx
      have ec := hcv _ rt
      subst ec
      obtain ⟨at_, _⟩ := I.pin (a, oe) (List.mem_append_left _ hp)
      obtain ⟨vs, hv⟩ := hf
      have J : PySem.W.InstAt s.heap a oe D none := by
        obtain ⟨oc, od, oda, osl⟩ := oe
        obtain ⟨h1, h2⟩ := hz
        dsimp only at h1 h2 hv
        subst h1 h2 hv
        exact ⟨at_, rfl, rfl, trivial⟩
      exact PySem.W.kia_one (PySem.W.handS_kitx_exc C.hg C.hk C.hs C.hd C.ha C.hn C.ht C.hm) I.kIn J e (fun z => nomatch z) fun tk => ⟨.bl b, H, I.kept (t' := tk) fun _ _ z => z, rfl, q⟩
/-- a def that stands in a slot -/
theorem pe_callLX (c : CalX X.prog X.w X.K X.mg X.base k x spx) (v : ∃ u, X.mg x = some u ∧ RelV (.ref f) u) (hr : Room j X.A) (hk : k ≤ j) (hN : X.N[i]? = some y) (hv : Vis X.env.scope y) (hx : Passes (CXJ X.prog X.w) X E) (ha : PA X (e :: es) t)
    (hdb : (y == ("__debug__" : Str)) = false := by decide) (hcd : (y == ("__classdict__" : Str)) = false := by decide)
    (he : starEach (e :: es) X.env = (false, eval e X.env) :: starEach es X.env := by rfl) (hpl : (backTo pos (starEach es X.env)).any (·.1) = false := by rfl) :
    PE X (.Call (.Name y q) (e :: es) [] pos) (tCallL i f spx [] E t) := by
  obtain ⟨f', fd, ps, F, hm, kp, b⟩ := c.ex
  obtain ⟨u, hu, r⟩ := v
  have eu : f' = f := by
    rw [hm] at hu
    have e1 := Option.some.inj hu
    have r : u = Value.ref f := r
    rw [r] at e1
    cases e1
    rfl
  subst eu
  exact pe_callL F (hr.mono hk) hN hv kp b .nil hx ha hdb hcd he hpl
end
end J

namespace J
open PySem PySem.Spec L2 PyProof.Rows LamX NdefX
/-! ### lambdas with parameters, that capture nothing -/
abbrev LamW := Arguments × Expr × Scope
def mkL (q : Str) (L : LamW) (c : Addr) : NF := ⟨"<lambda>", q, L.1, [], L.2.2, [], c⟩
/-- the object at f is the lambda L -/
def LamO (f : Addr) (q : Str) (L : LamW) (c : Addr) : HO := .ext fun h => ∃ (od : Option Addr) (sl : Array (Option Value)) (pm ctv : Value), h.get? f = some (⟨.type "function", od, .func (PySem.W.kla_fn "<lambda>" q L.1 L.2.1 L.2.2 [] pm (.ref c) ctv), sl⟩ : Obj)
theorem lamO_at {P : Program} {w : World} {H : Hp} {h : Heap} {f c : Addr} {q : Str} {L : LamW} (hok : HOk P w H h) (e : H f = some (LamO f q L c)) :
    ∃ (od : Option Addr) (sl : Array (Option Value)) (pm ctv : Value), h.get? f = some (⟨.type "function", od, .func (PySem.W.kla_fn "<lambda>" q L.1 L.2.1 L.2.2 [] pm (.ref c) ctv), sl⟩ : Obj) := by
  obtain ⟨z, _, _⟩ := hok f _ e
  exact z
theorem lamO_ne {f c : Addr} {q : Str} {L : LamW} (ps : Array Value) : LamO f q L c ≠ .tbl ps := fun z => by
  unfold LamO at z
  cases z
theorem lamO_nt {f c : Addr} {q : Str} {L : LamW} (vs : List V) : LamO f q L c ≠ .tup vs := fun z => by
  unfold LamO at z
  cases z
theorem codeO_nt {c : Addr} {q : Str} (vs : List V) : CodeO c q ≠ .tup vs := fun z => by
  unfold CodeO at z
  cases z
/-- what the making of a lambda does to the heap: a code object (new, or known), a function, a table that grows -/
structure LamStep (T : List (Addr × Str)) (P : Addr) (q : Str) (L : LamW) (H H1 : Hp) (f c : Addr) : Prop where
  t0 : Tabs T H
  tab : Tabs T H1
  rest : ∀ x, x ≠ P → x ≠ c → x ≠ f → H1 x = H x
  p1 : ∃ ps, H1 P = some (.tbl ps)
  hf : H f = none
  f1 : H1 f = some (LamO f q L c)
  hc : H c = none ∨ H c = some (CodeO c q)
  c1 : H1 c = some (CodeO c q)
  nfc : f ≠ c
section
variable {X : Cx} {pins : List (Addr × Obj)} {σ : L2.St} {H : Hp} {s : Shared}
theorem inv_lm {q : Str} {L : LamW} {c : Addr} {o : Obj} {t' : Nat} {pm ctv : Value} (I : Inv X pins σ H s) (ho : o = PySem.W.kla_obj "<lambda>" q L.1 L.2.1 L.2.2 [] pm c ctv) :
    Inv X pins σ (upd H s.heap.objs.size (LamO s.heap.objs.size q L c)) { s with heap := s.heap.push o, toks := t' } := by
  subst ho
  refine I.laid (a := s.heap.objs.size) (fun b u e => Heap.get?_push_of_some _ e) (Nat.le_refl _) ?_
  have e : (s.heap.push (PySem.W.kla_obj "<lambda>" q L.1 L.2.1 L.2.2 [] pm c ctv)).get? s.heap.objs.size = some (PySem.W.kla_obj "<lambda>" q L.1 L.2.1 L.2.2 [] pm c ctv) := Heap.get?_push_size _ rfl
  exact ⟨⟨_, _, pm, ctv, e⟩, ⟨_, e⟩, fun h1 h2 ⟨od, sl, p, t, z⟩ st => ⟨od, sl, p, t, st _ z⟩⟩
theorem lamJ_make {T : List (Addr × Str)} {c P : Addr} {q : Str} {params : Arguments} {body : Expr} {scope : Scope} {pos : Pos} {E : Value → Shared → Prop} {Q : Value → Shared → Prop} (I : Inv X pins σ H s) (TB : TabB X.base X.mg c P) (hcode : X.env.code = .ref c)
    (hq : X.env.qual ++ "<lambda>" = q) (hm : (P, q) ∈ T) (hu : ∀ p ∈ T, p.1 = P → p.2 = q) (hT : Tabs T H) (hdef : defaultsOf params X.env = ([], [])) (hfree : ∀ y ∈ scope.names, y.2 = .free → ∃ c, X.env.cells.lookup y.1 = some c) (hcl : cloFrom X.env.cells scope.names [] = [])
    (h : ∀ (f c' : Addr) (H1 : Hp) (s' : Shared), Inv X pins σ H1 s' → LamStep T P q (params, body, scope) H H1 f c' → Q (.ref f) s') :
    wpAny (model X.prog X.w) X.A (eval (.Lambda params body scope pos) X.env) Q E s := by
  subst hq
  obtain ⟨ps, hP, ht, ha⟩ := (show TabS H P _ from hT _ hm)
  refine PySem.W.kla_eval hdef ?_
  have bP : s.heap.BuiltinsAt X.mg P := TB.bm.keeps I.bk
  have hP' : s.heap.get? P = some { cls := .none, data := .fields ps } := I.hok P _ hP
  have clo := closure_ok hfree
  rw [hcl] at clo
  cases hc : codeAmong pos ps.toList with
  | none =>
    refine PySem.W.kla_makeFunction (mg := X.mg) (c := c) (P := P) (ps := ps) clo I.ok.glob (I.mod.glob.keeps I.bk) hcode (TB.code.keeps I.bk) hP' ht hc TB.gP bP fun c' ctv h' tk hx hge hlt hrec htb => ?_
    obtain ⟨c2, oc, vs, t, e2, hoc, hd, hv⟩ := hrec
    cases e2
    have nC : H c' = none := I.hok.fresh hge
    have I1 := inv_table (t' := tk) (more := #[rawInt pos.line, rawInt pos.col, .ref c']) (h' := h') I hP (fun b o hb e => hx b o hb e) htb hge ⟨oc, vs, t, hoc, hd, hv⟩
    have hE : ExtN H (upd (upd H P (.tbl (ps ++ #[rawInt pos.line, rawInt pos.col, .ref c']))) c' (CodeO c' (X.env.qual ++ "<lambda>"))) := fun b o e n => by
      rw [upd_ne (ne_of_none e nC), upd_ne (fun z => n ps (Option.some.inj (e.symm.trans (by rw [z]; exact hP))))]
      exact e
    have eL : (ps ++ #[rawInt pos.line, rawInt pos.col, .ref c']).toList = ps.toList ++ [rawInt pos.line, rawInt pos.col, .ref c'] := by simp
    have T1 : Tabs T (upd (upd H P (.tbl (ps ++ #[rawInt pos.line, rawInt pos.col, .ref c']))) c' (CodeO c' (X.env.qual ++ "<lambda>"))) := fun p hp => by
      by_cases hb : p.1 = P
      · rw [hu p hp hb, hb]
        refine ⟨_, by rw [upd_ne (ne_of_none hP nC), upd_same], by rw [eL]; exact PySem.TriplesOk_snoc _ _ _ _ ht, fun p' cv hcv => ?_⟩
        rw [eL] at hcv
        rcases among_app _ ht hcv with z | z
        · obtain ⟨c0, e1, e2⟩ := ha p' cv z
          exact ⟨c0, e1, hE _ _ e2 codeO_ne⟩
        · exact ⟨c', z, upd_same⟩
      · obtain ⟨ps', a1, a2, a3⟩ := hT p hp
        refine ⟨ps', by rw [upd_ne (ne_of_none a1 nC), upd_ne hb]; exact a1, a2, fun p' cv hcv => ?_⟩
        obtain ⟨c0, e1, e2⟩ := a3 p' cv hcv
        exact ⟨c0, e1, hE _ _ e2 codeO_ne⟩
    have nF := I1.hok.fresh (Nat.le_refl _)
    have I2 := inv_lm (q := X.env.qual ++ "<lambda>") (L := (params, body, scope)) (c := c') (t' := tk) (pm := (X.mg "__name__").getD .none) (ctv := ctv) I1 rfl
    refine h h'.objs.size c' _ _ I2 ⟨hT, T1.ext fun b o e => (upd_ne (ne_of_none e nF)).trans e, fun x h1 h2 h3 => ?_, ⟨ps ++ #[rawInt pos.line, rawInt pos.col, .ref c'], ?_⟩, I.hok.fresh (Nat.le_trans hge (Nat.le_of_lt hlt)), upd_same, .inl nC, ?_, ?_⟩
    · rw [upd_ne h3, upd_ne h2, upd_ne h1]
    · have hPF : P ≠ h'.objs.size := Nat.ne_of_lt (Nat.lt_of_lt_of_le (Heap.lt_size hP') (Nat.le_trans hge (Nat.le_of_lt hlt)))
      rw [upd_ne hPF, upd_ne (ne_of_none hP nC)]
      exact upd_same
    · exact (upd_ne (Nat.ne_of_lt hlt)).trans upd_same
    · exact Nat.ne_of_gt hlt
  | some cv =>
    obtain ⟨c', e, hco⟩ := ha pos cv hc
    subst e
    refine PySem.W.kla_makeFunctionHit (mg := X.mg) (c := c) (P := P) (ps := ps) clo I.ok.glob (I.mod.glob.keeps I.bk) hcode (TB.code.keeps I.bk) hP' ht hc bP fun ctv h' tk hx hsz => ?_
    have I1 : Inv X pins σ H { s with heap := h', toks := tk } := I.kept hx
    have nF : H h'.objs.size = none := I1.hok.fresh (Nat.le_refl _)
    have I2 := inv_lm (q := X.env.qual ++ "<lambda>") (L := (params, body, scope)) (c := c') (t' := tk) (pm := (X.mg "__name__").getD .none) (ctv := ctv) I1 rfl
    refine h h'.objs.size c' _ _ I2 ⟨hT, hT.ext fun b o e => (upd_ne (ne_of_none e nF)).trans e, fun x h1 h2 h3 => upd_ne h3, ⟨_, (upd_ne (ne_of_none hP nF)).trans hP⟩, nF, upd_same, .inr hco, (upd_ne (ne_of_none hco nF)).trans hco, fun z => ne_of_none hco nF z.symm⟩
end
/-- a lambda -/
def tLamJ (T : List (Addr × Str)) (P : Addr) (q : Str) (L : LamW) : TE := fun σ H Q => Tabs T H ∧ ∀ (f c : Addr) (H1 : Hp), LamStep T P q L H H1 f c → Q (.ref f) H1
theorem pe_lamJ {X : Cx} {T : List (Addr × Str)} {c P : Addr} {q : Str} {params : Arguments} {body : Expr} {scope : Scope} {pos : Pos} (TB : TabB X.base X.mg c P) (hcode : X.env.code = .ref c) (hq : X.env.qual ++ "<lambda>" = q) (hm : (P, q) ∈ T) (hu : ∀ p ∈ T, p.1 = P → p.2 = q)
    (hdef : defaultsOf params X.env = ([], [])) (hfree : (scope.names.all fun y => !decide (y.2 = .free)) = true) (hcl : cloFrom X.env.cells scope.names [] = []) : PE X (.Lambda params body scope pos) (tLamJ T P q (params, body, scope)) :=
  ⟨fun pins s σ H Q I ⟨hT, h⟩ => lamJ_make I TB hcode hq hm hu hT hdef (fun y hy e => by
    have z := List.all_eq_true.mp hfree y hy
    rw [decide_eq_true e] at z
    cases z) hcl fun f c' H1 s' I1 st => ⟨.ref f, H1, I1, rfl, h f c' H1 st⟩⟩

/-! ### what a lambda promises -/
structure LOk (P : Program) (w : World) (K : PySem.W.Frag) (mg : Str → Option Value) (base : Heap) (CX : CXT) (k : Nat) (q : Str) (L : LamW) (ps : List Str) (sp : Sp) : Prop where
  len : ∀ vs H Q E, sp vs H Q E → vs.length = ps.length
  run : ∀ (f c : Addr) (A : Around) (outer : List Env) (s : Shared) (H : Hp) (us : List Value) (vs : List V) (Q : VK) (E : XK), Room k A → Env0 P w K mg base A outer s H → H f = some (LamO f q L c) → H c = some (CodeO c q) →
    Vals vs us → sp vs H Q E → codeAny (model P w) A (.call (.ref f) ⟨us, []⟩) (CR CX outer P w H s Q E) s
section
variable {CX : CXT} {P : Program} {w : World} {K : PySem.W.Frag} {mg : Str → Option Value} {base : Heap} {N ps : List Str} {q : Str} {L : LamW} {k j : Nat} {sp : Sp} {R : Rel}
theorem lok_of (S : NScope N ps [] L.2.2) (hb : ∀ (c : Addr) (pm ctv : Value) (us : List Value), us.length = ps.length → bindArgs (PySem.W.kla_fn "<lambda>" q L.1 L.2.1 L.2.2 [] pm (.ref c) ctv) ⟨us, []⟩ = pure (ps.zip us)) (len : ∀ vs H Q E, sp vs H Q E → vs.length = ps.length)
    (hbody : ∀ (f c : Addr) (A : Around) (outer : List Env) (s : Shared) (H : Hp) (vs : List V) (Q : VK) (E : XK), Room k (A.deeper (envF (mkL q L c) f s.heap.objs.size)) → sp vs H Q E →
      ∃ t : TE, PE (ncx CX P w K mg base N (mkL q L c) f A outer s H E) L.2.1 t ∧ t (L2.start N vs) H Q) : LOk P w K mg base CX (k + 1) q L ps sp := by
  refine ⟨len, fun f c A outer s H us vs Q E hr e0 hf hc r hsp => ?_⟩
  have hl := len _ _ _ _ hsp
  have lim : s.heap.NoLimit := e0.mod.nolimit.keeps fun b o e => (e0.bs b o e).1
  obtain ⟨od, sl, pm, ctv, ho⟩ := lamO_at e0.hok hf
  refine PySem.W.kla_callFunE hr.depth ho rfl S.co S.gen rfl (codeO_at e0.hok hc) ?_
  rw [hb c pm ctv us (by rw [← r.length]; exact hl)]
  refine wpAny_pure (wpAny_newFunctionEnv S.nocell (fun ⟨n, _⟩ hy => S.par n (List.of_mem_zip hy).1) (fun h₁ hns hsb => ⟨lim.fresh _ hsb, ?_⟩) S.kind)
  show codeAny _ _ (.expr L.2.1 (envF (mkL q L c) f s.heap.objs.size)) _ _
  have kp : ∀ b o, s.heap.get? b = some o → h₁.get? b = some o := fun b o e => hsb.extBut b o (Nat.ne_of_lt (Heap.lt_size e)) (Heap.get?_push_of_some _ e)
  obtain ⟨t, ht, hq⟩ := hbody f c A outer s H vs Q E (hr.deeper _) hsp
  have C0 : CellsAt (mkL q L c).cl [] [] s.heap H := ⟨rfl, fun y c e => (by cases e), fun x y c e _ => (by cases e), fun i y e => (by simp at e)⟩
  have I : Inv (ncx CX P w K mg base N (mkL q L c) f A outer s H E) [] (startF N vs []) H { s with heap := h₁, toks := s.toks + (ps.zip us).length } := inv_startN S hr.hd e0 hl r C0 hns kp
  refine PySem.W.kla_codeExpr (wpAny_mono (ht.run [] _ (startF N vs []) H Q I hq) (fun v s' hs => ?_) fun e s' hs => hs)
  obtain ⟨v', H', J', rv, q'⟩ := hs
  exact ⟨v', H', J'.os, J'.bare, J'.base, J'.hok, rv, q'⟩
theorem lok_ok (S : NScope N ps [] L.2.2) (hb : ∀ (c : Addr) (pm ctv : Value) (us : List Value), us.length = ps.length → bindArgs (PySem.W.kla_fn "<lambda>" q L.1 L.2.1 L.2.2 [] pm (.ref c) ctv) ⟨us, []⟩ = pure (ps.zip us)) (len : ∀ es r, R es r → es.length = ps.length)
    (hbody : ∀ (f c : Addr) (A : Around) (outer : List Env) (s : Shared) (H : Hp) (E : XK), Room k (A.deeper (envF (mkL q L c) f s.heap.objs.size)) →
      ∃ t : TE, PE (ncx CX P w K mg base N (mkL q L c) f A outer s H E) L.2.1 t ∧
        ∀ (es : List Ent) (r : Res) (F : Hp) (σ : L2.St) (Q : VK), R es r → St F H F H σ (es ++ List.replicate (N.length - es.length) .un) → r.post F H Q E → t σ H Q) : LOk P w K mg base CX (k + 1) q L ps (SpOf R) := by
  refine lok_of S hb (fun vs H Q E ⟨F, es, r, _, _, ha, hR, _⟩ => ha.length.trans (len es r hR)) (fun f c A outer s H vs Q E hr ⟨F, es, r, sm, tt, ha, hR, kk⟩ => ?_)
  obtain ⟨t, ht, hq⟩ := hbody f c A outer s H E hr
  refine ⟨t, ht, hq es r F _ Q hR ?_ kk⟩
  have e := ha.length
  unfold L2.start
  rw [e]
  exact args_start sm tt ha
end
/-! ### the lambda in a slot, called there -/
def lamS (q : Str) (L : LamW) : Slot := ⟨fun F v => ∃ f c, v = .ref f ∧ F f = some (LamO f q L c) ∧ F c = some (CodeO c q), fun s ⟨f, c, e, h1, h2⟩ => ⟨f, c, e, s f _ h1, s c _ h2⟩⟩
def tCallLm (i : Nat) (q : Str) (L : LamW) (sp : Sp) (E : XK) (t : TA) : TE := fun σ H Q => ∃ f c, σ[i]? = some (some (.ref f)) ∧ H f = some (LamO f q L c) ∧
  t σ H fun vs H1 => H1 f = some (LamO f q L c) ∧ H1 c = some (CodeO c q) ∧ sp vs H1 Q E
section
variable {X : Cx} {CX : CXT} {q : Str} {L : LamW} {ps : List Str} {i j k : Nat} {x : Str} {sp : Sp} {E : XK} {t : TA} {e : Expr} {es : List Expr} {p pos : Pos}
theorem lamAt_of {pins : List (Addr × Obj)} {σ : L2.St} {H : Hp} {s : Shared} {f c : Addr} (I : Inv X pins σ H s) (e : H f = some (LamO f q L c)) : PySem.W.FnAt f s.heap := by
  obtain ⟨od, sl, pm, ctv, ho⟩ := lamO_at I.hok e
  exact ⟨_, od, _, sl, ho⟩
theorem pe_callLm (Fn : LOk X.prog X.w X.K X.mg X.base CX k q L ps sp) (hr : Room j X.A) (hk : k ≤ j) (hx : Passes CX X E) (hN : X.N[i]? = some x) (hv : Vis X.env.scope x) (ha : PA X (e :: es) t)
    (hd : (x == ("__debug__" : Str)) = false := by decide) (hcd : (x == ("__classdict__" : Str)) = false := by decide)
    (he : starEach (e :: es) X.env = (false, eval e X.env) :: starEach es X.env := by rfl) (hpl : (backTo pos (starEach es X.env)).any (·.1) = false := by rfl) :
    PE X (.Call (.Name x p) (e :: es) [] pos) (tCallLm i q L sp E t) := by
  refine ⟨fun pins s σ H Q I h => ?_⟩
  obtain ⟨f, c, hs, hf, ht⟩ := h
  refine wpAny_Call_Name_kw (thn ((pe_var (pos := p) hN hv hd hcd).run pins s σ H (fun v H1 => v = .ref f ∧ H1 = H) I ⟨.ref f, hs, rfl, rfl⟩) fun u s1 ⟨v, H1, I1, r1, q1⟩ => ?_)
  obtain ⟨ev, eH⟩ := q1
  subst ev
  rw [eH] at I1
  obtain rfl : u = Value.ref f := r1
  refine PySem.W.callWith_F (first := []) (lamAt_of I1 hf) (thn (ha.run pos pins s1 σ H _ I1 ht) fun us s2 ⟨vs, H2, I2, r, h1, h2, q2⟩ => ⟨lamAt_of I2 h1, ?_⟩) he hpl
  show wpAny _ _ (call (.ref f) us) _ _ _
  refine wpAny_call (codeAny_mono (Fn.run f c X.A X.stack s2 H2 us vs Q E (hr.mono hk) I2.env0 h1 h2 r q2) fun r s' hq => ?_)
  cases r with
  | error e => exact hx pins σ H2 s2 e s' I2 hq
  | ok fl =>
    cases fl with
    | ret u => exact I2.after hq
    | next => exact False.elim hq
    | brk => exact False.elim hq
    | cont => exact False.elim hq
end
theorem ex_callLm {i : Nat} {q : Str} {L : LamW} {R : Rel} {E : XK} {ta : TA} {δ es : List Ent} {c : Addr} (hi : δ[i]? = some (.v (lamS q L))) (h : EvAs ta δ es) (hR : R es (.x c)) : EvX (tCallLm i q L (SpOf R) E ta) δ E c := fun F0 H0 F H σ s qq Q => by
  obtain ⟨v, e, f, c', rfl, h1, h2⟩ := s.at_ i _ hi
  exact ⟨f, c', e, s.fh _ _ h1, h F0 H0 F H σ s _ fun vs F1 H1 g1 a1 => ⟨g1.fh _ _ (g1.ff _ _ h1), g1.fh _ _ (g1.ff _ _ h2), F1, es, .x c, g1.fh, (s.grow g1).tt, a1, hR, post_x fun F' H' g => qq F' H' (g1.trans g)⟩⟩

/-! ### the store across the making of a lambda -/
def FrzL : List Ent → Prop
  | [] => True
  | .v _ :: l => FrzL l
  | .un :: l => FrzL l
  | _ => False
theorem FrzL.get : ∀ {δ : List Ent} {i : Nat} {e : Ent}, FrzL δ → δ[i]? = some e → e = .un ∨ ∃ S, e = .v S
  | .v S :: l, 0, e, h, he => .inr ⟨S, by simpa using he.symm⟩
  | .un :: l, 0, e, h, he => .inl (by simpa using he.symm)
  | .v S :: l, i + 1, e, h, he => FrzL.get (δ := l) (i := i) h (by simpa using he)
  | .un :: l, i + 1, e, h, he => FrzL.get (δ := l) (i := i) h (by simpa using he)
  | [], _, _, _, he => by simp at he
  | .ow _ :: _, _, _, h, _ => h.elim
  | .bo _ :: _, _, _, h, _ => h.elim
  | .ni _ _ :: _, _, _, h, _ => h.elim
section
variable {F0 H0 F H F1 H1 : Hp} {σ : L2.St} {δ : List Ent}
theorem St.anew (s : St F0 H0 F H σ δ) (fz : FrzL δ) (ff : Same F F1) (fh : Same F1 H1) (tt : TupIn F1 H1) : St F1 H1 F1 H1 σ δ where
  g := Grow.refl fh
  len := s.len
  at_ := fun i S h => let ⟨v, e, p⟩ := s.at_ i S h; ⟨v, e, S.mono ff p⟩
  ow := fun i o h => by rcases fz.get h with z | ⟨_, z⟩ <;> cases z
  bo := fun i o h => by rcases fz.get h with z | ⟨_, z⟩ <;> cases z
  sep := fun i j o o' p _ h _ _ _ => by rcases fz.get h with z | ⟨_, z⟩ <;> cases z
  tt := tt
  ni := fun i C fs h => by rcases fz.get h with z | ⟨_, z⟩ <;> cases z
  sepn := fun i j o a C fs h _ _ _ => by rcases fz.get h with z | ⟨_, z⟩ <;> cases z
/-- the frozen part grows by the lambda and its code -/
theorem LamStep.frz {T : List (Addr × Str)} {P : Addr} {q : Str} {L : LamW} {f c : Addr} (st : LamStep T P q L H H1 f c) (hm : ∃ q', (P, q') ∈ T) (fh : Same F H) (tt : TupIn F H) (nf : ∀ p ∈ T, F p.1 = none) :
    ∃ F1, Same F F1 ∧ Same F1 H1 ∧ TupIn F1 H1 ∧ (∀ p ∈ T, F1 p.1 = none) ∧ (lamS q L).P F1 (.ref f) := by
  have tbl : ∀ p ∈ T, ∃ ps, H p.1 = some (.tbl ps) := fun p hp => let ⟨ps, h, _⟩ := st.t0 p hp; ⟨ps, h⟩
  obtain ⟨q', hm⟩ := hm
  obtain ⟨ps, hP⟩ := tbl _ hm
  have hP : H P = some (.tbl ps) := hP
  have nPf : ∀ p ∈ T, p.1 ≠ f := fun p hp z => by
    obtain ⟨ps, h⟩ := tbl p hp
    rw [z, st.hf] at h
    cases h
  have nPc : ∀ p ∈ T, p.1 ≠ c := fun p hp z => by
    obtain ⟨ps, h⟩ := tbl p hp
    rw [z] at h
    rcases st.hc with e | e
    · rw [e] at h; cases h
    · rw [e] at h; exact codeO_ne _ (Option.some.inj h)
  have nfc := st.nfc
  have sF : Same F (upd (upd F c (CodeO c q)) f (LamO f q L c)) := fun b o e => by
    have hb : b ≠ f := ne_of_none (fh b o e) st.hf
    rw [upd_ne hb]
    by_cases hc : b = c
    · subst hc
      have h1 := fh b o e
      rcases st.hc with e2 | e2
      · rw [e2] at h1; cases h1
      · rw [e2] at h1
        rw [upd_same]
        exact h1
    · rw [upd_ne hc]
      exact e
  have sH : Same (upd (upd F c (CodeO c q)) f (LamO f q L c)) H1 := fun b o e => by
    by_cases hb : b = f
    · subst hb
      rw [upd_same] at e
      rw [← e]
      exact st.f1
    · rw [upd_ne hb] at e
      by_cases hc : b = c
      · subst hc
        rw [upd_same] at e
        rw [← e]
        exact st.c1
      · rw [upd_ne hc] at e
        have nP : b ≠ P := fun z => by
          rw [z, nf _ hm] at e
          cases e
        rw [st.rest b nP hc hb]
        exact fh b o e
  refine ⟨_, sF, sH, fun a vs e => ?_, fun p hp => ?_, f, c, rfl, upd_same, ?_⟩
  · have hb : a ≠ f := fun z => by
      rw [z, st.f1] at e
      exact lamO_nt vs (Option.some.inj e)
    have hc : a ≠ c := fun z => by
      rw [z, st.c1] at e
      exact codeO_nt vs (Option.some.inj e)
    have nP : a ≠ P := fun z => by
      obtain ⟨ps, h⟩ := st.p1
      rw [z, h] at e
      cases e
    rw [st.rest a nP hc hb] at e
    exact sF _ _ (tt a vs e)
  · rw [upd_ne (nPf p hp), upd_ne (nPc p hp)]
    exact nf p hp
  · rw [upd_ne (fun z => nfc z.symm)]
    exact upd_same
end
end J

namespace J
open PySem PySem.Spec L2 PyProof.Rows LamX NdefX
section
variable {T : List (Addr × Str)} {P : Addr} {q : Str} {L : LamW} {R : Rel} {r : R2} {o : Own} {e2 : Ent} {bb : Bool} {tr ta' : TA} {td ta : TE} {es : List Ent} {E : XK} {K : PySem.W.Frag} {F0 H0 F H : Hp} {σ : L2.St} {δ : List Ent} {j : Nat} {tz tret : TS} {D : Ends} {ss : List Slot}
theorem tabs_ext {H1 : Hp} (tb : Tabs T H) (s : Same H H1) : Tabs T H1 := tb.ext fun b o e => s b o e
theorem nf_grow {F' H' : Hp} (tb : Tabs T H) (nf : ∀ p ∈ T, F p.1 = none) (g : Grow F H F' H') : ∀ p ∈ T, F' p.1 = none := fun p hp => g.nw _ (by obtain ⟨ps, h, _⟩ := tb p hp; rw [h]; simp) (nf p hp)
/-- f(lambda, ..) <op> d -/
theorem w_lam (s : St F0 H0 F H σ δ) (fz : FrzL δ) (tb : Tabs T H0) (nf : ∀ p ∈ T, F0 p.1 = none) (hm : (P, q) ∈ T)
    (ha : EvAs tr δ es) (hR : R (.v (lamS q L) :: es) (.o o)) (hd : EvE td δ e2) (ho : OpE r (.bo o) e2 (.v (bS bb))) (Q : VK)
    (k : ∀ F' H', Same F F' → St F' H' F' H' σ δ → Tabs T H' → (∀ p ∈ T, F' p.1 = none) → Q (.bl bb) H') :
    tOp r (tCall (SpOf R) [] E (tCons (tLamJ T P q L) tr)) td σ H Q := by
  have tbH : Tabs T H := tabs_ext tb s.g.hh
  have nfF : ∀ p ∈ T, F p.1 = none := nf_grow tb nf s.g
  refine ⟨tbH, fun f c H1 st => ?_⟩
  obtain ⟨F1, ff, fh, tt, nf1, hl⟩ := st.frz ⟨q, hm⟩ s.fh s.tt nfF
  have s1 := s.anew fz ff fh tt
  refine ha F1 H1 F1 H1 σ s1 _ fun vs F2 H2 g2 a2 => ?_
  have s2 := s1.grow g2
  refine ⟨F2, .v (lamS q L) :: es, .o o, g2.fh, s2.tt, pair_app (.cons ((lamS q L).mono g2.ff hl) a2), hR, post_o fun p ho' F3 H3 g3 hn hf hp z => ?_⟩
  have s3 := s2.grow g3
  refine hd F1 H1 F3 H3 σ s3 _ fun y F4 H4 g4 a4 => ?_
  refine ho F4 H4 (.ref p) y g4.fh ⟨p, ho', rfl, g4.hh p _ hp, o.mono g4.ff z⟩ a4 _ fun v F5 H5 g5 a5 => ?_
  cases a5
  have s5 := (s3.grow g4).grow g5
  exact k F5 H5 (ff.trans s5.g.ff) (s5.anew fz (Same.refl _) s5.fh s5.tt) (tabs_ext st.tab s5.g.hh) (nf_grow st.tab nf1 s5.g)
/-- for x in [..]: if f(lambda, ..) <op> d: return; the test is never so -/
theorem q_forLam (s : St F0 H0 F H σ δ) (fz : FrzL δ) (tb : Tabs T H0) (nf : ∀ p ∈ T, F0 p.1 = none) (hm : (P, q) ∈ T) (h : EvE ta δ (.v (lstS ss))) (hne : 0 < ss.length) (fzs : ∀ S, FrzL (δ.set j (.v S)))
    (hstep : ∀ (n : Nat) (S : Slot), ss[n]? = some S → ∃ es o e2, EvAs tr (δ.set j (.v S)) es ∧ R (.v (lamS q L) :: es) (.o o) ∧ EvE td (δ.set j (.v S)) e2 ∧ OpE r (.bo o) e2 (.v (bS false)))
    (hd : ∀ S F' H' σ', Same F F' → St F' H' F' H' σ' (δ.set j (.v S)) → Tabs T H' → (∀ p ∈ T, F' p.1 = none) → tz D σ' H') :
    tSeq (tFor (iAny K ta) (gName j) (tSeq (tIfS (tTest (tOp r (tCall (SpOf R) [] E (tCons (tLamJ T P q L) tr)) td)) tret tNext) tNext)) tz D σ H := by
  refine .inl (h F0 H0 F H σ s _ fun v F1 H1 g1 a1 => ?_)
  obtain ⟨p, ho, rfl, hp, vs, rfl, pv⟩ := a1
  have s1 := s.grow g1
  have tb1 : Tabs T H1 := tabs_ext tb s1.g.hh
  have nf1 : ∀ p ∈ T, F1 p.1 = none := nf_grow tb nf s1.g
  have s1' : St F1 H1 F1 H1 σ δ := s1.anew fz (Same.refl _) s1.fh s1.tt
  refine ⟨p, rfl, ⟨vs, SqL.of (g1.fh p _ hp)⟩, for_list (D := { D with nx := tz D }) (xs := vs)
    (fun n σ' H' => ∃ F' δ', Same F1 F' ∧ St F' H' F' H' σ' δ' ∧ Tabs T H' ∧ (∀ p ∈ T, F' p.1 = none) ∧ (n = 0 ∧ δ' = δ ∨ ∃ S, δ' = δ.set j (.v S))) ⟨F1, δ, Same.refl _, s1', tb1, nf1, .inl ⟨rfl, rfl⟩⟩ ?_ ?_ ?_⟩
  · rintro n σ' H' _ ⟨F', δ', ff, s', _⟩
    exact SqL.of (s'.fh p _ (ff p _ hp))
  · rintro n x σ' H' hx ⟨F', δ', ff, s', tb', nf', hI⟩
    obtain ⟨S, hS, px⟩ : ∃ T, ss[n]? = some T ∧ T.P F' x := by
      have hn : n < vs.length := (List.getElem?_eq_some_iff.mp hx).1
      rw [pv.length] at hn
      obtain ⟨w, hw, q⟩ := PairS.get (PairS.mono ff pv) (List.getElem?_eq_getElem hn)
      rw [hx] at hw
      cases hw
      exact ⟨_, List.getElem?_eq_getElem hn, q⟩
    have s2 := s'.set_v (i := j) px
    have e : δ'.set j (.v S) = δ.set j (.v S) := by
      rcases hI with ⟨_, rfl⟩ | ⟨S', rfl⟩
      · rfl
      · exact List.set_set ..
    rw [e] at s2
    obtain ⟨es, o, e2, h1, h2, h3, h4⟩ := hstep n S hS
    refine w_lam s2 (fzs S) tb' nf' hm h1 h2 h3 h4 _ fun F5 H5 ff5 s5 tb5 nf5 => ⟨false, rfl, ?_⟩
    exact ⟨F5, _, ff.trans ff5, s5, tb5, nf5, .inr ⟨S, rfl⟩⟩
  · rintro σ' H' ⟨F', δ', ff, s', tb', nf', hI⟩
    rcases hI with ⟨h0, rfl⟩ | ⟨S, rfl⟩
    · have z : vs.length = 0 := h0
      rw [pv.length] at z
      omega
    · exact hd S F' H' σ' (g1.ff.trans ff) s' tb' nf'
end

/-! ### a def whose code object is known; the ending -/
section
variable {P : Program} {w : World} {K : PySem.W.Frag} {mg : Str → Option Value} {base : Heap} {CX : CXT}
theorem okAnyC {x qual : Str} {st : Stmt} {f c : Addr} {fd : FuncData} {N ps : List Str} {k : Nat} {sp : Sp} (F : Fun K x qual st f fd) (hc : fd.code = .ref c) (S : FnScope N ps (defScope st)) (len : ∀ vs H Q E, sp vs H Q E → vs.length = ps.length)
    (body : ∀ (A : Around) (outer : List Env) (s : Shared) (H : Hp) (vs : List V) (Q : VK) (E : XK), Room k (A.deeper (envOfC qual (defScope st) s.heap.objs.size f (.ref c))) → sp vs H Q E →
      ∃ t, PSs (cxOf CX P w K mg base N qual (defScope st) f (.ref c) A outer s H E) (defBody st) t ∧ t { nx := fun _ H' => Q .non H', rt := Q } (L2.start N vs) H) :
    FnOk P w K mg base CX (k + 1) f fd ps sp := by
  rcases F.ex with ⟨_, _, _, _, _, _, cdv, _, _, rfl, at_, code_⟩
  have hc : cdv = .ref c := hc
  subst hc
  exact fn_of at_ code_ S len (fun A outer s H vs Q E room hsp => body A outer s H vs Q E room hsp)
end
/-- the frozen part at the law's start: all but the tables -/
def noTab (T : List (Addr × Str)) (H : Hp) : Hp := fun a => if a ∈ T.map (·.1) then none else H a
theorem noTab_in {T : List (Addr × Str)} {H : Hp} {a : Addr} (h : a ∈ T.map (·.1)) : noTab T H a = none := if_pos h
theorem noTab_out {T : List (Addr × Str)} {H : Hp} {a : Addr} (h : a ∉ T.map (·.1)) : noTab T H a = H a := if_neg h
theorem noTab_same {T : List (Addr × Str)} {H : Hp} : Same (noTab T H) H := fun b o e => by
  by_cases h : b ∈ T.map (·.1)
  · rw [noTab_in h] at e
    cases e
  · rw [noTab_out h] at e
    exact e
theorem noTab_nf {T : List (Addr × Str)} {H : Hp} : ∀ p ∈ T, noTab T H p.1 = none := fun p hp => noTab_in (List.mem_map.mpr ⟨p, hp, rfl⟩)
theorem noTab_tt {T : List (Addr × Str)} {H : Hp} (tb : Tabs T H) : TupIn (noTab T H) H := fun a vs e => by
  by_cases h : a ∈ T.map (·.1)
  · obtain ⟨p, hp, rfl⟩ := List.mem_map.mp h
    obtain ⟨ps, h1, _⟩ := tb p hp
    rw [h1] at e
    cases e
  · rw [noTab_out h]
    exact e
end J

namespace J
open PySem PySem.Spec L2 PyProof.Rows L2H
/-! ### defs called within an except suite, told the class of the exception -/
def spX (K : PySem.W.Frag) (R : Addr → Addr → Rel) (a : Addr) (cls : Value) (d : Option Addr) : Sp := fun vs H Q E => ∃ D : Addr, cls = .ref D ∧ d = none ∧ ExcC K D ∧ SpOf (R a D) vs H Q E
structure CalP (P : Program) (w : World) (K : PySem.W.Frag) (mg : Str → Option Value) (base : Heap) (k : Nat) (x : Str) (R : Addr → Addr → Rel) : Prop where
  ex : ∃ (f : Addr) (fd : FuncData) (ps : List Str), FnP P w K mg base (CXJ P w) k f fd ps (fun p => spX K R p.1 p.2.cls p.2.dict) ∧ mg x = some (.ref f) ∧ PySem.W.keepIn K (.ref f) = true ∧ Binds K fd ps []
section
variable {CX : CXT} {P : Program} {w : World} {K : PySem.W.Frag} {mg : Str → Option Value} {base : Heap} {k j : Nat} {f : Addr} {x qual : Str} {st : Stmt} {fd : FuncData} {N ps : List Str} {sp : Addr × Obj → Sp} {R : Addr → Addr → Rel}
theorem FnP.mono (F : FnP P w K mg base CX j f fd ps sp) (h : j ≤ k) : FnP P w K mg base CX k f fd ps sp := ⟨F.len, fun A outer s H args us vs Q E p hr => F.run A outer s H args us vs Q E p (hr.mono h)⟩
theorem fnp_ok (F : Fun K x qual st f fd) (S : FnScope N ps (defScope st)) (len : ∀ a D es r, R a D es r → es.length = ps.length)
    (hbody : ∀ (cdv : Value) (A : Around) (outer : List Env) (s : Shared) (H : Hp) (E : XK) (p : Addr × Obj) (D : Addr), Hot1 A p → p.2.cls = .ref D → p.2.dict = none → ExcC K D → RoomH k (A.deeper (envOfC qual (defScope st) s.heap.objs.size f cdv)) →
      ∃ t, PSs (cxH CX P w K mg base N qual (defScope st) f cdv A outer s H E p) (defBody st) t ∧
        ∀ (es : List Ent) (r : Res) (F : Hp) (σ : L2.St) (Q : VK), R p.1 D es r → St F H F H σ (es ++ List.replicate (N.length - es.length) .un) → r.post F H Q E → t { nx := fun _ H' => Q .non H', rt := Q } σ H) :
    FnP P w K mg base CX (k + 1) f fd ps (fun p => spX K R p.1 p.2.cls p.2.dict) := by
  refine fnp_of F S (fun p vs H Q E ⟨D, _, _, _, F, es, r, _, _, ha, hR, _⟩ => ha.length.trans (len _ _ es r hR)) (fun cdv A outer s H vs Q E p hot hr ⟨D, hc, hd, EC, F, es, r, sm, tt, ha, hR, kk⟩ => ?_)
  obtain ⟨t, ht, hq⟩ := hbody cdv A outer s H E p D hot hc hd EC hr
  refine ⟨t, ht, hq es r F _ Q hR ?_ kk⟩
  have e := ha.length
  unfold L2.start
  rw [e]
  exact args_start sm tt ha
end
section
variable {X : Cx} {k j : Nat} {x : Str} {pos q : Pos} {e : Expr} {es : List Expr} {t : TA} {p : Addr × Obj} {R : Addr → Addr → Rel} {E : XK}
theorem pe_cP (c : CalP X.prog X.w X.K X.mg X.base k x R) (hr : RoomH j X.A) (hk : k ≤ j) (hot : Hot1 X.A p) (hp : p ∈ X.pn) (hx : Passes (CXJ X.prog X.w) X E) (hg : Gl X x) (ha : PA X (e :: es) t)
    (hdb : (x == ("__debug__" : Str)) = false := by decide) (he : starEach (e :: es) X.env = (false, eval e X.env) :: starEach es X.env := by rfl) (hpl : (backTo pos (starEach es X.env)).any (·.1) = false := by rfl) :
    PE X (.Call (.Name x q) (e :: es) [] pos) (tCall (spX X.K R p.1 p.2.cls p.2.dict) [] E t) := by
  obtain ⟨f, fd, ps, F, hm, kp, b⟩ := c.ex
  exact pe_callP (F.mono hk) hr hot hp hg hm kp b hx ha hdb he hpl
end
section
variable {X : Cx} {x n : Str} {C : Addr} {i : Nat} {body suite : List Stmt} {b₀ : Stmt} {np pos pos' : Pos} {tb : WX → TS} {ts : Addr → Value → Option Addr → TS} {K : PySem.W.Frag}
theorem takesN0 : L2N.Takes X (fun _ _ _ _ => False) := fun u s' x => by
  obtain ⟨_, _, _, _, _, _, _, _, _, _, _, _, _, _, _, _, z⟩ := x
  exact z.elim
theorem ps_tN (hK : X.K = K) (hs : X.stack = X.env :: X.outer) (hf : X.env.frame = some X.env.locals) (hN : X.N.Nodup) (hi : X.N[i]? = some n) (hln : X.env.kindOf n = some .local) (gl : Gl X x) (hm : X.mg x = some (.ref C))
    (hb : ∀ (W : WX) (pn : List (Addr × Obj)) (xe : Value → Shared → Prop), L2N.Takes (X.tr pn xe) W → PSs (X.tr pn xe) body (tb W))
    (hsu : ∀ (a : Addr) (oe : Obj) (pn : List (Addr × Obj)), Hot1 (X.suite a ((a, oe) :: pn)).A (a, oe) → PSs (X.suite a ((a, oe) :: pn)) (b₀ :: suite) (ts a oe.cls oe.dict))
    (hdb : (x == ("__debug__" : Str)) = false := by decide) : PS X (.Try body [.ExceptHandler (some (.Name x np)) (some n) (b₀ :: suite) pos'] [] [] pos) (tTryA K C i ts tb) := by
  subst hK
  refine L2N.ps_try_as hs hf hN hi hln ⟨gl, hdb, .inl hm⟩ takesN0 (fun W pn xe tk _ => hb W pn xe tk) (fun a oe cls d pn z hd => ?_)
  obtain ⟨rfl, rfl, hx⟩ := z
  obtain ⟨vs, hd⟩ := hd
  exact hsu a oe pn ⟨rfl, vs, hd, hx vs hd⟩
end
end J
namespace J
open PySem PySem.Spec L2 PyProof.Rows LamX NdefX
section
variable {P : Program} {w : World} {K : PySem.W.Frag} {mg : Str → Option Value} {base : Heap} {N : List Str} {F : NF} {f : Addr} {A : Around} {outer : List Env} {s : Shared} {H : Hp} {E : XK}
theorem tk_ncx : L2N.Takes (ncx (CXJ P w) P w K mg base N F f A outer s H E) (fun c d _ H => E c d H) := L2N.takes_of rfl rfl rfl rfl
theorem px_ncx : Passes (CXJ P w) (ncx (CXJ P w) P w K mg base N F f A outer s H E) E := L2N.passes_call tk_ncx fun _ _ _ _ h => h
theorem ncx_K : (ncx (CXJ P w) P w K mg base N F f A outer s H E).K = K := rfl
theorem cxH_K {q : Str} {sc : Scope} {cd : Value} {p : Addr × Obj} : (L2H.cxH (CXJ P w) P w K mg base N q sc f cd A outer s H E p).K = K := rfl
end
theorem roomS {A : Around} {k : Nat} {h : Option Value} (r : Room k A) : L2H.RoomH k (A.mark h) := ⟨r.dp, r.un⟩
/-- the lambda of: for x in ..: if f(lambda .., ..) <op> ..: .. -/
def lamIn : Stmt → Option LamW
  | .For _ _ (.If (.Compare (.Call _ (.Lambda a b s _ :: _) _ _) _ _ _) _ _ _ :: _) _ _ => some (a, b, s)
  | _ => none
theorem dat_bl {K : PySem.W.Frag} {e : Ent} {bs : List Bool} (h : IsR e (lstO (bs.map bS))) : Dat K e (.list (bs.map .bool)) := (do_lst (n := 0) (da_map fun _ _ => ds_bl)).dat h (by decide)
theorem args_of_v {F H : Hp} : ∀ {vs : List V} {ss : List Slot}, PairS F vs ss → Paired (ArgOk F H) vs (ss.map .v)
  | _, [], .nil => .nil
  | _, _ :: _, .cons p t => .cons p (args_of_v t)
theorem start_v {F H : Hp} {N : List Str} {vs : List V} {ss : List Slot} (sm : Same F H) (tt : TupIn F H) (hv : PairS F vs ss) : St F H F H (L2.start N vs) (ss.map .v ++ List.replicate (N.length - ss.length) .un) := by
  have e := hv.length
  unfold L2.start
  rw [e]
  exact args_start sm tt (args_of_v hv)
end J

namespace J
open PySem PySem.Spec L2 PyProof.Rows LamX
/-- the table of the def of that name is empty -/
def TabAt (mg : Str → Option Value) (h : Heap) (x : Str) : Prop := ∃ (a : Addr) (o : Obj) (fd : FuncData) (c P : Addr), mg x = some (.ref a) ∧ h.get? a = some o ∧ o.data = .func fd ∧ fd.code = .ref c ∧ h.IsCode c P #[] ∧ h.TableAt c P #[]
/-- the end of a law whose own code and another def's make lambdas -/
theorem walk_tabs {l : PySem.W.OpenLaw} {n k : Nat} {q : Program} {loose : List Str} {XP : (Str → Option Value) → Heap → Prop} {K : Params → PySem.W.Frag} {as ts : List Addr} {e : ∀ P, as = (K P).map (·.1)} {d : DefRec} {CX : World → CXT} {x : Str} (f2 : Str)
    (hn : l.most = some n) (hn2 : n ≤ sizeLine) (hdf : d.params.defaults = []) (hr : Room k callerA) (h1 : ((recsOf q).any fun e => e.name == d.name) = true) (h2 : ((recsOf q).any fun e => e.name == f2) = true)
    (F : ∀ (w : World) (mg : Str → Option Value) (fa : Addr) (h : Heap), (K w.params).In h → h.Ns mainGlobals mg → mg d.name = some (.ref fa) → TabAt mg h d.name → TabAt mg h f2 → as = (K w.params).map (·.1) → LawAtS l w (K w.params) (CX w) k n x mg fa h)
    (hCX : ∀ (w : World) (H : Hp) (s : Shared) (e : Value) (s' : Shared), CX w [] H s (fun _ _ _ => False) e s' → False) :
    PySem.W.WalkO q loose XP (PySem.W.kmHook K as e ts).says l.row.toRowW d [] (fun f vs => PySem.call f vs) := by
  refine Att.attach_callB hn hdf fun w s₀ s₁ mg mb fa o pm cd doc a vs ns G Y ho hd hcd hmg hobj hints hlen hbits hg => ?_
  have KX : (K w.params).In s₁.heap := PySem.W.km_in_of Y
  have tabs : ∀ y : Str, ((recsOf q).any fun e => e.name == y) = true → TabAt mg s₁.heap y := fun y hy => by
    obtain ⟨dL, hm, hn1⟩ := List.any_eq_true.mp hy
    have hn2 : dL.name = y := beq_iff_eq.mp hn1
    obtain ⟨a', o', fd', c', P', g1, g2, g3, g4, g5, g6⟩ := G.T.tab dL hm
    exact ⟨a', o', fd', c', P', by rw [← hn2]; exact g1, g2, g3, g4, g5, g6⟩
  obtain ⟨fd, cs, sp, hT, nT, C, hb, hsp, hF⟩ := F w mg fa _ KX G.T.g hmg (tabs _ h1) (tabs _ h2) (e w.params)
  exact law_callTs KX G.T.g G.T.b G.T.builtins G.T.nolimit hg hT nT C G.T.bmain hobj hints (Nat.le_trans hlen hn2) hr hF hb (fun H hH hS => hsp H a ns hlen hbits hH hS) fun H e s' => hCX w H s₁ e s'
theorem mem_look {a : Addr} {o : Obj} : ∀ {K : List (Addr × Obj)}, K.lookup a = some o → a ∈ K.map (·.1)
  | [], h => by cases h
  | (b, u) :: K, h => by
    rw [List.lookup_cons] at h
    by_cases e : a = b
    · rw [e]
      exact List.mem_cons_self
    · rw [beq_false_of_ne e] at h
      exact List.mem_cons_of_mem _ (mem_look h)
theorem look_none {K : PySem.W.Frag} {as : List Addr} {a : Addr} (hA : as = K.map (·.1)) (h : a ∉ as) : K.lookup a = none := by
  cases q : K.lookup a with
  | none => rfl
  | some o => exact absurd (by rw [hA]; exact mem_look q) h
/-- the table, as it is known: its place, its code's head -/
theorem TabAt.at {K : PySem.W.Frag} {mg : Str → Option Value} {h : Heap} {x : Str} {f c P : Addr} {od dd : Option Addr} {oc e1 : Value} {fd : FuncData} {osl sl : Array (Option Value)} {vs : Array Value} (t : TabAt mg h x) (X : K.In h) (hm : mg x = some (.ref f))
    (l : K.lookup f = some ⟨oc, od, .func fd, osl⟩) (hc : fd.code = .ref c) (lc : K.lookup c = some ⟨e1, dd, .fields vs, sl⟩) (hp : vs[11]? = some (.ref P)) : h.get? P = some { cls := .none, data := .fields #[] } ∧ PySem.W.CodeHd h c P := by
  obtain ⟨a, o, fd', c', P', g1, g2, g3, g4, g5, g6⟩ := t
  rw [hm] at g1
  cases g1
  rw [X _ _ l] at g2
  cases g2
  cases g3
  rw [hc] at g4
  cases g4
  have hd := PySem.W.CodeHd.of g5 g6
  obtain ⟨⟨o2, vs2, e1', _, e3, e4⟩, hP⟩ := g6
  rw [X _ _ lc] at e1'
  cases e1'
  cases e3
  rw [hp] at e4
  cases e4
  exact ⟨hP, hd⟩
theorem tabs_start {cs : List (Addr × Addr)} {Ts : List (Addr × Str)} {H : Hp} (hH : ∀ p ∈ cs, H p.2 = some (.tbl #[])) (h : ∀ p ∈ Ts, ∃ c, (c, p.1) ∈ cs) : Tabs Ts H := fun p hp => by
  obtain ⟨c, hc⟩ := h p hp
  exact TabS.nil (hH _ hc)
theorem seq_noTab {K : PySem.W.Frag} {Ts : List (Addr × Str)} {H : Hp} {a : Addr} {xs : List V} (tb : Tabs Ts H) (h : SqL K H a xs) : SqL K (noTab Ts H) a xs := by
  rcases h with h | h
  · have ha : a ∉ Ts.map (·.1) := fun z => by
      obtain ⟨p, hp, rfl⟩ := List.mem_map.mp z
      obtain ⟨ps, h1, _⟩ := tb p hp
      rcases h with h | ⟨o, h⟩
      · rw [h1] at h; cases h
      · rw [h1] at h; cases h
    refine .inl ?_
    unfold Rd
    rw [noTab_out ha]
    exact h
  · exact .inr h
end J

namespace Jug
open PySem PySem.Spec L2 PyProof.Rows J
def top (i : Nat) : Stmt := PySem.Challenge.pw_jughouse_k08_refused.main.body.getD i (.Pass ⟨0, 0, 0, 0⟩)
structure Cs where
  Move : Addr
  Pour : Addr
  Fill : Addr
  Empty : Addr
  Goal : Addr
  Holds : Addr
  Some : Addr
  Sum : Addr
  Whole : Addr
  Answer : Addr
  Poured : Addr
  Barred : Addr
  House : Addr
  JugError : Addr
  BadHouse : Addr
  BadState : Addr
  BadMove : Addr
  BadGoal : Addr
  BadText : Addr
  v_law_goal_unfit : Addr
  v_law_house : Addr
  v_law_unfit : Addr
  v_law_with_goal : Addr
  v_law_with_move : Addr
  v_law_with_state : Addr
structure Top (K : PySem.W.Frag) (mg : Str → Option Value) (C : Cs) : Prop where
  k_Move : ∃ u, mg "Move" = some u ∧ RelV (.ref C.Move) u
  ik_Pour : InsK K C.Pour
  f_Pour_one : FldOk K C.Pour "one"
  f_Pour_other : FldOk K C.Pour "other"
  i_Pour : IniT K mg "Pour" C.Pour "Pour.__init__" (inClass (top 13) 0) ["self", "one", "other"]
  m_Pour_fits : MetT K C.Pour "fits" "Pour.fits" (inClass (top 13) 1) ["self", "sizes", "tap"]
  m_Pour_behind : MetT K C.Pour "behind" "Pour.behind" (inClass (top 13) 2) ["self", "sizes", "state"]
  m_Pour_done : MetT K C.Pour "done" "Move.done" (inClass (top 11) 2) ["self", "house", "state"]
  is_Pour_Move : PySem.W.kitOne K (.ref C.Pour) (.ref C.Move) = some true
  ik_Fill : InsK K C.Fill
  f_Fill_jug : FldOk K C.Fill "jug"
  i_Fill : IniT K mg "Fill" C.Fill "Fill.__init__" (inClass (top 14) 0) ["self", "jug"]
  m_Fill_fits : MetT K C.Fill "fits" "Fill.fits" (inClass (top 14) 1) ["self", "sizes", "tap"]
  m_Fill_behind : MetT K C.Fill "behind" "Fill.behind" (inClass (top 14) 2) ["self", "sizes", "state"]
  m_Fill_done : MetT K C.Fill "done" "Move.done" (inClass (top 11) 2) ["self", "house", "state"]
  is_Fill_Move : PySem.W.kitOne K (.ref C.Fill) (.ref C.Move) = some true
  ik_Empty : InsK K C.Empty
  f_Empty_jug : FldOk K C.Empty "jug"
  i_Empty : IniT K mg "Empty" C.Empty "Empty.__init__" (inClass (top 15) 0) ["self", "jug"]
  m_Empty_fits : MetT K C.Empty "fits" "Empty.fits" (inClass (top 15) 1) ["self", "sizes", "tap"]
  m_Empty_behind : MetT K C.Empty "behind" "Empty.behind" (inClass (top 15) 2) ["self", "sizes", "state"]
  m_Empty_done : MetT K C.Empty "done" "Move.done" (inClass (top 11) 2) ["self", "house", "state"]
  is_Empty_Move : PySem.W.kitOne K (.ref C.Empty) (.ref C.Move) = some true
  k_Goal : ∃ u, mg "Goal" = some u ∧ RelV (.ref C.Goal) u
  ik_Holds : InsK K C.Holds
  f_Holds_jug : FldOk K C.Holds "jug"
  f_Holds_many : FldOk K C.Holds "many"
  i_Holds : IniT K mg "Holds" C.Holds "Holds.__init__" (inClass (top 23) 0) ["self", "jug", "many"]
  m_Holds_fits : MetT K C.Holds "fits" "Holds.fits" (inClass (top 23) 1) ["self", "house"]
  m_Holds_met : MetT K C.Holds "met" "Holds.met" (inClass (top 23) 2) ["self", "state"]
  m_Holds_come : MetT K C.Holds "come" "Goal.come" (inClass (top 22) 2) ["self", "house", "state"]
  is_Holds_Goal : PySem.W.kitOne K (.ref C.Holds) (.ref C.Goal) = some true
  ik_Some : InsK K C.Some
  f_Some_many : FldOk K C.Some "many"
  i_Some : IniT K mg "Some" C.Some "Some.__init__" (inClass (top 24) 0) ["self", "many"]
  m_Some_fits : MetT K C.Some "fits" "Some.fits" (inClass (top 24) 1) ["self", "house"]
  m_Some_met : MetT K C.Some "met" "Some.met" (inClass (top 24) 2) ["self", "state"]
  m_Some_come : MetT K C.Some "come" "Goal.come" (inClass (top 22) 2) ["self", "house", "state"]
  is_Some_Goal : PySem.W.kitOne K (.ref C.Some) (.ref C.Goal) = some true
  ik_Sum : InsK K C.Sum
  f_Sum_jugs : FldOk K C.Sum "jugs"
  f_Sum_many : FldOk K C.Sum "many"
  i_Sum : IniT K mg "Sum" C.Sum "Sum.__init__" (inClass (top 25) 0) ["self", "jugs", "many"]
  m_Sum_fits : MetT K C.Sum "fits" "Sum.fits" (inClass (top 25) 1) ["self", "house"]
  m_Sum_met : MetT K C.Sum "met" "Sum.met" (inClass (top 25) 2) ["self", "state"]
  m_Sum_come : MetT K C.Sum "come" "Goal.come" (inClass (top 22) 2) ["self", "house", "state"]
  is_Sum_Goal : PySem.W.kitOne K (.ref C.Sum) (.ref C.Goal) = some true
  ik_Whole : InsK K C.Whole
  f_Whole_state : FldOk K C.Whole "state"
  i_Whole : IniT K mg "Whole" C.Whole "Whole.__init__" (inClass (top 26) 0) ["self", "state"]
  m_Whole_fits : MetT K C.Whole "fits" "Whole.fits" (inClass (top 26) 1) ["self", "house"]
  m_Whole_met : MetT K C.Whole "met" "Whole.met" (inClass (top 26) 2) ["self", "state"]
  m_Whole_come : MetT K C.Whole "come" "Goal.come" (inClass (top 22) 2) ["self", "house", "state"]
  is_Whole_Goal : PySem.W.kitOne K (.ref C.Whole) (.ref C.Goal) = some true
  f_Poured_pours : FldOk K C.Poured "pours"
  f_Poured_heights : FldOk K C.Poured "heights"
  i_Poured : IniT K mg "Poured" C.Poured "Poured.__init__" (inClass (top 34) 0) ["self", "pours", "heights"]
  f_Barred_among : FldOk K C.Barred "among"
  i_Barred : IniT K mg "Barred" C.Barred "Barred.__init__" (inClass (top 35) 0) ["self", "among"]
  f_House_told : FldOk K C.House "told"
  f_House_tap : FldOk K C.House "tap"
  i_House : IniT K mg "House" C.House "House.__init__" (inClass (top 41) 0) ["self", "sizes", "tap"]
  m_House_sizes : MetT K C.House "sizes" "House.sizes" (inClass (top 41) 1) ["self"]
  m_House_check : MetT K C.House "check" "House.check" (inClass (top 41) 2) ["self", "state"]
  m_House_moves : MetT K C.House "moves" "House.moves" (inClass (top 41) 3) ["self"]
  m_House_states : MetT K C.House "states" "House.states" (inClass (top 41) 4) ["self"]
  isb_int_Move : PySem.W.kitOne K (.type "int") (.ref C.Move) = some false
  isb_int_Goal : PySem.W.kitOne K (.type "int") (.ref C.Goal) = some false
  isb_bool_Move : PySem.W.kitOne K (.type "bool") (.ref C.Move) = some false
  isb_str_Move : PySem.W.kitOne K (.type "str") (.ref C.Move) = some false
  isb_str_Goal : PySem.W.kitOne K (.type "str") (.ref C.Goal) = some false
  isb_NoneType_Move : PySem.W.kitOne K (.type "NoneType") (.ref C.Move) = some false
  isb_NoneType_Goal : PySem.W.kitOne K (.type "NoneType") (.ref C.Goal) = some false
  isb_list_Move : PySem.W.kitOne K (.type "list") (.ref C.Move) = some false
  isb_tuple_Goal : PySem.W.kitOne K (.type "tuple") (.ref C.Goal) = some false
  x_JugError : ExcK K mg "JugError" C.JugError
  x_BadHouse : ExcK K mg "BadHouse" C.BadHouse
  x_BadState : ExcK K mg "BadState" C.BadState
  x_BadMove : ExcK K mg "BadMove" C.BadMove
  x_BadGoal : ExcK K mg "BadGoal" C.BadGoal
  x_BadText : ExcK K mg "BadText" C.BadText
  ec_BadHouse : ExcC K C.BadHouse
  em_BadHouse_JugError : PySem.W.exmOne K (.ref C.BadHouse) (.ref C.JugError) = some true
  isx_BadHouse_BadHouse : PySem.W.kitOne K (.ref C.BadHouse) (.ref C.BadHouse) = some true
  isx_BadHouse_BadState : PySem.W.kitOne K (.ref C.BadHouse) (.ref C.BadState) = some false
  isx_BadHouse_BadMove : PySem.W.kitOne K (.ref C.BadHouse) (.ref C.BadMove) = some false
  isx_BadHouse_BadGoal : PySem.W.kitOne K (.ref C.BadHouse) (.ref C.BadGoal) = some false
  isx_BadHouse_BadText : PySem.W.kitOne K (.ref C.BadHouse) (.ref C.BadText) = some false
  isxv_BadHouse : PySem.W.kitOne K (.ref C.BadHouse) (.type "ValueError") = some true
  ec_BadState : ExcC K C.BadState
  em_BadState_JugError : PySem.W.exmOne K (.ref C.BadState) (.ref C.JugError) = some true
  isx_BadState_BadHouse : PySem.W.kitOne K (.ref C.BadState) (.ref C.BadHouse) = some false
  isx_BadState_BadState : PySem.W.kitOne K (.ref C.BadState) (.ref C.BadState) = some true
  isx_BadState_BadMove : PySem.W.kitOne K (.ref C.BadState) (.ref C.BadMove) = some false
  isx_BadState_BadGoal : PySem.W.kitOne K (.ref C.BadState) (.ref C.BadGoal) = some false
  isx_BadState_BadText : PySem.W.kitOne K (.ref C.BadState) (.ref C.BadText) = some false
  isxv_BadState : PySem.W.kitOne K (.ref C.BadState) (.type "ValueError") = some true
  ec_BadMove : ExcC K C.BadMove
  em_BadMove_JugError : PySem.W.exmOne K (.ref C.BadMove) (.ref C.JugError) = some true
  isx_BadMove_BadHouse : PySem.W.kitOne K (.ref C.BadMove) (.ref C.BadHouse) = some false
  isx_BadMove_BadState : PySem.W.kitOne K (.ref C.BadMove) (.ref C.BadState) = some false
  isx_BadMove_BadMove : PySem.W.kitOne K (.ref C.BadMove) (.ref C.BadMove) = some true
  isx_BadMove_BadGoal : PySem.W.kitOne K (.ref C.BadMove) (.ref C.BadGoal) = some false
  isx_BadMove_BadText : PySem.W.kitOne K (.ref C.BadMove) (.ref C.BadText) = some false
  isxv_BadMove : PySem.W.kitOne K (.ref C.BadMove) (.type "ValueError") = some true
  ec_BadGoal : ExcC K C.BadGoal
  em_BadGoal_JugError : PySem.W.exmOne K (.ref C.BadGoal) (.ref C.JugError) = some true
  isx_BadGoal_BadHouse : PySem.W.kitOne K (.ref C.BadGoal) (.ref C.BadHouse) = some false
  isx_BadGoal_BadState : PySem.W.kitOne K (.ref C.BadGoal) (.ref C.BadState) = some false
  isx_BadGoal_BadMove : PySem.W.kitOne K (.ref C.BadGoal) (.ref C.BadMove) = some false
  isx_BadGoal_BadGoal : PySem.W.kitOne K (.ref C.BadGoal) (.ref C.BadGoal) = some true
  isx_BadGoal_BadText : PySem.W.kitOne K (.ref C.BadGoal) (.ref C.BadText) = some false
  isxv_BadGoal : PySem.W.kitOne K (.ref C.BadGoal) (.type "ValueError") = some true
  g_MOST_JUGS : ∃ u, mg "MOST_JUGS" = some u ∧ RelV (.int 4) u
  g_GREATEST_goals : ∃ u, mg "GREATEST_goals" = some u ∧ RelV (.int 60) u
  g_MOST : ∃ u, mg "MOST" = some u ∧ RelV (.int 240) u
  g_GREATEST_houses : ∃ u, mg "GREATEST_houses" = some u ∧ RelV (.int 60) u
  g_MOST_STATES : ∃ u, mg "MOST_STATES" = some u ∧ RelV (.int 2000) u
  d_within : DefT K mg "within" (top 9) ["number", "low", "high"]
  d_check_jug : DefT K mg "check_jug" (top 10) ["jug"]
  d_with_amount : DefT K mg "with_amount" (top 12) ["state", "jug", "many"]
  d_check_moves : DefT K mg "check_moves" (top 16) ["moves"]
  d_done_all : DefT K mg "done_all" (top 17) ["moves", "house", "state"]
  d_check_amount : DefT K mg "check_amount" (top 21) ["many"]
  d_spread : DefT K mg "spread" (top 28) ["house", "state"]
  d_reached : DefT K mg "reached" (top 29) ["house", "state"]
  d_measured : DefT K mg "measured" (top 30) ["house", "state"]
  d_tied : DefT K mg "tied" (top 31) ["house", "one", "other"]
  d_way_to : DefT K mg "way_to" (top 36) ["ahead", "state"]
  d_fewest : DefT K mg "fewest" (top 37) ["house", "state", "goal"]
  d_move_text : DefT K mg "move_text" (top 43) ["move"]
  d_routine_text : DefT K mg "routine_text" (top 44) ["moves"]
  d__law_cell_at : DefT K mg "_law_cell_at" (top 46) ["_law_script", "_law_k"]
  d__law_kinds : DefT K mg "_law_kinds" (top 47) ["_law_error"]
  d__law_told : DefT K mg "_law_told" (top 48) ["_law_ask", "_law_one", "_law_other"]
  d__law_house : DefT K mg "_law_house" (top 49) ["_law_door", "_law_bad"]
  d__law_with_state : DefT K mg "_law_with_state" (top 50) ["_law_door", "_law_bad"]
  d__law_with_move : DefT K mg "_law_with_move" (top 51) ["_law_door", "_law_bad"]
  d__law_unfit : DefT K mg "_law_unfit" (top 52) ["_law_door", "_law_way"]
  d__law_with_goal : DefT K mg "_law_with_goal" (top 53) ["_law_door", "_law_bad"]
  d__law_goal_unfit : DefT K mg "_law_goal_unfit" (top 54) ["_law_door", "_law_way"]
  d__law_all : DefT K mg "_law_all" (top 55) ["_law_ask", "_law_doors", "_law_things", "_law_due"]
  d__law_goals_right : DefT K mg "_law_goals_right" (top 56) ["_law_far", "_law_due"]
  d__law_good : DefT K mg "_law_good" (top 57) []
  d_law : DefT K mg "law" (top 58) ["_law_script"]
  v__law_house : ∃ u, mg "_law_house" = some u ∧ RelV (.ref C.v_law_house) u
  v__law_with_state : ∃ u, mg "_law_with_state" = some u ∧ RelV (.ref C.v_law_with_state) u
  v__law_with_move : ∃ u, mg "_law_with_move" = some u ∧ RelV (.ref C.v_law_with_move) u
  v__law_unfit : ∃ u, mg "_law_unfit" = some u ∧ RelV (.ref C.v_law_unfit) u
  v__law_with_goal : ∃ u, mg "_law_with_goal" = some u ∧ RelV (.ref C.v_law_with_goal) u
  v__law_goal_unfit : ∃ u, mg "_law_goal_unfit" = some u ∧ RelV (.ref C.v_law_goal_unfit) u
  n_ValueError : mg "ValueError" = none
  n_all : mg "all" = none
  n_bool : mg "bool" = none
  n_int : mg "int" = none
  n_isinstance : mg "isinstance" = none
  n_len : mg "len" = none
  n_list : mg "list" = none
  n_max : mg "max" = none
  n_min : mg "min" = none
  n_range : mg "range" = none
  n_sorted : mg "sorted" = none
  n_sum : mg "sum" = none
  n_tuple : mg "tuple" = none

inductive Mv where
  | pour (i j : Nat)
  | fill (i : Nat)
  | empty (i : Nat)
  deriving DecidableEq
abbrev pourF (i j : Nat) : List (Str × Slot) := [("one", iS (i : Int)), ("other", iS (j : Int))]
abbrev jugF (i : Nat) : List (Str × Slot) := [("jug", iS (i : Int))]
def moveS (C : Cs) : Mv → Slot
  | .pour i j => objS C.Pour (pourF i j)
  | .fill i => objS C.Fill (jugF i)
  | .empty i => objS C.Empty (jugF i)

/-! ### the data -/
abbrev intsS (x : List Int) : Slot := lstS (x.map iS)
abbrev stS (x : List Int) : Slot := tupS (x.map iS)
abbrev hoF (z : List Int) (t : Bool) : List (Str × Slot) := [("told", intsS z), ("tap", bS t)]
abbrev houseS (C : Cs) (z : List Int) (t : Bool) : Slot := objS C.House (hoF z t)
def prodTo (z : List Int) (n : Nat) : Int := ((z.take n).map (· + 1)).foldl (· * ·) 1
structure HouseOk (z : List Int) : Prop where
  l1 : 1 ≤ z.length
  l4 : z.length ≤ 4
  sz : ∀ x ∈ z, 1 ≤ x ∧ x ≤ 60
  pr : prodTo z z.length ≤ 2000
structure StOk (z x : List Int) : Prop where
  len : x.length = z.length
  bd : ∀ (i : Nat) (a b : Int), x[i]? = some a → z[i]? = some b → 0 ≤ a ∧ a ≤ b
theorem prodTo_succ {z : List Int} {n : Nat} {a : Int} (h : z[n]? = some a) : prodTo z (n + 1) = prodTo z n * (a + 1) := by
  unfold prodTo
  rw [List.take_add_one, h, List.map_append, List.foldl_append]
  rfl
/-- the amount in a jug -/
def am (x : List Int) (i : Nat) : Int := x.getD i 0
theorem am_get {x : List Int} {i : Nat} (h : i < x.length) : x[i]? = some (am x i) := by
  unfold am
  rw [List.getD_eq_getElem?_getD, List.getElem?_eq_getElem h]
  rfl
theorem am_set {x : List Int} {i j : Nat} {a : Int} (hi : i < x.length) : am (x.set i a) j = if j = i then a else am x j := by
  unfold am
  rw [List.getD_eq_getElem?_getD, List.getD_eq_getElem?_getD]
  by_cases h : j = i
  · subst h
    rw [if_pos rfl, List.getElem?_set_self hi]
    rfl
  · rw [if_neg h, List.getElem?_set_ne (fun z => h z.symm)]
theorem stOk_iff {z x : List Int} : StOk z x ↔ x.length = z.length ∧ ∀ i, i < z.length → 0 ≤ am x i ∧ am x i ≤ am z i := by
  constructor
  · intro h
    exact ⟨h.len, fun i hi => h.bd i _ _ (am_get (by rw [h.len]; exact hi)) (am_get hi)⟩
  · rintro ⟨h1, h2⟩
    refine ⟨h1, fun i a b ha hb => ?_⟩
    have hi : i < z.length := (List.getElem?_eq_some_iff.mp hb).1
    have e1 := am_get (x := x) (i := i) (by omega)
    have e2 := am_get (x := z) (i := i) hi
    rw [ha] at e1
    rw [hb] at e2
    have := h2 i hi
    rw [← Option.some.inj e1, ← Option.some.inj e2] at this
    exact this
theorem mapGet {α : Type} {f : α → Slot} {l : List α} {n : Nat} {T : Slot} (h : (l.map f)[n]? = some T) : ∃ a, l[n]? = some a ∧ T = f a := by
  rw [List.getElem?_map] at h
  cases q : l[n]? with
  | none => rw [q] at h; cases h
  | some a => rw [q] at h; exact ⟨a, rfl, (Option.some.inj h).symm⟩
theorem prodTo_pos {z : List Int} (h : ∀ x ∈ z, 1 ≤ x ∧ x ≤ 60) : ∀ n, n ≤ z.length → 1 ≤ prodTo z n
  | 0, _ => by unfold prodTo; simp
  | n + 1, hn => by
    have hx : z[n]? = some z[n] := List.getElem?_eq_getElem (by omega)
    rw [prodTo_succ hx]
    have h1 := prodTo_pos h n (by omega)
    have h2 := (h z[n] (List.getElem_mem _)).1
    have h3 : 0 ≤ (prodTo z n - 1) * (z[n] + 1) := Int.mul_nonneg (by omega) (by omega)
    rw [Int.sub_mul] at h3
    omega
theorem set_am {x : List Int} {i : Nat} (h : i < x.length) : x.set i (am x i) = x := by
  apply List.ext_getElem?
  intro k
  by_cases e : k = i
  · subst e
    rw [List.getElem?_set_self h, am_get h]
  · rw [List.getElem?_set_ne (fun q => e q.symm)]

end Jug
local macro_rules | `(tactic| walk_at "fok") => `(tactic| (first | with_reducible exact Jug.Top.f_Pour_one (by assumption) | with_reducible exact Jug.Top.f_Pour_other (by assumption) | with_reducible exact Jug.Top.f_Fill_jug (by assumption) | with_reducible exact Jug.Top.f_Empty_jug (by assumption) | with_reducible exact Jug.Top.f_Holds_jug (by assumption) | with_reducible exact Jug.Top.f_Holds_many (by assumption) | with_reducible exact Jug.Top.f_Some_many (by assumption) | with_reducible exact Jug.Top.f_Sum_jugs (by assumption) | with_reducible exact Jug.Top.f_Sum_many (by assumption) | with_reducible exact Jug.Top.f_Whole_state (by assumption) | with_reducible exact Jug.Top.f_Poured_pours (by assumption) | with_reducible exact Jug.Top.f_Poured_heights (by assumption) | with_reducible exact Jug.Top.f_Barred_among (by assumption) | with_reducible exact Jug.Top.f_House_told (by assumption) | with_reducible exact Jug.Top.f_House_tap (by assumption) ))

local macro_rules | `(tactic| walk_at "isr") => `(tactic| (first | with_reducible exact J.isR_b | with_reducible exact J.isR_v | exact Or.inl rfl | exact Or.inr rfl))
local macro_rules | `(tactic| walk_at "side") => `(tactic| (first | rfl | assumption | omega | decide | (simp; done) | (simp; omega)))
local macro_rules | `(tactic| walk_at "op") => `(tactic| (first
  | with_reducible exact J.jv_add | with_reducible exact J.jv_eqi | with_reducible exact J.jv_nei | with_reducible exact J.op_I0 | with_reducible exact J.jv_eqb | with_reducible exact J.jv_neb
  | (((with_reducible apply J.jx_l)); (walk_at "isr"); (walk_at "side"); (walk_at "side"))
  | (((with_reducible apply J.jx_t)); (walk_at "isr"); (walk_at "side"); (walk_at "side"))
  | with_reducible exact J.jv_eqs
  | ((with_reducible apply J.op_I); (first | exact Or.inr ⟨by omega, by omega⟩ | exact Or.inl ⟨by omega, by omega⟩ | walk_at "side"))))
local macro_rules | `(tactic| walk_at "cb") => `(tactic| (first
  | ((with_reducible apply J.cb_lenM); walk_at "isr") | ((with_reducible apply J.cb_lentM); walk_at "isr")
  | with_reducible exact J.kb_max2 | with_reducible exact J.kb_min2
  | (((with_reducible apply J.cb_isi J.ty_int (L2.ClsV.ty _))); first | exact J.kt_ii | exact J.kt_ib)
  | (((with_reducible apply J.cb_isi J.ty_bl (L2.ClsV.ty _))); first | exact J.kt_bb | exact J.kt_bi)
  | ((with_reducible apply J.cb_lens); assumption)
  | ((with_reducible apply J.cb_isl); walk_at "isr")
  | ((with_reducible apply J.cb_ist); walk_at "isr")
  | ((with_reducible apply J.kb_tuple); walk_at "isr")))
local macro_rules | `(tactic| walk_at "args") => `(tactic| (first
  | with_reducible exact J.ea_nil
  | (((with_reducible apply J.ea_cons)); (walk_at "ev"); (walk_at "args"))))
local macro_rules | `(tactic| walk_at "ev") => `(tactic| (first
  | with_reducible exact J.ev_c
  | (((with_reducible apply J.ev_v)); exact rfl) | (((with_reducible apply J.ev_bo)); exact rfl) | (((with_reducible apply J.ev_ow)); exact rfl)
  | (((with_reducible apply J.ev_op)); (walk_at "ev"); (walk_at "ev"); (walk_at "op"))
  | (((with_reducible apply J.ev_ix)); (walk_at "ev"); (walk_at "ev"); (walk_at "op"))
  | (((with_reducible apply J.ev_cb)); (walk_at "args"); (walk_at "cb"))
  | (((with_reducible apply J.ev_fld)); (walk_at "ev"); (walk_at "isr"); (walk_at "fok"); (walk_at "lk"))
  | (((with_reducible apply J.ev_slt)); (walk_at "ev"); (walk_at "po"); (walk_at "po"))
  | (((with_reducible apply J.ev_tupN)); (walk_at "argsV"); (first | exact Nat.le_of_ble_eq_true rfl | simp))
  | (((with_reducible apply J.ev_chain)); (walk_at "ev"); (walk_at "ev"); (intro _; walk_at "ev"); (walk_at "op"); (intro _; walk_at "op"))
  | (((with_reducible apply J.ev_and)); (walk_at "ev"); (intro _; walk_at "ev"))
  | (((with_reducible apply J.ev_or)); (walk_at "ev"); (intro _; walk_at "ev"))
  | (((with_reducible apply J.ev_not)); (walk_at "ev"))
  | (((with_reducible apply J.ev_un)); (walk_at "ev"); with_reducible exact J.un_I)))
local macro_rules | `(tactic| walk_at "et") => `(tactic| (first
  | with_reducible exact J.et_yes
  | (((with_reducible apply J.et_not)); (walk_at "et"))
  | (((with_reducible apply J.et_and)); (walk_at "et"); (intro _; walk_at "et"))
  | (((with_reducible apply J.et_or)); (walk_at "et"); (intro _; walk_at "et"))
  | (((with_reducible apply J.et_Test)); (walk_at "ev"))
  | (((with_reducible apply J.et_B)); (walk_at "ev"))))
local macro_rules | `(tactic| walk_at "len") => `(tactic| (intro es r h; (repeat' (obtain ⟨_, h⟩ := h)); all_goals (subst_vars; rfl)))
local macro_rules | `(tactic| walk_at "lk") => `(tactic| (first | with_reducible exact J.lk0 | ((with_reducible apply J.lk1); (decide +kernel); (walk_at "lk")) | with_reducible exact J.lkn))
local macro_rules | `(tactic| walk_at "po") => `(tactic| (first | with_reducible exact J.eo_none | ((with_reducible apply J.eo_some); walk_at "ev")))
local macro_rules | `(tactic| walk_at "argsV") => `(tactic| (first | with_reducible exact J.ea_nilV | ((with_reducible apply J.ea_consV); (walk_at "ev"); (walk_at "argsV"))))


namespace Jug
open PySem PySem.Spec L2 PyProof.Rows J
section
variable {P : Program} {w : World} {K : PySem.W.Frag} {mg : Str → Option Value} {base : Heap} {C : Cs}
/-- whether a slot is a whole number between two bounds -/
def W8 (K : PySem.W.Frag) (S : Slot) (lo hi : Int) (b : Bool) : Prop :=
  (∃ n : Int, S = iS n ∧ b = (decide (lo ≤ n) && decide (n ≤ hi))) ∨ ((∃ x : Bool, S = bS x) ∧ b = false) ∨ (∃ t, TyE K (.v S) t ∧ PySem.W.kitOne K t (.type "int") = some false ∧ b = false)
theorem w8_int {K : PySem.W.Frag} {n lo hi : Int} : W8 K (iS n) lo hi (decide (lo ≤ n) && decide (n ≤ hi)) := .inl ⟨n, rfl, rfl⟩
theorem w8_bl {K : PySem.W.Frag} {x : Bool} {lo hi : Int} : W8 K (bS x) lo hi false := .inr (.inl ⟨⟨x, rfl⟩, rfl⟩)
def R_within8 (K : PySem.W.Frag) : Rel := fun es r => ∃ S lo hi b, es = [.v S, .v (iS lo), .v (iS hi)] ∧ W8 K S lo hi b ∧ r = .v (bS b)
/-! ### within: slots 0:number 1:low 2:high -/
abbrev s_within : Stmt := top 9
theorem sc_within : FnScope ["number", "low", "high"] ["number", "low", "high"] (defScope s_within) := ⟨rfl, rfl, rfl, by decide +kernel, rfl, by decide +kernel, by decide +kernel⟩
theorem ok_within (T : Top K mg C) : CalX P w K mg base 1 "within" (SpOf (R_within8 K)) := by
  obtain ⟨f, fd, F, hm, hb⟩ := T.d_within.ex
  refine ⟨f, fd, _, fn_ok F sc_within (by walk_at "len") (fun cdv A outer s H E hr => ⟨_, (pss_cons (ps_ret (pe_and (pe_callB (kc_isi (K := K) rfl) (by rfl) T.n_isinstance bt_isinstance (pa_cons (pv 0) (pa_cons (pe_bltn (v := .ty "int") (by rfl) T.n_int bt_int rfl) pa_nil))) (pe_and (pe_not (pe_callB (kc_isi (K := K) rfl) (by rfl) T.n_isinstance bt_isinstance (pa_cons (pv 0) (pa_cons (pe_bltn (v := .ty "bool") (by rfl) T.n_bool bt_bool rfl) pa_nil)))) (pe_one (pe_chain op_le op_le (pv 1) (pv 0) (pv 2)))))) pss_nil), ?_⟩), hm, F.kp, hb⟩

  rintro es r F σ Q ⟨S, lo, hi, b, rfl, ⟨n, rfl, rfl⟩ | ⟨⟨x, rfl⟩, rfl⟩ | ⟨t, h1, h2, rfl⟩, rfl⟩ s k
  · skip
    simp only [J.cx_K, List.length_cons, List.length_nil, List.cons_append, List.nil_append, Nat.reduceAdd, Nat.reduceSub, List.reduceReplicate, List.append_nil] at s ⊢
    refine q_ret s (EvE.to (by walk_at "ev") ?_) k
    simp
  · skip
    simp only [J.cx_K, List.length_cons, List.length_nil, List.cons_append, List.nil_append, Nat.reduceAdd, Nat.reduceSub, List.reduceReplicate, List.append_nil] at s ⊢
    refine q_ret s (EvE.to (ev_and (b := false) (ev_cb (ea_cons (ev_v rfl) (ea_cons ev_c ea_nil)) (cb_isi ty_bl (.ty _) kt_bi)) fun _ => EvE.to (ev_and (b := false) (ev_not (ev_cb (ea_cons (ev_v rfl) (ea_cons ev_c ea_nil)) (cb_isi ty_bl (.ty _) kt_bb))) fun h => by cases h) rfl) rfl) k
  · skip
    simp only [J.cx_K, List.length_cons, List.length_nil, List.cons_append, List.nil_append, Nat.reduceAdd, Nat.reduceSub, List.reduceReplicate, List.append_nil] at s ⊢
    exact q_ret s (EvE.to (ev_and (b := false) (ev_cb (ea_cons (ev_v rfl) (ea_cons ev_c ea_nil)) (cb_isi h1 (.ty _) h2)) fun h => by cases h) rfl) k
def R_check_jug (K : PySem.W.Frag) (C : Cs) : Rel := fun es r => ∃ S b, es = [.v S] ∧ W8 K S 0 3 b ∧ (b = true ∧ r = .v nS ∨ b = false ∧ r = .x C.BadMove)
/-! ### check_jug: slots 0:jug -/
abbrev s_check_jug : Stmt := top 10
theorem sc_check_jug : FnScope ["jug"] ["jug"] (defScope s_check_jug) := ⟨rfl, rfl, rfl, by decide +kernel, rfl, by decide +kernel, by decide +kernel⟩
theorem ok_check_jug (T : Top K mg C) : CalX P w K mg base 2 "check_jug" (SpOf (R_check_jug K C)) := by
  obtain ⟨f, fd, F, hm, hb⟩ := T.d_check_jug.ex
  refine ⟨f, fd, _, fn_ok F sc_check_jug (by walk_at "len") (fun cdv A outer s H E hr => ⟨_, (pss_cons (ps_if (pt_not (pt_val (pe_cX (ok_within T) hr (by decide) px_of (by rfl) (pa_cons (pv 0) (pa_cons pe_int (pa_cons (pe_op op_sub (C8.pe_gc (by rfl) T.g_MOST_JUGS) pe_int) pa_nil)))))) (pss_cons (ps_raiseX rfl tk_of T.x_BadMove (by rfl)) pss_nil) pss_nil) pss_nil), ?_⟩), hm, F.kp, hb⟩

  rintro es r F σ Q ⟨S, b, rfl, hb, ⟨rfl, rfl⟩ | ⟨rfl, rfl⟩⟩ s k
  · skip
    simp only [J.cx_K, List.length_cons, List.length_nil, List.cons_append, List.nil_append, Nat.reduceAdd, Nat.reduceSub, List.reduceReplicate, List.append_nil] at s ⊢
    refine q_whenF s (et_not (et_B (ev_call (by walk_at "args") ⟨S, 0, 4 - 1, _, rfl, by simpa using hb, rfl⟩))) rfl fun σ F H s => ?_
    exact k .non F H s.g rfl
  · skip
    simp only [J.cx_K, List.length_cons, List.length_nil, List.cons_append, List.nil_append, Nat.reduceAdd, Nat.reduceSub, List.reduceReplicate, List.append_nil] at s ⊢
    refine q_ifT s (et_not (et_B (ev_call (by walk_at "args") ⟨S, 0, 4 - 1, _, rfl, by simpa using hb, rfl⟩))) rfl fun σ F H s => ?_
    exact q_raise s k
def R_amount8 (K : PySem.W.Frag) (C : Cs) : Rel := fun es r => ∃ S b, es = [.v S] ∧ W8 K S 0 240 b ∧ (b = true ∧ r = .v nS ∨ b = false ∧ r = .x C.BadGoal)
/-! ### check_amount: slots 0:many -/
abbrev s_check_amount : Stmt := top 21
theorem sc_check_amount : FnScope ["many"] ["many"] (defScope s_check_amount) := ⟨rfl, rfl, rfl, by decide +kernel, rfl, by decide +kernel, by decide +kernel⟩
theorem ok_check_amount (T : Top K mg C) : CalX P w K mg base 2 "check_amount" (SpOf (R_amount8 K C)) := by
  obtain ⟨f, fd, F, hm, hb⟩ := T.d_check_amount.ex
  refine ⟨f, fd, _, fn_ok F sc_check_amount (by walk_at "len") (fun cdv A outer s H E hr => ⟨_, (pss_cons (ps_if (pt_not (pt_val (pe_cX (ok_within T) hr (by decide) px_of (by rfl) (pa_cons (pv 0) (pa_cons pe_int (pa_cons (C8.pe_gc (by rfl) T.g_MOST) pa_nil)))))) (pss_cons (ps_raiseX rfl tk_of T.x_BadGoal (by rfl)) pss_nil) pss_nil) pss_nil), ?_⟩), hm, F.kp, hb⟩

  rintro es r F σ Q ⟨S, b, rfl, hb, ⟨rfl, rfl⟩ | ⟨rfl, rfl⟩⟩ s k
  · skip
    simp only [J.cx_K, List.length_cons, List.length_nil, List.cons_append, List.nil_append, Nat.reduceAdd, Nat.reduceSub, List.reduceReplicate, List.append_nil] at s ⊢
    refine q_whenF s (et_not (et_B (ev_call (by walk_at "args") ⟨S, 0, 240, _, rfl, hb, rfl⟩))) rfl fun σ F H s => ?_
    exact k .non F H s.g rfl
  · skip
    simp only [J.cx_K, List.length_cons, List.length_nil, List.cons_append, List.nil_append, Nat.reduceAdd, Nat.reduceSub, List.reduceReplicate, List.append_nil] at s ⊢
    refine q_ifT s (et_not (et_B (ev_call (by walk_at "args") ⟨S, 0, 240, _, rfl, hb, rfl⟩))) rfl fun σ F H s => ?_
    exact q_raise s k

/-- what Pour refuses -/
def badPour (K : PySem.W.Frag) (S1 S2 : Slot) : Prop := W8 K S1 0 3 false ∨ (W8 K S1 0 3 true ∧ W8 K S2 0 3 false) ∨ (∃ n : Int, S1 = iS n ∧ S2 = iS n ∧ W8 K (iS n) 0 3 true)
def R_Pour (K : PySem.W.Frag) (C : Cs) : RelI := fun es r => ∃ S1 S2, es = [.v S1, .v S2] ∧ ((∃ i j : Nat, (i ≤ 3 ∧ j ≤ 3 ∧ i ≠ j) ∧ S1 = iS (i : Int) ∧ S2 = iS (j : Int) ∧ r = .ok (pourF i j)) ∨ (badPour K S1 S2 ∧ r = .error C.BadMove))
theorem w8_nat {K : PySem.W.Frag} {i m : Nat} (h : i ≤ m) : W8 K (iS (i : Int)) 0 (m : Int) true := .inl ⟨i, rfl, by rw [decide_eq_true (by omega), decide_eq_true (by omega)]; rfl⟩
theorem pour_ok {K : PySem.W.Frag} {C : Cs} {i j : Nat} (h : i ≤ 3 ∧ j ≤ 3 ∧ i ≠ j) : R_Pour K C [.v (iS (i : Int)), .v (iS (j : Int))] (.ok (pourF i j)) := ⟨_, _, rfl, .inl ⟨i, j, h, rfl, rfl, rfl⟩⟩
/-! ### Pour___init__: slots 0:self 1:one 2:other -/
abbrev s_Pour___init__ : Stmt := inClass (top 13) 0
theorem sc_Pour___init__ : FnScope ["self", "one", "other"] ["self", "one", "other"] (defScope s_Pour___init__) := ⟨rfl, rfl, rfl, by decide +kernel, rfl, by decide +kernel, by decide +kernel⟩
theorem ok_Pour___init__ (T : Top K mg C) : MakX P w K mg base 3 "Pour" C.Pour (SpInit C.Pour (R_Pour K C)) := by
  obtain ⟨f, fd, F, hk, hm, hb⟩ := T.i_Pour.ex
  refine ⟨f, fd, _, hk, init_ok F sc_Pour___init__ (by walk_at "len") (fun cdv A outer s H E hr => ⟨_, (pss_cons (ps_expr (pe_cX (ok_check_jug T) hr (by decide) px_of (by rfl) (pa_cons (pv 1) pa_nil))) (pss_cons (ps_expr (pe_cX (ok_check_jug T) hr (by decide) px_of (by rfl) (pa_cons (pv 2) pa_nil))) (pss_cons (ps_if (pt_cmpR (ko_eq (K := K) rfl hr) (pv 1) (pv 2) (nomark _)) (pss_cons (ps_raiseX rfl tk_of T.x_BadMove (by rfl)) pss_nil) pss_nil) (pss_cons (ps_fld (pv 0) (pv 1) rfl) (pss_cons (ps_fld (pv 0) (pv 2) rfl) pss_nil))))), ?_⟩), hm, hb⟩

  rintro p es r F H0 H σ D ⟨S1, S2, rfl, ⟨i, j, ⟨hi, hj, hij⟩, rfl, rfl, rfl⟩ | ⟨hb, rfl⟩⟩ s k
  · skip
    simp only [J.cx_K, List.length_cons, List.length_nil, List.cons_append, List.nil_append, Nat.reduceAdd, Nat.reduceSub, List.reduceReplicate, List.append_nil] at s ⊢
    refine q_drop s (ev_call (by walk_at "args") ⟨_, true, rfl, w8_nat hi, .inl ⟨rfl, rfl⟩⟩) fun σ F H s => ?_
    refine q_drop s (ev_call (by walk_at "args") ⟨_, true, rfl, w8_nat hj, .inl ⟨rfl, rfl⟩⟩) fun σ F H s => ?_
    refine q_whenF s (by walk_at "et") (by simp; omega) fun σ F H s => ?_
    refine q_self s rfl (by walk_at "ev") T.f_Pour_one rfl (Nat.le_of_ble_eq_true rfl) fun σ F H s => ?_
    dsimp only [List.set, J.putS, List.nil_append, List.cons_append] at s
    refine q_self s rfl (by walk_at "ev") T.f_Pour_other (by walk_at "lk") (Nat.le_of_ble_eq_true rfl) fun σ F H s => ?_
    exact k σ F H _ s rfl
  · skip
    simp only [J.cx_K, List.length_cons, List.length_nil, List.cons_append, List.nil_append, Nat.reduceAdd, Nat.reduceSub, List.reduceReplicate, List.append_nil] at s ⊢
    rcases hb with h1 | ⟨h1, h2⟩ | ⟨n, rfl, rfl, h1⟩
    · exact q_dropX s (ex_call (by walk_at "args") ⟨_, false, rfl, h1, .inr ⟨rfl, rfl⟩⟩) k
    · refine q_drop s (ev_call (by walk_at "args") ⟨_, true, rfl, h1, .inl ⟨rfl, rfl⟩⟩) fun σ F H s => ?_
      exact q_dropX s (ex_call (by walk_at "args") ⟨_, false, rfl, h2, .inr ⟨rfl, rfl⟩⟩) k
    · refine q_drop s (ev_call (by walk_at "args") ⟨_, true, rfl, h1, .inl ⟨rfl, rfl⟩⟩) fun σ F H s => ?_
      refine q_drop s (ev_call (by walk_at "args") ⟨_, true, rfl, h1, .inl ⟨rfl, rfl⟩⟩) fun σ F H s => ?_
      refine q_ifT s (by walk_at "et") (by simp) fun σ F H s => ?_
      exact q_raise s k
def R_Jug (K : PySem.W.Frag) (C : Cs) : RelI := fun es r => ∃ S, es = [.v S] ∧ ((∃ i : Nat, i ≤ 3 ∧ S = iS (i : Int) ∧ r = .ok (jugF i)) ∨ (W8 K S 0 3 false ∧ r = .error C.BadMove))
theorem jug_ok {K : PySem.W.Frag} {C : Cs} {i : Nat} (h : i ≤ 3) : R_Jug K C [.v (iS (i : Int))] (.ok (jugF i)) := ⟨_, rfl, .inl ⟨i, h, rfl, rfl⟩⟩
/-! ### Fill___init__: slots 0:self 1:jug -/
abbrev s_Fill___init__ : Stmt := inClass (top 14) 0
theorem sc_Fill___init__ : FnScope ["self", "jug"] ["self", "jug"] (defScope s_Fill___init__) := ⟨rfl, rfl, rfl, by decide +kernel, rfl, by decide +kernel, by decide +kernel⟩
theorem ok_Fill___init__ (T : Top K mg C) : MakX P w K mg base 3 "Fill" C.Fill (SpInit C.Fill (R_Jug K C)) := by
  obtain ⟨f, fd, F, hk, hm, hb⟩ := T.i_Fill.ex
  refine ⟨f, fd, _, hk, init_ok F sc_Fill___init__ (by walk_at "len") (fun cdv A outer s H E hr => ⟨_, (pss_cons (ps_expr (pe_cX (ok_check_jug T) hr (by decide) px_of (by rfl) (pa_cons (pv 1) pa_nil))) (pss_cons (ps_fld (pv 0) (pv 1) rfl) pss_nil)), ?_⟩), hm, hb⟩

  rintro p es r F H0 H σ D ⟨S, rfl, ⟨i, hi, rfl, rfl⟩ | ⟨hb, rfl⟩⟩ s k
  · skip
    simp only [J.cx_K, List.length_cons, List.length_nil, List.cons_append, List.nil_append, Nat.reduceAdd, Nat.reduceSub, List.reduceReplicate, List.append_nil] at s ⊢
    refine q_drop s (ev_call (by walk_at "args") ⟨_, true, rfl, w8_nat hi, .inl ⟨rfl, rfl⟩⟩) fun σ F H s => ?_
    refine q_self s rfl (by walk_at "ev") T.f_Fill_jug rfl (Nat.le_of_ble_eq_true rfl) fun σ F H s => ?_
    exact k σ F H _ s rfl
  · skip
    simp only [J.cx_K, List.length_cons, List.length_nil, List.cons_append, List.nil_append, Nat.reduceAdd, Nat.reduceSub, List.reduceReplicate, List.append_nil] at s ⊢
    exact q_dropX s (ex_call (by walk_at "args") ⟨_, false, rfl, hb, .inr ⟨rfl, rfl⟩⟩) k
/-! ### Empty___init__: slots 0:self 1:jug -/
abbrev s_Empty___init__ : Stmt := inClass (top 15) 0
theorem sc_Empty___init__ : FnScope ["self", "jug"] ["self", "jug"] (defScope s_Empty___init__) := ⟨rfl, rfl, rfl, by decide +kernel, rfl, by decide +kernel, by decide +kernel⟩
theorem ok_Empty___init__ (T : Top K mg C) : MakX P w K mg base 3 "Empty" C.Empty (SpInit C.Empty (R_Jug K C)) := by
  obtain ⟨f, fd, F, hk, hm, hb⟩ := T.i_Empty.ex
  refine ⟨f, fd, _, hk, init_ok F sc_Empty___init__ (by walk_at "len") (fun cdv A outer s H E hr => ⟨_, (pss_cons (ps_expr (pe_cX (ok_check_jug T) hr (by decide) px_of (by rfl) (pa_cons (pv 1) pa_nil))) (pss_cons (ps_fld (pv 0) (pv 1) rfl) pss_nil)), ?_⟩), hm, hb⟩

  rintro p es r F H0 H σ D ⟨S, rfl, ⟨i, hi, rfl, rfl⟩ | ⟨hb, rfl⟩⟩ s k
  · skip
    simp only [J.cx_K, List.length_cons, List.length_nil, List.cons_append, List.nil_append, Nat.reduceAdd, Nat.reduceSub, List.reduceReplicate, List.append_nil] at s ⊢
    refine q_drop s (ev_call (by walk_at "args") ⟨_, true, rfl, w8_nat hi, .inl ⟨rfl, rfl⟩⟩) fun σ F H s => ?_
    refine q_self s rfl (by walk_at "ev") T.f_Empty_jug rfl (Nat.le_of_ble_eq_true rfl) fun σ F H s => ?_
    exact k σ F H _ s rfl
  · skip
    simp only [J.cx_K, List.length_cons, List.length_nil, List.cons_append, List.nil_append, Nat.reduceAdd, Nat.reduceSub, List.reduceReplicate, List.append_nil] at s ⊢
    exact q_dropX s (ex_call (by walk_at "args") ⟨_, false, rfl, hb, .inr ⟨rfl, rfl⟩⟩) k

end
end Jug


namespace Jug
open PySem PySem.Spec L2 PyProof.Rows J
section
variable {P : Program} {w : World} {K : PySem.W.Frag} {mg : Str → Option Value} {base : Heap} {C : Cs}
/-- what is no state of a house -/
def badSt (K : PySem.W.Frag) (z : List Int) (S : Slot) : Prop :=
  (∃ t, TyE K (.v S) t ∧ PySem.W.kitOne K t (.type "tuple") = some false) ∨ (∃ ss, S = tupS ss ∧ ss.length ≠ z.length) ∨
  (∃ (ss : List Slot) (n : Nat), S = tupS ss ∧ ss.length = z.length ∧ n < z.length ∧ (∃ T, ss[n]? = some T ∧ W8 K T 0 (am z n) false) ∧ ∀ m < n, ∃ T, ss[m]? = some T ∧ W8 K T 0 (am z m) true)
def R_check8 (K : PySem.W.Frag) (C : Cs) : Rel := fun es r => ∃ z t S, es = [.v (houseS C z t), .v S] ∧ z.length ≤ 4 ∧ ((∃ x, S = stS x ∧ StOk z x ∧ r = .v nS) ∨ (badSt K z S ∧ r = .x C.BadState))
/-! ### House_check: slots 0:self 1:state 2:jug -/
abbrev s_House_check : Stmt := inClass (top 41) 2
theorem sc_House_check : FnScope ["self", "state", "jug"] ["self", "state"] (defScope s_House_check) := ⟨rfl, rfl, rfl, by decide +kernel, rfl, by decide +kernel, by decide +kernel⟩
theorem ok_House_check (T : Top K mg C) {D : Addr} (M : MetT K D "check" "House.check" s_House_check ["self", "state"]) : MetX P w K mg base 2 D "check" (SpOf (R_check8 K C)) := by
  obtain ⟨f, fd, F, hc, hm, hb⟩ := M.ex
  refine ⟨f, fd, _, hc, hm, fn_ok F sc_House_check (by walk_at "len") (fun cdv A outer s H E hr => ⟨_, (pss_cons (ps_if (PW.pt (pw_or (pt_not (pt_val (pe_callB (kc_isi (K := K) rfl) (by rfl) T.n_isinstance bt_isinstance (pa_cons (pv 1) (pa_cons (pe_bltn (v := .ty "tuple") (by rfl) T.n_tuple bt_tuple rfl) pa_nil))))) (pw_or1 (pt_cmpR (ko_ne (K := K) rfl hr) (pe_callB (kc_len (K := K) rfl) (by rfl) T.n_len bt_len (pa_cons (pv 1) pa_nil)) (pe_callB (kc_len (K := K) rfl) (by rfl) T.n_len bt_len (pa_cons (ke_fld (K := K) rfl (pv 0) rfl) pa_nil)) (nomark _))))) (pss_cons (ps_raiseX rfl tk_of T.x_BadState (by rfl)) pss_nil) pss_nil) (pss_cons (ps_for (passes_of rfl) rfl (pi_range1 (by rfl) T.n_range (pa_cons (pe_callB (kc_len (K := K) rfl) (by rfl) T.n_len bt_len (pa_cons (pv 1) pa_nil)) pa_nil)) (pg_name (i := 2) sc_House_check.nd rfl (Or.inl rfl)) (pss_cons (ps_if (pt_not (pt_val (pe_cX (ok_within T) hr (by decide) px_of (by rfl) (pa_cons (ke_ix (K := K) rfl hr (pv 1) (pv 2) (fun _ _ => rfl) (fun _ _ => rfl)) (pa_cons pe_int (pa_cons (ke_ix (K := K) rfl hr (ke_fld (K := K) rfl (pv 0) rfl) (pv 2) (fun _ _ => rfl) (fun _ _ => rfl)) pa_nil)))))) (pss_cons (ps_raiseX rfl tk_of T.x_BadState (by rfl)) pss_nil) pss_nil) pss_nil)) pss_nil)), ?_⟩), hb⟩

  rintro es r F σ Q ⟨z, t, S, rfl, hz, ⟨x, rfl, hx, rfl⟩ | ⟨hb, rfl⟩⟩ s k
  · skip
    simp only [J.cx_K, List.length_cons, List.length_nil, List.cons_append, List.nil_append, Nat.reduceAdd, Nat.reduceSub, List.reduceReplicate, List.append_nil] at s ⊢
    have hl := hx.len
    refine q_whenF (b := false) s (EvT.to (et_or (et_not (et_B (ev_cb (ea_cons (ev_v rfl) (ea_cons ev_c ea_nil)) (cb_ist isR_v)))) fun _ => et_Test (ev_op (ev_cb (ea_cons (ev_v rfl) ea_nil) (cb_lentM isR_v)) (ev_cb (ea_cons (ev_fld (fs := hoF z t) (ev_v rfl) isR_v T.f_House_told (by walk_at "lk")) ea_nil) (cb_lenM isR_v)) jv_nei)) (by simp; omega)) rfl fun σ F H s => ?_
    refine q_forR (n := x.length) s (ea_cons (ev_cb (ea_cons (ev_v rfl) ea_nil) (cb_lentM isR_v)) ea_nil) (by simp) (by simp; omega) (fun n d => ∃ e, d = [.v (houseS C z t), .v (stS x), e]) ⟨_, rfl⟩ ?_ ?_
    · rintro n δ' σ F H hn ⟨e, rfl⟩ s
      dsimp only [List.set, J.putS, List.nil_append, List.cons_append] at s
      have h1 : x[n]? = some (am x n) := am_get hn
      have h2 : z[n]? = some (am z n) := am_get (by omega)
      have h3 := hx.bd n _ _ h1 h2
      refine q_whenF (b := false) s (et_not (et_B (ev_call (R := R_within8 K) (ea_cons (ev_ix (ev_v rfl) (ev_v rfl) (jx_t (i := (n : Int)) isR_v (by omega) h1)) (ea_cons ev_c (ea_cons (ev_ix (ev_fld (fs := hoF z t) (ev_v rfl) isR_v T.f_House_told (by walk_at "lk")) (ev_v rfl) (jx_l (i := (n : Int)) isR_v (by omega) h2)) ea_nil))) ⟨iS (am x n), 0, am z n, true, rfl, .inl ⟨_, rfl, by simp; omega⟩, rfl⟩))) rfl fun σ F H s => ?_
      exact q_nx s ⟨_, rfl⟩
    · rintro δ' σ F H ⟨e, rfl⟩ s
      exact k .non F H s.g rfl
  · skip
    simp only [J.cx_K, List.length_cons, List.length_nil, List.cons_append, List.nil_append, Nat.reduceAdd, Nat.reduceSub, List.reduceReplicate, List.append_nil] at s ⊢
    rcases hb with ⟨ty, h1, h2⟩ | ⟨ss, rfl, hne⟩ | ⟨ss, n0, rfl, hl, hn0, ⟨T0, hT0, hW0⟩, hbefore⟩
    · refine q_ifT (b := true) s (et_or (b := false) (et_not (et_B (ev_cb (ea_cons (ev_v rfl) (ea_cons ev_c ea_nil)) (cb_isi h1 (.ty _) h2)))) fun h => by cases h) rfl fun σ F H s => ?_
      exact q_raise s k
    · refine q_ifT (b := true) s (EvT.to (et_or (et_not (et_B (ev_cb (ea_cons (ev_v rfl) (ea_cons ev_c ea_nil)) (cb_ist isR_v)))) fun _ => et_Test (ev_op (ev_cb (ea_cons (ev_v rfl) ea_nil) (cb_lent (ss := ss) isR_v)) (ev_cb (ea_cons (ev_fld (fs := hoF z t) (ev_v rfl) isR_v T.f_House_told (by walk_at "lk")) ea_nil) (cb_lenM isR_v)) jv_nei)) (by simp; omega)) rfl fun σ F H s => ?_
      exact q_raise s k
    · refine q_whenF (b := false) s (EvT.to (et_or (et_not (et_B (ev_cb (ea_cons (ev_v rfl) (ea_cons ev_c ea_nil)) (cb_ist isR_v)))) fun _ => et_Test (ev_op (ev_cb (ea_cons (ev_v rfl) ea_nil) (cb_lent (ss := ss) isR_v)) (ev_cb (ea_cons (ev_fld (fs := hoF z t) (ev_v rfl) isR_v T.f_House_told (by walk_at "lk")) ea_nil) (cb_lenM isR_v)) jv_nei)) (by simp; omega)) rfl fun σ F H s => ?_
      refine q_forR (n := ss.length) s (ea_cons (ev_cb (ea_cons (ev_v rfl) ea_nil) (cb_lent (ss := ss) isR_v)) ea_nil) (by simp) (by omega) (fun n d => n ≤ n0 ∧ ∃ e, d = [.v (houseS C z t), .v (tupS ss), e]) ⟨Nat.zero_le _, _, rfl⟩ ?_ ?_
      · rintro n δ' σ F H hn ⟨hle, e, rfl⟩ s
        dsimp only [List.set, J.putS, List.nil_append, List.cons_append] at s
        have h2 : z[n]? = some (am z n) := am_get (by omega)
        by_cases he : n = n0
        · subst he
          refine q_ifT (b := true) s (et_not (et_B (ev_call (R := R_within8 K) (ea_cons (ev_ix (ev_v rfl) (ev_v rfl) (jx_ts (i := (n : Int)) isR_v (by omega) hT0)) (ea_cons ev_c (ea_cons (ev_ix (ev_fld (fs := hoF z t) (ev_v rfl) isR_v T.f_House_told (by walk_at "lk")) (ev_v rfl) (jx_l (i := (n : Int)) isR_v (by omega) h2)) ea_nil))) ⟨T0, 0, am z n, false, rfl, hW0, rfl⟩))) rfl fun σ F H s => ?_
          exact q_raise s k
        · obtain ⟨T1, hT1, hW1⟩ := hbefore n (by omega)
          refine q_whenF (b := false) s (et_not (et_B (ev_call (R := R_within8 K) (ea_cons (ev_ix (ev_v rfl) (ev_v rfl) (jx_ts (i := (n : Int)) isR_v (by omega) hT1)) (ea_cons ev_c (ea_cons (ev_ix (ev_fld (fs := hoF z t) (ev_v rfl) isR_v T.f_House_told (by walk_at "lk")) (ev_v rfl) (jx_l (i := (n : Int)) isR_v (by omega) h2)) ea_nil))) ⟨T1, 0, am z n, true, rfl, hW1, rfl⟩))) rfl fun σ F H s => ?_
          exact q_nx s ⟨by omega, _, rfl⟩
      · rintro δ' σ F H ⟨hle, e, rfl⟩ s
        omega

/-- what makes no house -/
def badHouse (K : PySem.W.Frag) (S1 S2 : Slot) : Prop :=
  (∃ t, TyE K (.v S1) t ∧ PySem.W.kitOne K t (.type "list") = some false) ∨ (∃ ss, S1 = lstS ss ∧ ¬ (1 ≤ ss.length ∧ ss.length ≤ 4)) ∨
  (∃ ss t, S1 = lstS ss ∧ (1 ≤ ss.length ∧ ss.length ≤ 4) ∧ TyE K (.v S2) t ∧ PySem.W.kitOne K t (.type "bool") = some false) ∨
  (∃ (S : Slot) (b : Bool), S1 = lstS [S] ∧ S2 = bS b ∧ W8 K S 1 60 false) ∨
  (∃ (z : List Int) (b : Bool), S1 = intsS z ∧ S2 = bS b ∧ (1 ≤ z.length ∧ z.length ≤ 4) ∧ (∀ a ∈ z, 1 ≤ a ∧ a ≤ 60) ∧ 2000 < prodTo z z.length)
def R_House (K : PySem.W.Frag) (C : Cs) : RelI := fun es r => ∃ S1 S2, es = [.v S1, .v S2] ∧ ((∃ z b, S1 = intsS z ∧ S2 = bS b ∧ HouseOk z ∧ r = .ok (hoF z b)) ∨ (badHouse K S1 S2 ∧ r = .error C.BadHouse))
theorem house_ok {K : PySem.W.Frag} {C : Cs} {z : List Int} {b : Bool} (h : HouseOk z) : R_House K C [.v (intsS z), .v (bS b)] (.ok (hoF z b)) := ⟨_, _, rfl, .inl ⟨z, b, rfl, rfl, h, rfl⟩⟩
theorem house_bad {K : PySem.W.Frag} {C : Cs} {S1 S2 : Slot} (h : badHouse K S1 S2) : R_House K C [.v S1, .v S2] (.error C.BadHouse) := ⟨_, _, rfl, .inr ⟨h, rfl⟩⟩
theorem et_len {K : PySem.W.Frag} {δ : List Ent} {ss : List Slot} {i : Nat} (h : δ[i]? = some (.v (lstS ss))) : EvT (tTest (tChain (rI0 fun i j => .bl (decide (i ≤ j))) (rI0 fun i j => .bl (decide (i ≤ j))) (tC (.int 1)) (tCB (rLenJ K) (tCons (tVar i) tNil)) (tC (.int 4)))) δ (decide ((1 : Int) ≤ (ss.length : Int)) && decide ((ss.length : Int) ≤ 4)) :=
  et_Test (ev_chain ev_c (ev_cb (ea_cons (ev_v h) ea_nil) (cb_len isR_v)) (fun _ => ev_c) op_I0 (fun _ => op_I0))
/-! ### House___init__: slots 0:self 1:sizes 2:tap 3:states 4:size -/
abbrev s_House___init__ : Stmt := inClass (top 41) 0
theorem sc_House___init__ : FnScope ["self", "sizes", "tap", "states", "size"] ["self", "sizes", "tap"] (defScope s_House___init__) := ⟨rfl, rfl, rfl, by decide +kernel, rfl, by decide +kernel, by decide +kernel⟩
theorem ok_House___init__ (T : Top K mg C) : MakX P w K mg base 2 "House" C.House (SpInit C.House (R_House K C)) := by
  obtain ⟨f, fd, F, hk, hm, hb⟩ := T.i_House.ex
  refine ⟨f, fd, _, hk, init_ok F sc_House___init__ (by walk_at "len") (fun cdv A outer s H E hr => ⟨_, (pss_cons (ps_if (PW.pt (pw_or (pt_not (pt_val (pe_callB (kc_isi (K := K) rfl) (by rfl) T.n_isinstance bt_isinstance (pa_cons (pv 1) (pa_cons (pe_bltn (v := .ty "list") (by rfl) T.n_list bt_list rfl) pa_nil))))) (pw_or (pt_not (pt_chain op_le op_le pe_int (pe_callB (kc_len (K := K) rfl) (by rfl) T.n_len bt_len (pa_cons (pv 1) pa_nil)) (C8.pe_gc (by rfl) T.g_MOST_JUGS))) (pw_or1 (pt_not (pt_val (pe_callB (kc_isi (K := K) rfl) (by rfl) T.n_isinstance bt_isinstance (pa_cons (pv 2) (pa_cons (pe_bltn (v := .ty "bool") (by rfl) T.n_bool bt_bool rfl) pa_nil))))))))) (pss_cons (ps_raiseX rfl tk_of T.x_BadHouse (by rfl)) pss_nil) pss_nil) (pss_cons (ps_set (i := 3) sc_House___init__.nd rfl (Or.inl rfl) pe_int) (pss_cons (ps_for (passes_of rfl) rfl (ki_any (K := K) rfl (pv 1)) (pg_name (i := 4) sc_House___init__.nd rfl (Or.inl rfl)) (pss_cons (ps_if (pt_not (pt_val (pe_cX (ok_within T) hr (by decide) px_of (by rfl) (pa_cons (pv 4) (pa_cons pe_int (pa_cons (C8.pe_gc (by rfl) T.g_GREATEST_houses) pa_nil)))))) (pss_cons (ps_raiseX rfl tk_of T.x_BadHouse (by rfl)) pss_nil) pss_nil) (pss_cons (ps_set (i := 3) sc_House___init__.nd rfl (Or.inl rfl) (pe_op jo_mul (pv 3) (pe_op (ko_add (K := K) rfl) (pv 4) pe_int))) pss_nil))) (pss_cons (ps_if (pt_cmpR op_gt (pv 3) (C8.pe_gc (by rfl) T.g_MOST_STATES) (nomark _)) (pss_cons (ps_raiseX rfl tk_of T.x_BadHouse (by rfl)) pss_nil) pss_nil) (pss_cons (ps_fld (pv 0) (pe_callTy (kc_list (K := K) rfl) (by rfl) T.n_list bt_list (pa_cons (pv 1) pa_nil)) rfl) (pss_cons (ps_fld (pv 0) (pv 2) rfl) pss_nil)))))), ?_⟩), hm, hb⟩

  rintro p es r F H0 H σ D ⟨S1, S2, rfl, ⟨z, t, rfl, rfl, hz, rfl⟩ | ⟨hb, rfl⟩⟩ s k
  · skip
    simp only [J.cx_K, List.length_cons, List.length_nil, List.cons_append, List.nil_append, Nat.reduceAdd, Nat.reduceSub, List.reduceReplicate, List.append_nil] at s ⊢
    have hz1 := hz.l1
    have hz4 := hz.l4
    refine q_whenF (b := false) s (EvT.to (et_or (et_not (et_B (ev_cb (ea_cons (ev_v rfl) (ea_cons ev_c ea_nil)) (cb_isl isR_v)))) fun _ => et_or (et_not (et_len rfl)) fun _ => et_not (et_B (ev_cb (ea_cons (ev_v rfl) (ea_cons ev_c ea_nil)) (cb_isi ty_bl (.ty _) kt_bb)))) (by simp; omega)) rfl fun σ F H s => ?_
    refine q_set s (S := iS 1) ev_c fun σ F H s => ?_
    dsimp only [List.set, J.putS, List.nil_append, List.cons_append] at s
    refine q_forL s (ev_v rfl) (fun n d => ∃ e, d = [.ow (selO p C.House []), .v (intsS z), .v (bS t), .v (iS (prodTo z n)), e]) ⟨_, rfl⟩ ?_ ?_
    · rintro F1 bs n T' δ' σ F H hT ⟨e, rfl⟩ s
      obtain ⟨a, ha, rfl⟩ := mapGet hT
      have hb := hz.sz a (List.mem_of_getElem? ha)
      dsimp only [List.set, J.putS, List.nil_append, List.cons_append] at s
      refine q_whenF (b := false) s (et_not (et_B (ev_call (R := R_within8 K) (ea_cons (ev_v rfl) (ea_cons ev_c (ea_cons ev_c ea_nil))) ⟨iS a, 1, 60, true, rfl, .inl ⟨_, rfl, by simp; omega⟩, rfl⟩))) rfl fun σ F H s => ?_
      refine q_set s (S := iS (prodTo z n * (a + 1))) (ev_op (ev_v rfl) (ev_op (ev_v rfl) ev_c jv_add) (op_I (.inr (by omega)))) fun σ F H s => ?_
      exact q_nx s ⟨_, by rw [prodTo_succ ha]; rfl⟩
    · rintro δ' σ F H ⟨e, rfl⟩ s
      rw [List.length_map] at s
      have hp := hz.pr
      refine q_whenF (b := false) s (EvT.to (et_Test (ev_op (ev_v rfl) ev_c op_I0)) (by simp; omega)) rfl fun σ F H s => ?_
      refine q_self s rfl (eo_cb (ea_cons (ev_v rfl) ea_nil) (kb_list isR_v)).v T.f_House_told rfl (Nat.le_of_ble_eq_true rfl) fun σ F H s => ?_
      dsimp only [List.set, J.putS, List.nil_append, List.cons_append] at s
      refine q_self s rfl (ev_v rfl) T.f_House_tap (by walk_at "lk") (Nat.le_of_ble_eq_true rfl) fun σ F H s => ?_
      exact k σ F H _ s rfl
  · skip
    simp only [J.cx_K, List.length_cons, List.length_nil, List.cons_append, List.nil_append, Nat.reduceAdd, Nat.reduceSub, List.reduceReplicate, List.append_nil] at s ⊢
    rcases hb with ⟨ty, h1, h2⟩ | ⟨ss, rfl, hl⟩ | ⟨ss, ty, rfl, hl, h1, h2⟩ | ⟨S, t, rfl, rfl, hW⟩ | ⟨z, t, rfl, rfl, hl, hz, hp⟩
    · refine q_ifT (b := true) s (et_or (b := false) (et_not (et_B (ev_cb (ea_cons (ev_v rfl) (ea_cons ev_c ea_nil)) (cb_isi h1 (.ty _) h2)))) fun h => by cases h) rfl fun σ F H s => ?_
      exact q_raise s k
    · have hb : (!(decide ((1 : Int) ≤ (ss.length : Int)) && decide ((ss.length : Int) ≤ 4))) = true := by simp; omega
      refine q_ifT (b := true) s (EvT.to (et_or (et_not (et_B (ev_cb (ea_cons (ev_v rfl) (ea_cons ev_c ea_nil)) (cb_isl isR_v)))) fun _ => et_or (b := false) (et_not (et_len rfl)) fun h => absurd h (by rw [hb]; decide)) (by rw [hb]; rfl)) rfl fun σ F H s => ?_
      exact q_raise s k
    · refine q_ifT (b := true) s (EvT.to (et_or (et_not (et_B (ev_cb (ea_cons (ev_v rfl) (ea_cons ev_c ea_nil)) (cb_isl isR_v)))) fun _ => et_or (et_not (et_len rfl)) fun _ => et_not (et_B (ev_cb (ea_cons (ev_v rfl) (ea_cons ev_c ea_nil)) (cb_isi h1 (.ty _) h2)))) (by simp)) rfl fun σ F H s => ?_
      exact q_raise s k
    · refine q_whenF (b := false) s (EvT.to (et_or (et_not (et_B (ev_cb (ea_cons (ev_v rfl) (ea_cons ev_c ea_nil)) (cb_isl isR_v)))) fun _ => et_or (et_not (et_len rfl)) fun _ => et_not (et_B (ev_cb (ea_cons (ev_v rfl) (ea_cons ev_c ea_nil)) (cb_isi ty_bl (.ty _) kt_bb)))) (by simp)) rfl fun σ F H s => ?_
      refine q_set s (S := iS 1) ev_c fun σ F H s => ?_
      dsimp only [List.set, J.putS, List.nil_append, List.cons_append] at s
      refine q_forL s (ev_v rfl) (fun n d => n = 0 ∧ ∃ e, d = [.ow (selO p C.House []), .v (lstS [S]), .v (bS t), .v (iS 1), e]) ⟨rfl, _, rfl⟩ ?_ ?_
      · rintro F1 bs n T' δ' σ F H hT ⟨rfl, e, rfl⟩ s
        have e1 : T' = S := by simpa using hT.symm
        subst e1
        dsimp only [List.set, J.putS, List.nil_append, List.cons_append] at s
        refine q_ifT (b := true) s (et_not (et_B (ev_call (R := R_within8 K) (ea_cons (ev_v rfl) (ea_cons ev_c (ea_cons ev_c ea_nil))) ⟨T', 1, 60, false, rfl, hW, rfl⟩))) rfl fun σ F H s => ?_
        exact q_raise s fun F' H' g => k F' H' (bs g)
      · rintro δ' σ F H ⟨h, _⟩ s
        cases h
    · refine q_whenF (b := false) s (EvT.to (et_or (et_not (et_B (ev_cb (ea_cons (ev_v rfl) (ea_cons ev_c ea_nil)) (cb_isl isR_v)))) fun _ => et_or (et_not (et_len rfl)) fun _ => et_not (et_B (ev_cb (ea_cons (ev_v rfl) (ea_cons ev_c ea_nil)) (cb_isi ty_bl (.ty _) kt_bb)))) (by simp; omega)) rfl fun σ F H s => ?_
      refine q_set s (S := iS 1) ev_c fun σ F H s => ?_
      dsimp only [List.set, J.putS, List.nil_append, List.cons_append] at s
      refine q_forL s (ev_v rfl) (fun n d => ∃ e, d = [.ow (selO p C.House []), .v (intsS z), .v (bS t), .v (iS (prodTo z n)), e]) ⟨_, rfl⟩ ?_ ?_
      · rintro F1 bs n T' δ' σ F H hT ⟨e, rfl⟩ s
        obtain ⟨a, ha, rfl⟩ := mapGet hT
        have hb := hz a (List.mem_of_getElem? ha)
        dsimp only [List.set, J.putS, List.nil_append, List.cons_append] at s
        refine q_whenF (b := false) s (et_not (et_B (ev_call (R := R_within8 K) (ea_cons (ev_v rfl) (ea_cons ev_c (ea_cons ev_c ea_nil))) ⟨iS a, 1, 60, true, rfl, .inl ⟨_, rfl, by simp; omega⟩, rfl⟩))) rfl fun σ F H s => ?_
        refine q_set s (S := iS (prodTo z n * (a + 1))) (ev_op (ev_v rfl) (ev_op (ev_v rfl) ev_c jv_add) (op_I (.inr (by omega)))) fun σ F H s => ?_
        exact q_nx s ⟨_, by rw [prodTo_succ ha]; rfl⟩
      · rintro δ' σ F H ⟨e, rfl⟩ s
        rw [List.length_map] at s
        refine q_ifT (b := true) s (EvT.to (et_Test (ev_op (ev_v rfl) ev_c op_I0)) (by simp; omega)) rfl fun σ F H s => ?_
        exact q_raise s k
def R_sizes (C : Cs) : Rel := fun es r => ∃ z t, es = [.v (houseS C z t)] ∧ r = .o (lstO (z.map iS))
/-! ### House_sizes: slots 0:self -/
abbrev s_House_sizes : Stmt := inClass (top 41) 1
theorem sc_House_sizes : FnScope ["self"] ["self"] (defScope s_House_sizes) := ⟨rfl, rfl, rfl, by decide +kernel, rfl, by decide +kernel, by decide +kernel⟩
theorem ok_House_sizes (T : Top K mg C) {D : Addr} (M : MetT K D "sizes" "House.sizes" s_House_sizes ["self"]) : MetX P w K mg base 1 D "sizes" (SpOf (R_sizes C)) := by
  obtain ⟨f, fd, F, hc, hm, hb⟩ := M.ex
  refine ⟨f, fd, _, hc, hm, fn_ok F sc_House_sizes (by walk_at "len") (fun cdv A outer s H E hr => ⟨_, (pss_cons (ps_ret (pe_callTy (kc_list (K := K) rfl) (by rfl) T.n_list bt_list (pa_cons (ke_fld (K := K) rfl (pv 0) rfl) pa_nil))) pss_nil), ?_⟩), hb⟩

  rintro es r F σ Q ⟨z, t, rfl, rfl⟩ s k
  simp only [J.cx_K, List.length_cons, List.length_nil, List.cons_append, List.nil_append, Nat.reduceAdd, Nat.reduceSub, List.reduceReplicate, List.append_nil] at s ⊢
  exact q_retO s (eo_cb (by walk_at "args") (kb_list (by walk_at "isr"))) k

end
end Jug


namespace Jug
open PySem PySem.Spec L2 PyProof.Rows J
section
variable {P : Program} {w : World} {K : PySem.W.Frag} {mg : Str → Option Value} {base : Heap} {C : Cs}
/-! ### fits, behind -/
def fitsB : Mv → Bool → Nat → Bool
  | .pour i j, _, n => decide (max (i : Int) (j : Int) < (n : Int))
  | .fill i, t, n => t && decide ((i : Int) < (n : Int))
  | .empty i, t, n => t && decide ((i : Int) < (n : Int))
def R_fits (C : Cs) (m : Mv) : Rel := fun es r => ∃ z t, es = [.v (moveS C m), .v (intsS z), .v (bS t)] ∧ r = .v (bS (fitsB m t z.length))
def R_fitsP (C : Cs) : Rel := fun es r => ∃ i j, R_fits C (.pour i j) es r
def R_fitsF (C : Cs) : Rel := fun es r => ∃ i, R_fits C (.fill i) es r
def R_fitsE (C : Cs) : Rel := fun es r => ∃ i, R_fits C (.empty i) es r
/-! ### Pour_fits: slots 0:self 1:sizes 2:tap -/
abbrev s_Pour_fits : Stmt := inClass (top 13) 1
theorem sc_Pour_fits : FnScope ["self", "sizes", "tap"] ["self", "sizes", "tap"] (defScope s_Pour_fits) := ⟨rfl, rfl, rfl, by decide +kernel, rfl, by decide +kernel, by decide +kernel⟩
theorem ok_Pour_fits (T : Top K mg C) {D : Addr} (M : MetT K D "fits" "Pour.fits" s_Pour_fits ["self", "sizes", "tap"]) : MetX P w K mg base 1 D "fits" (SpOf (R_fitsP C)) := by
  obtain ⟨f, fd, F, hc, hm, hb⟩ := M.ex
  refine ⟨f, fd, _, hc, hm, fn_ok F sc_Pour_fits (by walk_at "len") (fun cdv A outer s H E hr => ⟨_, (pss_cons (ps_ret (pe_cmpR op_lt (pe_callB (kc_max2 rfl) (by rfl) T.n_max bt_max (pa_cons (ke_fld (K := K) rfl (pv 0) rfl) (pa_cons (ke_fld (K := K) rfl (pv 0) rfl) pa_nil))) (pe_callB (kc_len (K := K) rfl) (by rfl) T.n_len bt_len (pa_cons (pv 1) pa_nil)) (nomark _))) pss_nil), ?_⟩), hb⟩

  rintro es r F σ Q ⟨i, j, z, t, rfl, rfl⟩ s k
  simp only [J.cx_K, List.length_cons, List.length_nil, List.cons_append, List.nil_append, Nat.reduceAdd, Nat.reduceSub, List.reduceReplicate, List.append_nil] at s ⊢
  refine q_ret s (EvE.to (by walk_at "ev") ?_) k
  rfl
/-! ### Fill_fits: slots 0:self 1:sizes 2:tap -/
abbrev s_Fill_fits : Stmt := inClass (top 14) 1
theorem sc_Fill_fits : FnScope ["self", "sizes", "tap"] ["self", "sizes", "tap"] (defScope s_Fill_fits) := ⟨rfl, rfl, rfl, by decide +kernel, rfl, by decide +kernel, by decide +kernel⟩
theorem ok_Fill_fits (T : Top K mg C) {D : Addr} (M : MetT K D "fits" "Fill.fits" s_Fill_fits ["self", "sizes", "tap"]) : MetX P w K mg base 1 D "fits" (SpOf (R_fitsF C)) := by
  obtain ⟨f, fd, F, hc, hm, hb⟩ := M.ex
  refine ⟨f, fd, _, hc, hm, fn_ok F sc_Fill_fits (by walk_at "len") (fun cdv A outer s H E hr => ⟨_, (pss_cons (ps_ret (pe_and (pv 2) (pe_one (pe_cmpR op_lt (ke_fld (K := K) rfl (pv 0) rfl) (pe_callB (kc_len (K := K) rfl) (by rfl) T.n_len bt_len (pa_cons (pv 1) pa_nil)) (nomark _))))) pss_nil), ?_⟩), hb⟩

  rintro es r F σ Q ⟨i, z, t, rfl, rfl⟩ s k
  simp only [J.cx_K, List.length_cons, List.length_nil, List.cons_append, List.nil_append, Nat.reduceAdd, Nat.reduceSub, List.reduceReplicate, List.append_nil] at s ⊢
  refine q_ret s (EvE.to (by walk_at "ev") ?_) k
  rfl
/-! ### Empty_fits: slots 0:self 1:sizes 2:tap -/
abbrev s_Empty_fits : Stmt := inClass (top 15) 1
theorem sc_Empty_fits : FnScope ["self", "sizes", "tap"] ["self", "sizes", "tap"] (defScope s_Empty_fits) := ⟨rfl, rfl, rfl, by decide +kernel, rfl, by decide +kernel, by decide +kernel⟩
theorem ok_Empty_fits (T : Top K mg C) {D : Addr} (M : MetT K D "fits" "Empty.fits" s_Empty_fits ["self", "sizes", "tap"]) : MetX P w K mg base 1 D "fits" (SpOf (R_fitsE C)) := by
  obtain ⟨f, fd, F, hc, hm, hb⟩ := M.ex
  refine ⟨f, fd, _, hc, hm, fn_ok F sc_Empty_fits (by walk_at "len") (fun cdv A outer s H E hr => ⟨_, (pss_cons (ps_ret (pe_and (pv 2) (pe_one (pe_cmpR op_lt (ke_fld (K := K) rfl (pv 0) rfl) (pe_callB (kc_len (K := K) rfl) (by rfl) T.n_len bt_len (pa_cons (pv 1) pa_nil)) (nomark _))))) pss_nil), ?_⟩), hb⟩

  rintro es r F σ Q ⟨i, z, t, rfl, rfl⟩ s k
  simp only [J.cx_K, List.length_cons, List.length_nil, List.cons_append, List.nil_append, Nat.reduceAdd, Nat.reduceSub, List.reduceReplicate, List.append_nil] at s ⊢
  refine q_ret s (EvE.to (by walk_at "ev") ?_) k
  rfl
def R_with_amount : Rel := fun es r => ∃ (x : List Int) (j : Nat) (a : Int), es = [.v (stS x), .v (iS (j : Int)), .v (iS a)] ∧ j < x.length ∧ x.length ≤ 1000 ∧ r = .v (stS (x.set j a))
/-! ### with_amount: slots 0:state 1:jug 2:many -/
abbrev s_with_amount : Stmt := top 12
theorem sc_with_amount : FnScope ["state", "jug", "many"] ["state", "jug", "many"] (defScope s_with_amount) := ⟨rfl, rfl, rfl, by decide +kernel, rfl, by decide +kernel, by decide +kernel⟩
theorem ok_with_amount (T : Top K mg C) : CalX P w K mg base 1 "with_amount" (SpOf R_with_amount) := by
  obtain ⟨f, fd, F, hm, hb⟩ := T.d_with_amount.ex
  refine ⟨f, fd, _, fn_ok F sc_with_amount (by walk_at "len") (fun cdv A outer s H E hr => ⟨_, (pss_cons (ps_ret (pe_op (ko_add (K := K) rfl) (pe_op (ko_add (K := K) rfl) (pe_slice (ko_sl (K := K) rfl) (pv 0) po_none (po_some (pv 1))) (pe_tup (pa_cons (pv 2) pa_nil))) (pe_slice (ko_sl (K := K) rfl) (pv 0) (po_some (pe_op (ko_add (K := K) rfl) (pv 1) pe_int)) po_none))) pss_nil), ?_⟩), hm, F.kp, hb⟩

  rintro es r F σ Q ⟨x, j, a, rfl, hj, hx, rfl⟩ s k
  simp only [J.cx_K, List.length_cons, List.length_nil, List.cons_append, List.nil_append, Nat.reduceAdd, Nat.reduceSub, List.reduceReplicate, List.append_nil] at s ⊢
  have h1 : EvE (tSl (rSlJ K) (tVar 0) tNoPart (tPart (tVar 1))) [Ent.v (stS x), Ent.v (iS (j : Int)), Ent.v (iS a)] (.v (tupS ((x.map iS).take j))) := EvE.to (ev_slt (by walk_at "ev") eo_none (eo_some (by walk_at "ev"))) (by rw [cut_to])
  have h0 : EvE (tOp (rAddJ K) (tVar 1) (tC (V.int 1))) [Ent.v (stS x), Ent.v (iS (j : Int)), Ent.v (iS a)] (.v (iS ((j + 1 : Nat) : Int))) := by
    apply J.ev_op
    walk_at "ev"
    walk_at "ev"
    exact J.jv_add
  have h2 : EvE (tSl (rSlJ K) (tVar 0) (tPart (tOp (rAddJ K) (tVar 1) (tC (V.int 1)))) tNoPart) [Ent.v (stS x), Ent.v (iS (j : Int)), Ent.v (iS a)] (.v (tupS ((x.map iS).drop (j + 1)))) :=
    EvE.to (ev_slt (by walk_at "ev") (eo_some h0) eo_none) (by rw [cut_from])
  have h3 : EvE (tTup (tCons (tVar 2) tNil)) [Ent.v (stS x), Ent.v (iS (j : Int)), Ent.v (iS a)] (.v (tupS [iS a])) := by walk_at "ev"
  refine q_ret s (EvE.to (ev_op (ev_op h1 h3 (jv_addt ?_)) h2 (jv_addt ?_)) ?_) k
  · simp; omega
  · simp; omega
  · congr 2
    rw [← List.map_take, ← List.map_drop, List.set_eq_take_append_cons_drop, if_pos hj]
    simp

/-- the state behind a move -/
def behind (z x : List Int) : Mv → List Int
  | .pour i j => (x.set i (am x i - min (am x i) (am z j - am x j))).set j (am x j + min (am x i) (am z j - am x j))
  | .fill i => x.set i (am z i)
  | .empty i => x.set i 0
def inN : Mv → Nat → Prop
  | .pour i j, n => i < n ∧ j < n ∧ i ≠ j
  | .fill i, n => i < n
  | .empty i, n => i < n
def R_behind (C : Cs) (m : Mv) : Rel := fun es r => ∃ z x, es = [.v (moveS C m), .v (intsS z), .v (stS x)] ∧ (inN m z.length ∧ x.length = z.length ∧ z.length ≤ 4) ∧ r = .v (stS (behind z x m))
def R_behindP (C : Cs) : Rel := fun es r => ∃ i j, R_behind C (.pour i j) es r
def R_behindF (C : Cs) : Rel := fun es r => ∃ i, R_behind C (.fill i) es r
def R_behindE (C : Cs) : Rel := fun es r => ∃ i, R_behind C (.empty i) es r
/-! ### Pour_behind: slots 0:self 1:sizes 2:state 3:much 4:less -/
abbrev s_Pour_behind : Stmt := inClass (top 13) 2
theorem sc_Pour_behind : FnScope ["self", "sizes", "state", "much", "less"] ["self", "sizes", "state"] (defScope s_Pour_behind) := ⟨rfl, rfl, rfl, by decide +kernel, rfl, by decide +kernel, by decide +kernel⟩
theorem ok_Pour_behind (T : Top K mg C) {D : Addr} (M : MetT K D "behind" "Pour.behind" s_Pour_behind ["self", "sizes", "state"]) : MetX P w K mg base 2 D "behind" (SpOf (R_behindP C)) := by
  obtain ⟨f, fd, F, hc, hm, hb⟩ := M.ex
  refine ⟨f, fd, _, hc, hm, fn_ok F sc_Pour_behind (by walk_at "len") (fun cdv A outer s H E hr => ⟨_, (pss_cons (ps_set (i := 3) sc_Pour_behind.nd rfl (Or.inl rfl) (pe_callB (kc_min2 rfl) (by rfl) T.n_min bt_min (pa_cons (ke_ix (K := K) rfl hr (pv 2) (ke_fld (K := K) rfl (pv 0) rfl) (fun _ _ => rfl) (fun _ _ => rfl)) (pa_cons (pe_op op_sub (ke_ix (K := K) rfl hr (pv 1) (ke_fld (K := K) rfl (pv 0) rfl) (fun _ _ => rfl) (fun _ _ => rfl)) (ke_ix (K := K) rfl hr (pv 2) (ke_fld (K := K) rfl (pv 0) rfl) (fun _ _ => rfl) (fun _ _ => rfl))) pa_nil)))) (pss_cons (ps_set (i := 4) sc_Pour_behind.nd rfl (Or.inl rfl) (pe_cX (ok_with_amount T) hr (by decide) px_of (by rfl) (pa_cons (pv 2) (pa_cons (ke_fld (K := K) rfl (pv 0) rfl) (pa_cons (pe_op op_sub (ke_ix (K := K) rfl hr (pv 2) (ke_fld (K := K) rfl (pv 0) rfl) (fun _ _ => rfl) (fun _ _ => rfl)) (pv 3)) pa_nil))))) (pss_cons (ps_ret (pe_cX (ok_with_amount T) hr (by decide) px_of (by rfl) (pa_cons (pv 4) (pa_cons (ke_fld (K := K) rfl (pv 0) rfl) (pa_cons (pe_op (ko_add (K := K) rfl) (ke_ix (K := K) rfl hr (pv 2) (ke_fld (K := K) rfl (pv 0) rfl) (fun _ _ => rfl) (fun _ _ => rfl)) (pv 3)) pa_nil))))) pss_nil))), ?_⟩), hb⟩

  rintro es r F σ Q ⟨i, j, z, x, rfl, ⟨⟨hi, hj, hij⟩, hx, hz⟩, rfl⟩ s k
  simp only [J.cx_K, List.length_cons, List.length_nil, List.cons_append, List.nil_append, Nat.reduceAdd, Nat.reduceSub, List.reduceReplicate, List.append_nil] at s ⊢
  have h1 := am_get (x := x) (i := i) (by omega)
  have h2 := am_get (x := x) (i := j) (by omega)
  have h3 := am_get (x := z) (i := j) (by omega)
  refine q_set s (by walk_at "ev") fun σ F H s => ?_
  dsimp only [List.set, J.putS, List.nil_append, List.cons_append] at s
  refine q_set s (ev_call (by walk_at "args") ⟨x, i, _, rfl, by omega, by omega, rfl⟩) fun σ F H s => ?_
  dsimp only [List.set, J.putS, List.nil_append, List.cons_append] at s
  refine q_ret s (ev_call (by walk_at "args") ⟨_, j, _, rfl, by rw [List.length_set]; omega, by rw [List.length_set]; omega, rfl⟩) k
/-! ### Fill_behind: slots 0:self 1:sizes 2:state -/
abbrev s_Fill_behind : Stmt := inClass (top 14) 2
theorem sc_Fill_behind : FnScope ["self", "sizes", "state"] ["self", "sizes", "state"] (defScope s_Fill_behind) := ⟨rfl, rfl, rfl, by decide +kernel, rfl, by decide +kernel, by decide +kernel⟩
theorem ok_Fill_behind (T : Top K mg C) {D : Addr} (M : MetT K D "behind" "Fill.behind" s_Fill_behind ["self", "sizes", "state"]) : MetX P w K mg base 2 D "behind" (SpOf (R_behindF C)) := by
  obtain ⟨f, fd, F, hc, hm, hb⟩ := M.ex
  refine ⟨f, fd, _, hc, hm, fn_ok F sc_Fill_behind (by walk_at "len") (fun cdv A outer s H E hr => ⟨_, (pss_cons (ps_ret (pe_cX (ok_with_amount T) hr (by decide) px_of (by rfl) (pa_cons (pv 2) (pa_cons (ke_fld (K := K) rfl (pv 0) rfl) (pa_cons (ke_ix (K := K) rfl hr (pv 1) (ke_fld (K := K) rfl (pv 0) rfl) (fun _ _ => rfl) (fun _ _ => rfl)) pa_nil))))) pss_nil), ?_⟩), hb⟩

  rintro es r F σ Q ⟨i, z, x, rfl, ⟨hi, hx, hz⟩, rfl⟩ s k
  have hi : i < z.length := hi
  simp only [J.cx_K, List.length_cons, List.length_nil, List.cons_append, List.nil_append, Nat.reduceAdd, Nat.reduceSub, List.reduceReplicate, List.append_nil] at s ⊢
  have h3 := am_get (x := z) (i := i) hi
  refine q_ret s (ev_call (by walk_at "args") ⟨x, i, _, rfl, by omega, by omega, rfl⟩) k
/-! ### Empty_behind: slots 0:self 1:sizes 2:state -/
abbrev s_Empty_behind : Stmt := inClass (top 15) 2
theorem sc_Empty_behind : FnScope ["self", "sizes", "state"] ["self", "sizes", "state"] (defScope s_Empty_behind) := ⟨rfl, rfl, rfl, by decide +kernel, rfl, by decide +kernel, by decide +kernel⟩
theorem ok_Empty_behind (T : Top K mg C) {D : Addr} (M : MetT K D "behind" "Empty.behind" s_Empty_behind ["self", "sizes", "state"]) : MetX P w K mg base 2 D "behind" (SpOf (R_behindE C)) := by
  obtain ⟨f, fd, F, hc, hm, hb⟩ := M.ex
  refine ⟨f, fd, _, hc, hm, fn_ok F sc_Empty_behind (by walk_at "len") (fun cdv A outer s H E hr => ⟨_, (pss_cons (ps_ret (pe_cX (ok_with_amount T) hr (by decide) px_of (by rfl) (pa_cons (pv 2) (pa_cons (ke_fld (K := K) rfl (pv 0) rfl) (pa_cons pe_int pa_nil))))) pss_nil), ?_⟩), hb⟩

  rintro es r F σ Q ⟨i, z, x, rfl, ⟨hi, hx, hz⟩, rfl⟩ s k
  have hi : i < z.length := hi
  simp only [J.cx_K, List.length_cons, List.length_nil, List.cons_append, List.nil_append, Nat.reduceAdd, Nat.reduceSub, List.reduceReplicate, List.append_nil] at s ⊢
  refine q_ret s (ev_call (by walk_at "args") ⟨x, i, _, rfl, by omega, by omega, rfl⟩) k

/-! ### done -/
def R_done (K : PySem.W.Frag) (C : Cs) : Rel := fun es r => ∃ m z t S, es = [.v (moveS C m), .v (houseS C z t), .v S] ∧ z.length ≤ 4 ∧
  ((badSt K z S ∧ r = .x C.BadState) ∨ (∃ x, S = stS x ∧ StOk z x ∧ ((fitsB m t z.length = false ∧ r = .x C.BadMove) ∨ (fitsB m t z.length = true ∧ inN m z.length ∧ r = .v (stS (behind z x m))))))
theorem ev_fits {E : XK} {to : TE} {ta : TA} {δ : List Ent} {z : List Int} {t : Bool} {m : Mv} (h : EvE to δ (.v (moveS C m))) (ha : EvAs ta δ [.v (intsS z), .v (bS t)]) :
    EvE (fun σ H Q => tMeth C.Pour "fits" (SpOf (R_fitsP C)) [] E to ta σ H Q ∨ (fun σ H Q => tMeth C.Fill "fits" (SpOf (R_fitsF C)) [] E to ta σ H Q ∨ tMeth C.Empty "fits" (SpOf (R_fitsE C)) [] E to ta σ H Q) σ H Q) δ (.v (bS (fitsB m t z.length))) := by
  cases m with
  | pour i j => exact ev_orl (ev_meth (fs := pourF i j) h (by walk_at "lk") ha ⟨i, j, z, t, rfl, rfl⟩)
  | fill i => exact ev_orr (ev_orl (ev_meth (fs := jugF i) h (by walk_at "lk") ha ⟨i, z, t, rfl, rfl⟩))
  | empty i => exact ev_orr (ev_orr (ev_meth (fs := jugF i) h (by walk_at "lk") ha ⟨i, z, t, rfl, rfl⟩))
/-! ### Move_done: slots 0:self 1:house 2:state -/
abbrev s_Move_done : Stmt := inClass (top 11) 2
theorem sc_Move_done : FnScope ["self", "house", "state"] ["self", "house", "state"] (defScope s_Move_done) := ⟨rfl, rfl, rfl, by decide +kernel, rfl, by decide +kernel, by decide +kernel⟩
theorem ok_Move_done (T : Top K mg C) {D : Addr} (M : MetT K D "done" "Move.done" s_Move_done ["self", "house", "state"]) : MetX P w K mg base 3 D "done" (SpOf (R_done K C)) := by
  obtain ⟨f, fd, F, hc, hm, hb⟩ := M.ex
  refine ⟨f, fd, _, hc, hm, fn_ok F sc_Move_done (by walk_at "len") (fun cdv A outer s H E hr => ⟨_, (pss_cons (ps_expr (pe_mtX (ok_House_check T T.m_House_check) hr (by decide) px_of (pv 1) (pa_cons (pv 2) pa_nil))) (pss_cons (ps_if (pt_not (pt_val (pe_or2 (pe_mtX (ok_Pour_fits T T.m_Pour_fits) hr (by decide) px_of (pv 0) (pa_cons (pe_mtX0 (ok_House_sizes T T.m_House_sizes) hr (by decide) px_of (pv 1)) (pa_cons (ke_fld (K := K) rfl (pv 1) rfl) pa_nil))) (pe_or2 (pe_mtX (ok_Fill_fits T T.m_Fill_fits) hr (by decide) px_of (pv 0) (pa_cons (pe_mtX0 (ok_House_sizes T T.m_House_sizes) hr (by decide) px_of (pv 1)) (pa_cons (ke_fld (K := K) rfl (pv 1) rfl) pa_nil))) (pe_mtX (ok_Empty_fits T T.m_Empty_fits) hr (by decide) px_of (pv 0) (pa_cons (pe_mtX0 (ok_House_sizes T T.m_House_sizes) hr (by decide) px_of (pv 1)) (pa_cons (ke_fld (K := K) rfl (pv 1) rfl) pa_nil))))))) (pss_cons (ps_raiseX rfl tk_of T.x_BadMove (by rfl)) pss_nil) pss_nil) (pss_cons (ps_ret (pe_or2 (pe_mtX (ok_Pour_behind T T.m_Pour_behind) hr (by decide) px_of (pv 0) (pa_cons (pe_mtX0 (ok_House_sizes T T.m_House_sizes) hr (by decide) px_of (pv 1)) (pa_cons (pv 2) pa_nil))) (pe_or2 (pe_mtX (ok_Fill_behind T T.m_Fill_behind) hr (by decide) px_of (pv 0) (pa_cons (pe_mtX0 (ok_House_sizes T T.m_House_sizes) hr (by decide) px_of (pv 1)) (pa_cons (pv 2) pa_nil))) (pe_mtX (ok_Empty_behind T T.m_Empty_behind) hr (by decide) px_of (pv 0) (pa_cons (pe_mtX0 (ok_House_sizes T T.m_House_sizes) hr (by decide) px_of (pv 1)) (pa_cons (pv 2) pa_nil)))))) pss_nil))), ?_⟩), hb⟩

  rintro es r F σ Q ⟨m, z, t, S, rfl, hz, ⟨hb, rfl⟩ | ⟨x, rfl, hx, h⟩⟩ s k
  · skip
    simp only [J.cx_K, List.length_cons, List.length_nil, List.cons_append, List.nil_append, Nat.reduceAdd, Nat.reduceSub, List.reduceReplicate, List.append_nil] at s ⊢
    exact q_dropX s (ex_meth (fs := hoF z t) (ev_v rfl) (by walk_at "lk") (ea_cons (ev_v rfl) ea_nil) ⟨z, t, S, rfl, hz, .inr ⟨hb, rfl⟩⟩) k
  · skip
    simp only [J.cx_K, List.length_cons, List.length_nil, List.cons_append, List.nil_append, Nat.reduceAdd, Nat.reduceSub, List.reduceReplicate, List.append_nil] at s ⊢
    refine q_drop s (ev_meth (fs := hoF z t) (ev_v rfl) (by walk_at "lk") (ea_cons (ev_v rfl) ea_nil) ⟨z, t, _, rfl, hz, .inl ⟨x, rfl, hx, rfl⟩⟩) fun σ F H s => ?_
    have hl := hx.len
    have sz : ∀ {k : Nat} {δ : List Ent} {E : XK}, δ[1]? = some (.v (houseS C z t)) → EvE (tMeth C.House "sizes" (SpOf (R_sizes C)) [] E (tVar 1) tNil) δ (.v (intsS z)) := fun h => (eo_meth (ev_v h) (by walk_at "lk") ea_nil ⟨z, t, rfl, rfl⟩).v
    have tp : ∀ {δ : List Ent}, δ[1]? = some (.v (houseS C z t)) → EvE (tFld K (tVar 1) "tap") δ (.v (bS t)) := fun h => ev_fld (ev_v h) isR_v T.f_House_tap (by walk_at "lk")
    rcases h with ⟨hf, rfl⟩ | ⟨hf, hm, rfl⟩
    · refine q_ifT (b := true) s (EvT.to (et_not (et_B (ev_fits (ev_v rfl) (ea_cons (sz (k := 0) rfl) (ea_cons (tp rfl) ea_nil))))) (by rw [hf]; rfl)) rfl fun σ F H s => ?_
      exact q_raise s k
    · refine q_whenF (b := false) s (EvT.to (et_not (et_B (ev_fits (ev_v rfl) (ea_cons (sz (k := 0) rfl) (ea_cons (tp rfl) ea_nil))))) (by rw [hf]; rfl)) rfl fun σ F H s => ?_
      refine q_ret s ?_ k
      cases m with
      | pour i j => exact ev_orl (ev_meth (fs := pourF i j) (ev_v rfl) (by walk_at "lk") (ea_cons (sz (k := 0) rfl) (ea_cons (ev_v rfl) ea_nil)) ⟨i, j, z, x, rfl, ⟨hm, hl, hz⟩, rfl⟩)
      | fill i => exact ev_orr (ev_orl (ev_meth (fs := jugF i) (ev_v rfl) (by walk_at "lk") (ea_cons (sz (k := 0) rfl) (ea_cons (ev_v rfl) ea_nil)) ⟨i, z, x, rfl, ⟨hm, hl, hz⟩, rfl⟩))
      | empty i => exact ev_orr (ev_orr (ev_meth (fs := jugF i) (ev_v rfl) (by walk_at "lk") (ea_cons (sz (k := 0) rfl) (ea_cons (ev_v rfl) ea_nil)) ⟨i, z, x, rfl, ⟨hm, hl, hz⟩, rfl⟩))
/-! ### lists of moves -/
theorem is_Move (T : Top K mg C) (m : Mv) : CbE (rIsi K) [.v (moveS C m), .v (kS (.ref C.Move))] (.v (bS true)) := by
  cases m with
  | pour i j => exact cb_isi (ty_ins T.ik_Pour isR_v) (.own _) T.is_Pour_Move
  | fill i => exact cb_isi (ty_ins T.ik_Fill isR_v) (.own _) T.is_Fill_Move
  | empty i => exact cb_isi (ty_ins T.ik_Empty isR_v) (.own _) T.is_Empty_Move
def nonL (K : PySem.W.Frag) (S : Slot) : Prop := ∃ t, TyE K (.v S) t ∧ PySem.W.kitOne K t (.type "list") = some false
def nonMv (K : PySem.W.Frag) (C : Cs) (S : Slot) : Prop := ∃ t, TyE K (.v S) t ∧ PySem.W.kitOne K t (.ref C.Move) = some false
def badMoves (K : PySem.W.Frag) (C : Cs) (S : Slot) : Prop := nonL K S ∨ (∃ (ms : List Mv) (T : Slot), S = lstS (ms.map (moveS C) ++ [T]) ∧ nonMv K C T)
def R_check_moves (K : PySem.W.Frag) (C : Cs) : Rel := fun es r => ∃ S, es = [.v S] ∧ ((∃ ms : List Mv, S = lstS (ms.map (moveS C)) ∧ r = .v nS) ∨ (badMoves K C S ∧ r = .x C.BadMove))
/-! ### check_moves: slots 0:moves 1:move -/
abbrev s_check_moves : Stmt := top 16
theorem sc_check_moves : FnScope ["moves", "move"] ["moves"] (defScope s_check_moves) := ⟨rfl, rfl, rfl, by decide +kernel, rfl, by decide +kernel, by decide +kernel⟩
theorem ok_check_moves (T : Top K mg C) : CalX P w K mg base 1 "check_moves" (SpOf (R_check_moves K C)) := by
  obtain ⟨f, fd, F, hm, hb⟩ := T.d_check_moves.ex
  refine ⟨f, fd, _, fn_ok F sc_check_moves (by walk_at "len") (fun cdv A outer s H E hr => ⟨_, (pss_cons (ps_if (pt_not (pt_val (pe_callB (kc_isi (K := K) rfl) (by rfl) T.n_isinstance bt_isinstance (pa_cons (pv 0) (pa_cons (pe_bltn (v := .ty "list") (by rfl) T.n_list bt_list rfl) pa_nil))))) (pss_cons (ps_raiseX rfl tk_of T.x_BadMove (by rfl)) pss_nil) pss_nil) (pss_cons (ps_for (passes_of rfl) rfl (ki_any (K := K) rfl (pv 0)) (pg_name (i := 1) sc_check_moves.nd rfl (Or.inl rfl)) (pss_cons (ps_if (pt_not (pt_val (pe_callB (kc_isi (K := K) rfl) (by rfl) T.n_isinstance bt_isinstance (pa_cons (pv 1) (pa_cons (C8.pe_gc (by rfl) T.k_Move) pa_nil))))) (pss_cons (ps_raiseX rfl tk_of T.x_BadMove (by rfl)) pss_nil) pss_nil) pss_nil)) pss_nil)), ?_⟩), hm, F.kp, hb⟩

  rintro es r F σ Q ⟨S, rfl, ⟨ms, rfl, rfl⟩ | ⟨⟨ty, h1, h2⟩ | ⟨ms, S, rfl, ty, h1, h2⟩, rfl⟩⟩ s k
  · skip
    simp only [J.cx_K, List.length_cons, List.length_nil, List.cons_append, List.nil_append, Nat.reduceAdd, Nat.reduceSub, List.reduceReplicate, List.append_nil] at s ⊢
    refine q_whenF (b := false) s (et_not (et_B (ev_cb (ea_cons (ev_v rfl) (ea_cons ev_c ea_nil)) (cb_isl isR_v)))) rfl fun σ F H s => ?_
    refine q_forL s (ev_v rfl) (fun n d => ∃ e, d = [.v (lstS (ms.map (moveS C))), e]) ⟨_, rfl⟩ ?_ ?_
    · rintro F1 bs n T' δ' σ F H hT ⟨e, rfl⟩ s
      obtain ⟨m, hm, rfl⟩ := mapGet hT
      dsimp only [List.set, J.putS, List.nil_append, List.cons_append] at s
      refine q_whenF (b := false) s (et_not (et_B (ev_cb (ea_cons (ev_v rfl) (ea_cons ev_c ea_nil)) (is_Move T m)))) rfl fun σ F H s => ?_
      exact q_nx s ⟨_, rfl⟩
    · rintro δ' σ F H ⟨e, rfl⟩ s
      exact k .non F H s.g rfl
  · skip
    simp only [J.cx_K, List.length_cons, List.length_nil, List.cons_append, List.nil_append, Nat.reduceAdd, Nat.reduceSub, List.reduceReplicate, List.append_nil] at s ⊢
    refine q_ifT (b := true) s (et_not (et_B (ev_cb (ea_cons (ev_v rfl) (ea_cons ev_c ea_nil)) (cb_isi h1 (.ty _) h2)))) rfl fun σ F H s => ?_
    exact q_raise s k
  · skip
    simp only [J.cx_K, List.length_cons, List.length_nil, List.cons_append, List.nil_append, Nat.reduceAdd, Nat.reduceSub, List.reduceReplicate, List.append_nil] at s ⊢
    refine q_whenF (b := false) s (et_not (et_B (ev_cb (ea_cons (ev_v rfl) (ea_cons ev_c ea_nil)) (cb_isl isR_v)))) rfl fun σ F H s => ?_
    refine q_forL s (ev_v rfl) (fun n d => n ≤ ms.length ∧ ∃ e, d = [.v (lstS (ms.map (moveS C) ++ [S])), e]) ⟨Nat.zero_le _, _, rfl⟩ ?_ ?_
    · rintro F1 bs n T' δ' σ F H hT ⟨hn, e, rfl⟩ s
      dsimp only [List.set, J.putS, List.nil_append, List.cons_append] at s
      by_cases he : n = ms.length
      · subst he
        have e1 : T' = S := by
          rw [List.getElem?_append_right (by simp), List.length_map, Nat.sub_self] at hT
          exact (Option.some.inj hT).symm
        subst e1
        refine q_ifT (b := true) s (et_not (et_B (ev_cb (ea_cons (ev_v rfl) (ea_cons ev_c ea_nil)) (cb_isi h1 (.own _) h2)))) rfl fun σ F H s => ?_
        exact q_raise s fun F' H' g => k F' H' (bs g)
      · rw [List.getElem?_append_left (by rw [List.length_map]; omega)] at hT
        obtain ⟨m, hm, rfl⟩ := mapGet hT
        refine q_whenF (b := false) s (et_not (et_B (ev_cb (ea_cons (ev_v rfl) (ea_cons ev_c ea_nil)) (is_Move T m)))) rfl fun σ F H s => ?_
        exact q_nx s ⟨by omega, _, rfl⟩
    · rintro δ' σ F H ⟨hn, _⟩ s
      rw [List.length_append, List.length_map] at hn
      simp at hn
      omega
theorem ev_done {E : XK} {to : TE} {ta : TA} {δ : List Ent} {z : List Int} {t : Bool} {x : List Int} {m : Mv} (h : EvE to δ (.v (moveS C m))) (ha : EvAs ta δ [.v (houseS C z t), .v (stS x)]) (hf : fitsB m t z.length = true ∧ inN m z.length) (hx : StOk z x) (hz : z.length ≤ 4) :
    EvE (fun σ H Q => tMeth C.Pour "done" (SpOf (R_done K C)) [] E to ta σ H Q ∨ (fun σ H Q => tMeth C.Fill "done" (SpOf (R_done K C)) [] E to ta σ H Q ∨ tMeth C.Empty "done" (SpOf (R_done K C)) [] E to ta σ H Q) σ H Q) δ (.v (stS (behind z x m))) := by
  have hR : R_done K C (.v (moveS C m) :: [.v (houseS C z t), .v (stS x)]) (.v (stS (behind z x m))) := ⟨m, z, t, _, rfl, hz, .inr ⟨x, rfl, hx, .inr ⟨hf.1, hf.2, rfl⟩⟩⟩
  cases m with
  | pour i j => exact ev_orl (ev_meth (fs := pourF i j) h (by walk_at "lk") ha hR)
  | fill i => exact ev_orr (ev_orl (ev_meth (fs := jugF i) h (by walk_at "lk") ha hR))
  | empty i => exact ev_orr (ev_orr (ev_meth (fs := jugF i) h (by walk_at "lk") ha hR))
theorem ex_done {E : XK} {to : TE} {ta : TA} {δ : List Ent} {z : List Int} {t : Bool} {S : Slot} {m : Mv} {c : Addr} (h : EvE to δ (.v (moveS C m))) (ha : EvAs ta δ [.v (houseS C z t), .v S]) (hR : R_done K C (.v (moveS C m) :: [.v (houseS C z t), .v S]) (.x c)) :
    EvX (fun σ H Q => tMeth C.Pour "done" (SpOf (R_done K C)) [] E to ta σ H Q ∨ (fun σ H Q => tMeth C.Fill "done" (SpOf (R_done K C)) [] E to ta σ H Q ∨ tMeth C.Empty "done" (SpOf (R_done K C)) [] E to ta σ H Q) σ H Q) δ E c := by
  cases m with
  | pour i j => exact ex_orl (ex_meth (fs := pourF i j) h (by walk_at "lk") ha hR)
  | fill i => exact ex_orr (ex_orl (ex_meth (fs := jugF i) h (by walk_at "lk") ha hR))
  | empty i => exact ex_orr (ex_orr (ex_meth (fs := jugF i) h (by walk_at "lk") ha hR))
def R_done_all (K : PySem.W.Frag) (C : Cs) : Rel := fun es r => ∃ S0 z t S, es = [.v S0, .v (houseS C z t), .v S] ∧ z.length ≤ 4 ∧
  ((badMoves K C S0 ∧ r = .x C.BadMove) ∨ (∃ ms : List Mv, S0 = lstS (ms.map (moveS C)) ∧ badSt K z S ∧ r = .x C.BadState) ∨
   (∃ m1 m2 x, S0 = lstS ([m1, m2].map (moveS C)) ∧ S = stS x ∧ StOk z x ∧ (fitsB m1 t z.length = true ∧ inN m1 z.length) ∧ StOk z (behind z x m1) ∧ fitsB m2 t z.length = false ∧ r = .x C.BadMove))
/-! ### done_all: slots 0:moves 1:house 2:state 3:move -/
abbrev s_done_all : Stmt := top 17
theorem sc_done_all : FnScope ["moves", "house", "state", "move"] ["moves", "house", "state"] (defScope s_done_all) := ⟨rfl, rfl, rfl, by decide +kernel, rfl, by decide +kernel, by decide +kernel⟩
theorem ok_done_all (T : Top K mg C) : CalX P w K mg base 4 "done_all" (SpOf (R_done_all K C)) := by
  obtain ⟨f, fd, F, hm, hb⟩ := T.d_done_all.ex
  refine ⟨f, fd, _, fn_ok F sc_done_all (by walk_at "len") (fun cdv A outer s H E hr => ⟨_, (pss_cons (ps_expr (pe_cX (ok_check_moves T) hr (by decide) px_of (by rfl) (pa_cons (pv 0) pa_nil))) (pss_cons (ps_expr (pe_mtX (ok_House_check T T.m_House_check) hr (by decide) px_of (pv 1) (pa_cons (pv 2) pa_nil))) (pss_cons (ps_for (passes_of rfl) rfl (ki_any (K := K) rfl (pv 0)) (pg_name (i := 3) sc_done_all.nd rfl (Or.inl rfl)) (pss_cons (ps_set (i := 2) sc_done_all.nd rfl (Or.inl rfl) (pe_or2 (pe_mtX (ok_Move_done T T.m_Pour_done) hr (by decide) px_of (pv 3) (pa_cons (pv 1) (pa_cons (pv 2) pa_nil))) (pe_or2 (pe_mtX (ok_Move_done T T.m_Fill_done) hr (by decide) px_of (pv 3) (pa_cons (pv 1) (pa_cons (pv 2) pa_nil))) (pe_mtX (ok_Move_done T T.m_Empty_done) hr (by decide) px_of (pv 3) (pa_cons (pv 1) (pa_cons (pv 2) pa_nil)))))) pss_nil)) (pss_cons (ps_ret (pv 2)) pss_nil)))), ?_⟩), hm, F.kp, hb⟩

  rintro es r F σ Q ⟨S0, z, t, S, rfl, hz, ⟨hb, rfl⟩ | ⟨ms, rfl, hb, rfl⟩ | ⟨m1, m2, x, rfl, rfl, hx, hf1, hx1, hf2, rfl⟩⟩ s k
  · skip
    simp only [J.cx_K, List.length_cons, List.length_nil, List.cons_append, List.nil_append, Nat.reduceAdd, Nat.reduceSub, List.reduceReplicate, List.append_nil] at s ⊢
    exact q_dropX s (ex_call (ea_cons (ev_v rfl) ea_nil) ⟨S0, rfl, .inr ⟨hb, rfl⟩⟩) k
  · skip
    simp only [J.cx_K, List.length_cons, List.length_nil, List.cons_append, List.nil_append, Nat.reduceAdd, Nat.reduceSub, List.reduceReplicate, List.append_nil] at s ⊢
    refine q_drop s (ev_call (ea_cons (ev_v rfl) ea_nil) ⟨_, rfl, .inl ⟨ms, rfl, rfl⟩⟩) fun σ F H s => ?_
    exact q_dropX s (ex_meth (fs := hoF z t) (ev_v rfl) (by walk_at "lk") (ea_cons (ev_v rfl) ea_nil) ⟨z, t, S, rfl, hz, .inr ⟨hb, rfl⟩⟩) k
  · skip
    simp only [J.cx_K, List.length_cons, List.length_nil, List.cons_append, List.nil_append, Nat.reduceAdd, Nat.reduceSub, List.reduceReplicate, List.append_nil] at s ⊢
    refine q_drop s (ev_call (ea_cons (ev_v rfl) ea_nil) ⟨_, rfl, .inl ⟨_, rfl, rfl⟩⟩) fun σ F H s => ?_
    refine q_drop s (ev_meth (fs := hoF z t) (ev_v rfl) (by walk_at "lk") (ea_cons (ev_v rfl) ea_nil) ⟨z, t, _, rfl, hz, .inl ⟨x, rfl, hx, rfl⟩⟩) fun σ F H s => ?_
    refine q_forL s (ev_v rfl) (fun n d => n ≤ 1 ∧ ∃ e, d = [.v (lstS ([m1, m2].map (moveS C))), .v (houseS C z t), .v (stS (if n = 0 then x else behind z x m1)), e]) ⟨by omega, _, rfl⟩ ?_ ?_
    · rintro F1 bs n T' δ' σ F H hT ⟨hn, e, rfl⟩ s
      dsimp only [List.set, J.putS, List.nil_append, List.cons_append] at s
      by_cases h0 : n = 0
      · subst h0
        have e1 : T' = moveS C m1 := by simpa using hT.symm
        subst e1
        rw [if_pos rfl] at s
        refine q_set s (S := stS (behind z x m1)) (ev_done (ev_v rfl) (ea_cons (ev_v rfl) (ea_cons (ev_v rfl) ea_nil)) hf1 hx hz) fun σ F H s => ?_
        exact q_nx s ⟨by omega, _, rfl⟩
      · have h1 : n = 1 := by omega
        subst h1
        have e1 : T' = moveS C m2 := by simpa using hT.symm
        subst e1
        rw [if_neg (by omega)] at s
        exact q_setX s (ex_done (ev_v rfl) (ea_cons (ev_v rfl) (ea_cons (ev_v rfl) ea_nil)) ⟨m2, z, t, _, rfl, hz, .inr ⟨_, rfl, hx1, .inl ⟨hf2, rfl⟩⟩⟩) fun F' H' g => k F' H' (bs g)
    · rintro δ' σ F H ⟨hn, _⟩ s
      simp at hn

end
end Jug


namespace Jug
open PySem PySem.Spec L2 PyProof.Rows J
section
variable {P : Program} {w : World} {K : PySem.W.Frag} {mg : Str → Option Value} {base : Heap} {C : Cs}
inductive Gl where
  | holds (j : Nat) (many : Int)
  | some (many : Int)
  | sum (js : List Nat) (many : Int)
  | whole (y : List Int)
abbrev natS (js : List Nat) : Slot := lstS ((js.map fun j : Nat => (j : Int)).map iS)
abbrev holdsF (j : Nat) (m : Int) : List (Str × Slot) := [("jug", iS (j : Int)), ("many", iS m)]
abbrev someF (m : Int) : List (Str × Slot) := [("many", iS m)]
abbrev sumF (js : List Nat) (m : Int) : List (Str × Slot) := [("jugs", natS js), ("many", iS m)]
abbrev wholeF (y : List Int) : List (Str × Slot) := [("state", stS y)]
def goalS (C : Cs) : Gl → Slot
  | .holds j m => objS C.Holds (holdsF j m)
  | .some m => objS C.Some (someF m)
  | .sum js m => objS C.Sum (sumF js m)
  | .whole y => objS C.Whole (wholeF y)
def metG (x : List Int) : Gl → Bool
  | .holds j m => decide (am x j = m)
  | .some m => decide (m ∈ x)
  | .sum js m => decide ((js.map (am x)).sum = m)
  | .whole y => decide (x = y)
def fitG (z : List Int) : Gl → Prop
  | .holds j _ => j < z.length
  | .some _ => True
  | .sum js _ => (∀ j ∈ js, j < z.length) ∧ js ≠ []
  | .whole y => StOk z y

/-! ### the goals' inits -/
theorem w8_of {K : PySem.W.Frag} {m lo hi : Int} (h : lo ≤ m ∧ m ≤ hi) : W8 K (iS m) lo hi true := .inl ⟨m, rfl, by rw [decide_eq_true h.1, decide_eq_true h.2]; rfl⟩
def R_Holds (K : PySem.W.Frag) (C : Cs) : RelI := fun es r => ∃ S1 S2, es = [.v S1, .v S2] ∧
  ((∃ (j : Nat) (m : Int), S1 = iS (j : Int) ∧ S2 = iS m ∧ (j ≤ 3 ∧ 0 ≤ m ∧ m ≤ 240) ∧ r = .ok (holdsF j m)) ∨ ((W8 K S1 0 3 false ∨ (W8 K S1 0 3 true ∧ W8 K S2 0 240 false)) ∧ r = .error C.BadGoal))
/-! ### Holds___init__: slots 0:self 1:jug 2:many -/
abbrev s_Holds___init__ : Stmt := inClass (top 23) 0
theorem sc_Holds___init__ : FnScope ["self", "jug", "many"] ["self", "jug", "many"] (defScope s_Holds___init__) := ⟨rfl, rfl, rfl, by decide +kernel, rfl, by decide +kernel, by decide +kernel⟩
theorem ok_Holds___init__ (T : Top K mg C) : MakX P w K mg base 3 "Holds" C.Holds (SpInit C.Holds (R_Holds K C)) := by
  obtain ⟨f, fd, F, hk, hm, hb⟩ := T.i_Holds.ex
  refine ⟨f, fd, _, hk, init_ok F sc_Holds___init__ (by walk_at "len") (fun cdv A outer s H E hr => ⟨_, (pss_cons (ps_if (pt_not (pt_val (pe_cX (ok_within T) hr (by decide) px_of (by rfl) (pa_cons (pv 1) (pa_cons pe_int (pa_cons (pe_op op_sub (C8.pe_gc (by rfl) T.g_MOST_JUGS) pe_int) pa_nil)))))) (pss_cons (ps_raiseX rfl tk_of T.x_BadGoal (by rfl)) pss_nil) pss_nil) (pss_cons (ps_expr (pe_cX (ok_check_amount T) hr (by decide) px_of (by rfl) (pa_cons (pv 2) pa_nil))) (pss_cons (ps_fld (pv 0) (pv 1) rfl) (pss_cons (ps_fld (pv 0) (pv 2) rfl) pss_nil)))), ?_⟩), hm, hb⟩

  rintro p es r F H0 H σ D ⟨S1, S2, rfl, ⟨j, m, rfl, rfl, ⟨hj, hm⟩, rfl⟩ | ⟨hb, rfl⟩⟩ s k
  · skip
    simp only [J.cx_K, List.length_cons, List.length_nil, List.cons_append, List.nil_append, Nat.reduceAdd, Nat.reduceSub, List.reduceReplicate, List.append_nil] at s ⊢
    refine q_whenF (b := false) s (et_not (et_B (ev_call (R := R_within8 K) (ea_cons (ev_v rfl) (ea_cons ev_c (ea_cons (ev_op ev_c ev_c op_I0) ea_nil))) ⟨_, 0, 3, true, rfl, w8_nat hj, rfl⟩))) rfl fun σ F H s => ?_
    refine q_drop s (ev_call (R := R_amount8 K C) (ea_cons (ev_v rfl) ea_nil) ⟨_, true, rfl, w8_of hm, .inl ⟨rfl, rfl⟩⟩) fun σ F H s => ?_
    refine q_self s rfl (ev_v rfl) T.f_Holds_jug rfl (Nat.le_of_ble_eq_true rfl) fun σ F H s => ?_
    dsimp only [List.set, J.putS, List.nil_append, List.cons_append] at s
    refine q_self s rfl (ev_v rfl) T.f_Holds_many (by walk_at "lk") (Nat.le_of_ble_eq_true rfl) fun σ F H s => ?_
    exact k σ F H _ s rfl
  · skip
    simp only [J.cx_K, List.length_cons, List.length_nil, List.cons_append, List.nil_append, Nat.reduceAdd, Nat.reduceSub, List.reduceReplicate, List.append_nil] at s ⊢
    rcases hb with h1 | ⟨h1, h2⟩
    · refine q_ifT (b := true) s (et_not (et_B (ev_call (R := R_within8 K) (ea_cons (ev_v rfl) (ea_cons ev_c (ea_cons (ev_op ev_c ev_c op_I0) ea_nil))) ⟨_, 0, 3, false, rfl, h1, rfl⟩))) rfl fun σ F H s => ?_
      exact q_raise s k
    · refine q_whenF (b := false) s (et_not (et_B (ev_call (R := R_within8 K) (ea_cons (ev_v rfl) (ea_cons ev_c (ea_cons (ev_op ev_c ev_c op_I0) ea_nil))) ⟨_, 0, 3, true, rfl, h1, rfl⟩))) rfl fun σ F H s => ?_
      exact q_dropX s (ex_call (R := R_amount8 K C) (ea_cons (ev_v rfl) ea_nil) ⟨_, false, rfl, h2, .inr ⟨rfl, rfl⟩⟩) k
def R_Some (K : PySem.W.Frag) (C : Cs) : RelI := fun es r => ∃ S, es = [.v S] ∧ ((∃ m : Int, S = iS m ∧ (0 ≤ m ∧ m ≤ 240) ∧ r = .ok (someF m)) ∨ (W8 K S 0 240 false ∧ r = .error C.BadGoal))
/-! ### Some___init__: slots 0:self 1:many -/
abbrev s_Some___init__ : Stmt := inClass (top 24) 0
theorem sc_Some___init__ : FnScope ["self", "many"] ["self", "many"] (defScope s_Some___init__) := ⟨rfl, rfl, rfl, by decide +kernel, rfl, by decide +kernel, by decide +kernel⟩
theorem ok_Some___init__ (T : Top K mg C) : MakX P w K mg base 3 "Some" C.Some (SpInit C.Some (R_Some K C)) := by
  obtain ⟨f, fd, F, hk, hm, hb⟩ := T.i_Some.ex
  refine ⟨f, fd, _, hk, init_ok F sc_Some___init__ (by walk_at "len") (fun cdv A outer s H E hr => ⟨_, (pss_cons (ps_expr (pe_cX (ok_check_amount T) hr (by decide) px_of (by rfl) (pa_cons (pv 1) pa_nil))) (pss_cons (ps_fld (pv 0) (pv 1) rfl) pss_nil)), ?_⟩), hm, hb⟩

  rintro p es r F H0 H σ D ⟨S, rfl, ⟨m, rfl, hm, rfl⟩ | ⟨hb, rfl⟩⟩ s k
  · skip
    simp only [J.cx_K, List.length_cons, List.length_nil, List.cons_append, List.nil_append, Nat.reduceAdd, Nat.reduceSub, List.reduceReplicate, List.append_nil] at s ⊢
    refine q_drop s (ev_call (R := R_amount8 K C) (ea_cons (ev_v rfl) ea_nil) ⟨_, true, rfl, w8_of hm, .inl ⟨rfl, rfl⟩⟩) fun σ F H s => ?_
    refine q_self s rfl (ev_v rfl) T.f_Some_many rfl (Nat.le_of_ble_eq_true rfl) fun σ F H s => ?_
    exact k σ F H _ s rfl
  · skip
    simp only [J.cx_K, List.length_cons, List.length_nil, List.cons_append, List.nil_append, Nat.reduceAdd, Nat.reduceSub, List.reduceReplicate, List.append_nil] at s ⊢
    exact q_dropX s (ex_call (R := R_amount8 K C) (ea_cons (ev_v rfl) ea_nil) ⟨_, false, rfl, hb, .inr ⟨rfl, rfl⟩⟩) k
/-! ### Sum -/
abbrev natsI (js : List Nat) : List Int := js.map fun j : Nat => (j : Int)
/-- the first n jugs are good and different -/
def JsTo (js : List Nat) (n : Nat) : Prop := (∀ j ∈ js, j ≤ 3) ∧ js.length ≤ 4 ∧ 0 < js.length ∧ ∀ m < n, ∀ j, js[m]? = some j → (j : Int) ∉ (natsI js).take m
def badSum (K : PySem.W.Frag) (S1 S2 : Slot) : Prop := nonL K S1 ∨ S1 = lstS [] ∨ (∃ S, S1 = lstS [S] ∧ W8 K S 0 3 false) ∨
  (∃ (js : List Nat) (n j : Nat), S1 = natS js ∧ JsTo js n ∧ js[n]? = some j ∧ (j : Int) ∈ (natsI js).take n) ∨ (∃ js : List Nat, S1 = natS js ∧ JsTo js js.length ∧ W8 K S2 0 240 false)
def R_Sum (K : PySem.W.Frag) (C : Cs) : RelI := fun es r => ∃ S1 S2, es = [.v S1, .v S2] ∧
  ((∃ (js : List Nat) (m : Int), S1 = natS js ∧ S2 = iS m ∧ JsTo js js.length ∧ (0 ≤ m ∧ m ≤ 240) ∧ r = .ok (sumF js m)) ∨ (badSum K S1 S2 ∧ r = .error C.BadGoal))
theorem nat_get {js : List Nat} {n j : Nat} (h : js[n]? = some j) : (natsI js)[((n : Nat) : Int).toNat]? = some (j : Int) := by
  rw [Int.toNat_natCast, List.getElem?_map, h]
  rfl
/-- the test of the k-th jug -/
theorem et_jug {δ : List Ent} {js : List Nat} {n j i e : Nat} (hi : δ[i]? = some (.v (natS js))) (he : δ[e]? = some (.v (iS (n : Int)))) (hn : js[n]? = some j) (hj : j ≤ 3) {E : XK} :
    EvT (tOr (tNot (tB (tCall (SpOf (R_within8 K)) [] E (tCons (tIx K (tVar i) (tVar e)) (tCons (tC (.int 0)) (tCons (tOp (rI0 fun i j => .int (i - j)) (tC (.int 4)) (tC (.int 1))) tNil)))))) (tB (tInJ K (tIx K (tVar i) (tVar e)) (tSl (rSlJ K) (tVar i) tNoPart (tPart (tVar e)))))) δ (decide ((j : Int) ∈ (natsI js).take n)) :=
  EvT.to (et_or (et_not (et_B (ev_call (R := R_within8 K) (ea_cons (ev_ix (ev_v hi) (ev_v he) (jx_l (i := (n : Int)) isR_v (by omega) (nat_get hn))) (ea_cons ev_c (ea_cons (ev_op ev_c ev_c op_I0) ea_nil))) ⟨_, 0, 3, true, rfl, w8_nat hj, rfl⟩))) fun _ => et_B (ev_inI (xs := (natsI js).take n) (ev_ix (ev_v hi) (ev_v he) (jx_l (i := (n : Int)) isR_v (by omega) (nat_get hn))) (EvO.b (eo_sll (ev_v hi) isR_v eo_none (eo_some (ev_v he)))) (.inl (.inl (by rw [cut_to, List.map_take]))))) (by simp)
/-! ### Sum___init__: slots 0:self 1:jugs 2:many 3:k -/
abbrev s_Sum___init__ : Stmt := inClass (top 25) 0
theorem sc_Sum___init__ : FnScope ["self", "jugs", "many", "k"] ["self", "jugs", "many"] (defScope s_Sum___init__) := ⟨rfl, rfl, rfl, by decide +kernel, rfl, by decide +kernel, by decide +kernel⟩
theorem ok_Sum___init__ (T : Top K mg C) : MakX P w K mg base 3 "Sum" C.Sum (SpInit C.Sum (R_Sum K C)) := by
  obtain ⟨f, fd, F, hk, hm, hb⟩ := T.i_Sum.ex
  refine ⟨f, fd, _, hk, init_ok F sc_Sum___init__ (by walk_at "len") (fun cdv A outer s H E hr => ⟨_, (pss_cons (ps_if (PW.pt (pw_or (pt_not (pt_val (pe_callB (kc_isi (K := K) rfl) (by rfl) T.n_isinstance bt_isinstance (pa_cons (pv 1) (pa_cons (pe_bltn (v := .ty "list") (by rfl) T.n_list bt_list rfl) pa_nil))))) (pw_or1 (pt_cmpR (ko_eq (K := K) rfl hr) (pe_callB (kc_len (K := K) rfl) (by rfl) T.n_len bt_len (pa_cons (pv 1) pa_nil)) pe_int (nomark _))))) (pss_cons (ps_raiseX rfl tk_of T.x_BadGoal (by rfl)) pss_nil) pss_nil) (pss_cons (ps_for (passes_of rfl) rfl (pi_range1 (by rfl) T.n_range (pa_cons (pe_callB (kc_len (K := K) rfl) (by rfl) T.n_len bt_len (pa_cons (pv 1) pa_nil)) pa_nil)) (pg_name (i := 3) sc_Sum___init__.nd rfl (Or.inl rfl)) (pss_cons (ps_if (PW.pt (pw_or (pt_not (pt_val (pe_cX (ok_within T) hr (by decide) px_of (by rfl) (pa_cons (ke_ix (K := K) rfl hr (pv 1) (pv 3) (fun _ _ => rfl) (fun _ _ => rfl)) (pa_cons pe_int (pa_cons (pe_op op_sub (C8.pe_gc (by rfl) T.g_MOST_JUGS) pe_int) pa_nil)))))) (pw_or1 (kt_in (K := K) rfl hr (ke_ix (K := K) rfl hr (pv 1) (pv 3) (fun _ _ => rfl) (fun _ _ => rfl)) (pe_slice (ko_sl (K := K) rfl) (pv 1) po_none (po_some (pv 3))) (by rfl))))) (pss_cons (ps_raiseX rfl tk_of T.x_BadGoal (by rfl)) pss_nil) pss_nil) pss_nil)) (pss_cons (ps_expr (pe_cX (ok_check_amount T) hr (by decide) px_of (by rfl) (pa_cons (pv 2) pa_nil))) (pss_cons (ps_fld (pv 0) (pe_callTy (kc_list (K := K) rfl) (by rfl) T.n_list bt_list (pa_cons (pv 1) pa_nil)) rfl) (pss_cons (ps_fld (pv 0) (pv 2) rfl) pss_nil))))), ?_⟩), hm, hb⟩

  rintro p es r F H0 H σ D ⟨S1, S2, rfl, ⟨js, m, rfl, rfl, hj, hm, rfl⟩ | ⟨⟨ty, h1, h2⟩ | rfl | ⟨S, rfl, hW⟩ | ⟨js, n0, j0, rfl, hj, hn0, hin⟩ | ⟨js, rfl, hj, hW⟩, rfl⟩⟩ s k
  · skip
    simp only [J.cx_K, List.length_cons, List.length_nil, List.cons_append, List.nil_append, Nat.reduceAdd, Nat.reduceSub, List.reduceReplicate, List.append_nil] at s ⊢
    obtain ⟨hj3, hl, hp, hf⟩ := hj
    have h0 : js ≠ [] := List.length_pos_iff.mp hp
    refine q_whenF (b := false) s (EvT.to (et_or (et_not (et_B (ev_cb (ea_cons (ev_v rfl) (ea_cons ev_c ea_nil)) (cb_isl isR_v)))) fun _ => et_Test (ev_op (ev_cb (ea_cons (ev_v rfl) ea_nil) (cb_len isR_v)) ev_c jv_eqi)) (by simp [h0])) rfl fun σ F H s => ?_
    refine q_forR (n := js.length) s (ea_cons (ev_cb (ea_cons (ev_v rfl) ea_nil) (cb_len isR_v)) ea_nil) (by simp) (by simp; omega) (fun n d => ∃ e, d = [.ow (selO p C.Sum []), .v (natS js), .v (iS m), e]) ⟨_, rfl⟩ ?_ ?_
    · rintro n δ' σ F H hn ⟨e, rfl⟩ s
      dsimp only [List.set, J.putS, List.nil_append, List.cons_append] at s
      have hg : js[n]? = some js[n] := List.getElem?_eq_getElem hn
      refine q_whenF (b := false) s (EvT.to (et_jug rfl rfl hg (hj3 _ (List.getElem_mem _))) (decide_eq_false (hf n hn _ hg))) rfl fun σ F H s => ?_
      exact q_nx s ⟨_, rfl⟩
    · rintro δ' σ F H ⟨e, rfl⟩ s
      refine q_drop s (ev_call (R := R_amount8 K C) (ea_cons (ev_v rfl) ea_nil) ⟨_, true, rfl, w8_of hm, .inl ⟨rfl, rfl⟩⟩) fun σ F H s => ?_
      refine q_self s rfl (eo_cb (ea_cons (ev_v rfl) ea_nil) (kb_list isR_v)).v T.f_Sum_jugs rfl (Nat.le_of_ble_eq_true rfl) fun σ F H s => ?_
      dsimp only [List.set, J.putS, List.nil_append, List.cons_append] at s
      refine q_self s rfl (ev_v rfl) T.f_Sum_many (by walk_at "lk") (Nat.le_of_ble_eq_true rfl) fun σ F H s => ?_
      exact k σ F H _ s rfl
  · skip
    simp only [J.cx_K, List.length_cons, List.length_nil, List.cons_append, List.nil_append, Nat.reduceAdd, Nat.reduceSub, List.reduceReplicate, List.append_nil] at s ⊢
    refine q_ifT (b := true) s (et_or (b := false) (et_not (et_B (ev_cb (ea_cons (ev_v rfl) (ea_cons ev_c ea_nil)) (cb_isi h1 (.ty _) h2)))) fun h => by cases h) rfl fun σ F H s => ?_
    exact q_raise s k
  · skip
    simp only [J.cx_K, List.length_cons, List.length_nil, List.cons_append, List.nil_append, Nat.reduceAdd, Nat.reduceSub, List.reduceReplicate, List.append_nil] at s ⊢
    refine q_ifT (b := true) s (EvT.to (et_or (et_not (et_B (ev_cb (ea_cons (ev_v rfl) (ea_cons ev_c ea_nil)) (cb_isl isR_v)))) fun _ => et_Test (ev_op (ev_cb (ea_cons (ev_v rfl) ea_nil) (cb_len isR_v)) ev_c jv_eqi)) (by simp)) rfl fun σ F H s => ?_
    exact q_raise s k
  · skip
    simp only [J.cx_K, List.length_cons, List.length_nil, List.cons_append, List.nil_append, Nat.reduceAdd, Nat.reduceSub, List.reduceReplicate, List.append_nil] at s ⊢
    refine q_whenF (b := false) s (EvT.to (et_or (et_not (et_B (ev_cb (ea_cons (ev_v rfl) (ea_cons ev_c ea_nil)) (cb_isl isR_v)))) fun _ => et_Test (ev_op (ev_cb (ea_cons (ev_v rfl) ea_nil) (cb_len isR_v)) ev_c jv_eqi)) (by simp)) rfl fun σ F H s => ?_
    refine q_forR (n := 1) s (ea_cons (ev_cb (ea_cons (ev_v rfl) ea_nil) (cb_len isR_v)) ea_nil) (by simp) (by simp) (fun n d => n = 0 ∧ ∃ e, d = [.ow (selO p C.Sum []), .v (lstS [S]), .v S2, e]) ⟨rfl, _, rfl⟩ ?_ ?_
    · rintro n δ' σ F H hn ⟨rfl, e, rfl⟩ s
      dsimp only [List.set, J.putS, List.nil_append, List.cons_append] at s
      refine q_ifT (b := true) s (EvT.to (et_or (b := false) (et_not (et_B (ev_call (R := R_within8 K) (ea_cons (ev_ix (ev_v rfl) (ev_v rfl) (jv_ixl (n := 0) isR_v rfl)) (ea_cons ev_c (ea_cons (ev_op ev_c ev_c op_I0) ea_nil))) ⟨S, 0, 3, false, rfl, hW, rfl⟩))) fun h => by cases h) rfl) rfl fun σ F H s => ?_
      exact q_raise s k
    · rintro δ' σ F H ⟨h, _⟩ s
      cases h
  · skip
    simp only [J.cx_K, List.length_cons, List.length_nil, List.cons_append, List.nil_append, Nat.reduceAdd, Nat.reduceSub, List.reduceReplicate, List.append_nil] at s ⊢
    obtain ⟨hj3, hl, hp, hf⟩ := hj
    have h0 : js ≠ [] := List.length_pos_iff.mp hp
    have hlt := (List.getElem?_eq_some_iff.mp hn0).1
    refine q_whenF (b := false) s (EvT.to (et_or (et_not (et_B (ev_cb (ea_cons (ev_v rfl) (ea_cons ev_c ea_nil)) (cb_isl isR_v)))) fun _ => et_Test (ev_op (ev_cb (ea_cons (ev_v rfl) ea_nil) (cb_len isR_v)) ev_c jv_eqi)) (by simp [h0])) rfl fun σ F H s => ?_
    refine q_forR (n := js.length) s (ea_cons (ev_cb (ea_cons (ev_v rfl) ea_nil) (cb_len isR_v)) ea_nil) (by simp) (by simp; omega) (fun n d => n ≤ n0 ∧ ∃ e, d = [.ow (selO p C.Sum []), .v (natS js), .v S2, e]) ⟨Nat.zero_le _, _, rfl⟩ ?_ ?_
    · rintro n δ' σ F H hn ⟨hle, e, rfl⟩ s
      dsimp only [List.set, J.putS, List.nil_append, List.cons_append] at s
      by_cases he : n = n0
      · subst he
        refine q_ifT (b := true) s (EvT.to (et_jug rfl rfl hn0 (hj3 _ (List.mem_of_getElem? hn0))) (decide_eq_true hin)) rfl fun σ F H s => ?_
        exact q_raise s k
      · have hg : js[n]? = some js[n] := List.getElem?_eq_getElem hn
        refine q_whenF (b := false) s (EvT.to (et_jug rfl rfl hg (hj3 _ (List.getElem_mem _))) (decide_eq_false (hf n (by omega) _ hg))) rfl fun σ F H s => ?_
        exact q_nx s ⟨by omega, _, rfl⟩
    · rintro δ' σ F H ⟨hle, _⟩ s
      omega
  · skip
    simp only [J.cx_K, List.length_cons, List.length_nil, List.cons_append, List.nil_append, Nat.reduceAdd, Nat.reduceSub, List.reduceReplicate, List.append_nil] at s ⊢
    obtain ⟨hj3, hl, hp, hf⟩ := hj
    have h0 : js ≠ [] := List.length_pos_iff.mp hp
    refine q_whenF (b := false) s (EvT.to (et_or (et_not (et_B (ev_cb (ea_cons (ev_v rfl) (ea_cons ev_c ea_nil)) (cb_isl isR_v)))) fun _ => et_Test (ev_op (ev_cb (ea_cons (ev_v rfl) ea_nil) (cb_len isR_v)) ev_c jv_eqi)) (by simp [h0])) rfl fun σ F H s => ?_
    refine q_forR (n := js.length) s (ea_cons (ev_cb (ea_cons (ev_v rfl) ea_nil) (cb_len isR_v)) ea_nil) (by simp) (by simp; omega) (fun n d => ∃ e, d = [.ow (selO p C.Sum []), .v (natS js), .v S2, e]) ⟨_, rfl⟩ ?_ ?_
    · rintro n δ' σ F H hn ⟨e, rfl⟩ s
      dsimp only [List.set, J.putS, List.nil_append, List.cons_append] at s
      have hg : js[n]? = some js[n] := List.getElem?_eq_getElem hn
      refine q_whenF (b := false) s (EvT.to (et_jug rfl rfl hg (hj3 _ (List.getElem_mem _))) (decide_eq_false (hf n hn _ hg))) rfl fun σ F H s => ?_
      exact q_nx s ⟨_, rfl⟩
    · rintro δ' σ F H ⟨e, rfl⟩ s
      exact q_dropX s (ex_call (R := R_amount8 K C) (ea_cons (ev_v rfl) ea_nil) ⟨_, false, rfl, hW, .inr ⟨rfl, rfl⟩⟩) k
/-! ### Whole -/
def badWhole (K : PySem.W.Frag) (S : Slot) : Prop := (∃ t, TyE K (.v S) t ∧ PySem.W.kitOne K t (.type "tuple") = some false) ∨ (∃ ss, S = tupS ss ∧ ¬ (1 ≤ ss.length ∧ ss.length ≤ 4)) ∨ (∃ T, S = tupS [iS 1, T] ∧ W8 K T 0 60 false)
def R_Whole (K : PySem.W.Frag) (C : Cs) : RelI := fun es r => ∃ S, es = [.v S] ∧ ((∃ y : List Int, S = stS y ∧ ((1 ≤ y.length ∧ y.length ≤ 4) ∧ ∀ a ∈ y, 0 ≤ a ∧ a ≤ 60) ∧ r = .ok (wholeF y)) ∨ (badWhole K S ∧ r = .error C.BadGoal))
theorem et_lenT {δ : List Ent} {ss : List Slot} {i : Nat} (h : δ[i]? = some (.v (tupS ss))) : EvT (tTest (tChain (rI0 fun i j => .bl (decide (i ≤ j))) (rI0 fun i j => .bl (decide (i ≤ j))) (tC (.int 1)) (tCB (rLenJ K) (tCons (tVar i) tNil)) (tC (.int 4)))) δ (decide ((1 : Int) ≤ (ss.length : Int)) && decide ((ss.length : Int) ≤ 4)) :=
  et_Test (ev_chain ev_c (ev_cb (ea_cons (ev_v h) ea_nil) (cb_lent isR_v)) (fun _ => ev_c) op_I0 (fun _ => op_I0))
/-! ### Whole___init__: slots 0:self 1:state 2:many -/
abbrev s_Whole___init__ : Stmt := inClass (top 26) 0
theorem sc_Whole___init__ : FnScope ["self", "state", "many"] ["self", "state"] (defScope s_Whole___init__) := ⟨rfl, rfl, rfl, by decide +kernel, rfl, by decide +kernel, by decide +kernel⟩
theorem ok_Whole___init__ (T : Top K mg C) : MakX P w K mg base 2 "Whole" C.Whole (SpInit C.Whole (R_Whole K C)) := by
  obtain ⟨f, fd, F, hk, hm, hb⟩ := T.i_Whole.ex
  refine ⟨f, fd, _, hk, init_ok F sc_Whole___init__ (by walk_at "len") (fun cdv A outer s H E hr => ⟨_, (pss_cons (ps_if (PW.pt (pw_or (pt_not (pt_val (pe_callB (kc_isi (K := K) rfl) (by rfl) T.n_isinstance bt_isinstance (pa_cons (pv 1) (pa_cons (pe_bltn (v := .ty "tuple") (by rfl) T.n_tuple bt_tuple rfl) pa_nil))))) (pw_or1 (pt_not (pt_chain op_le op_le pe_int (pe_callB (kc_len (K := K) rfl) (by rfl) T.n_len bt_len (pa_cons (pv 1) pa_nil)) (C8.pe_gc (by rfl) T.g_MOST_JUGS)))))) (pss_cons (ps_raiseX rfl tk_of T.x_BadGoal (by rfl)) pss_nil) pss_nil) (pss_cons (ps_for (passes_of rfl) rfl (ki_any (K := K) rfl (pv 1)) (pg_name (i := 2) sc_Whole___init__.nd rfl (Or.inl rfl)) (pss_cons (ps_if (pt_not (pt_val (pe_cX (ok_within T) hr (by decide) px_of (by rfl) (pa_cons (pv 2) (pa_cons pe_int (pa_cons (C8.pe_gc (by rfl) T.g_GREATEST_goals) pa_nil)))))) (pss_cons (ps_raiseX rfl tk_of T.x_BadGoal (by rfl)) pss_nil) pss_nil) pss_nil)) (pss_cons (ps_fld (pv 0) (pv 1) rfl) pss_nil))), ?_⟩), hm, hb⟩

  rintro p es r F H0 H σ D ⟨S, rfl, ⟨y, rfl, ⟨hy, hb⟩, rfl⟩ | ⟨⟨ty, h1, h2⟩ | ⟨ss, rfl, hl⟩ | ⟨S, rfl, hW⟩, rfl⟩⟩ s k
  · skip
    simp only [J.cx_K, List.length_cons, List.length_nil, List.cons_append, List.nil_append, Nat.reduceAdd, Nat.reduceSub, List.reduceReplicate, List.append_nil] at s ⊢
    refine q_whenF (b := false) s (EvT.to (et_or (et_not (et_B (ev_cb (ea_cons (ev_v rfl) (ea_cons ev_c ea_nil)) (cb_ist isR_v)))) fun _ => et_not (et_lenT rfl)) (by simp; omega)) rfl fun σ F H s => ?_
    refine q_forT s (ev_v rfl) (fun n d => ∃ e, d = [.ow (selO p C.Whole []), .v (stS y), e]) ⟨_, rfl⟩ ?_ ?_
    · rintro F1 bs n T' δ' σ F H hT ⟨e, rfl⟩ s
      obtain ⟨a, ha, rfl⟩ := mapGet hT
      dsimp only [List.set, J.putS, List.nil_append, List.cons_append] at s
      refine q_whenF (b := false) s (et_not (et_B (ev_call (R := R_within8 K) (ea_cons (ev_v rfl) (ea_cons ev_c (ea_cons ev_c ea_nil))) ⟨_, 0, 60, true, rfl, w8_of (hb a (List.mem_of_getElem? ha)), rfl⟩))) rfl fun σ F H s => ?_
      exact q_nx s ⟨_, rfl⟩
    · rintro δ' σ F H ⟨e, rfl⟩ s
      refine q_self s rfl (ev_v rfl) T.f_Whole_state rfl (Nat.le_of_ble_eq_true rfl) fun σ F H s => ?_
      exact k σ F H _ s rfl
  · skip
    simp only [J.cx_K, List.length_cons, List.length_nil, List.cons_append, List.nil_append, Nat.reduceAdd, Nat.reduceSub, List.reduceReplicate, List.append_nil] at s ⊢
    refine q_ifT (b := true) s (et_or (b := false) (et_not (et_B (ev_cb (ea_cons (ev_v rfl) (ea_cons ev_c ea_nil)) (cb_isi h1 (.ty _) h2)))) fun h => by cases h) rfl fun σ F H s => ?_
    exact q_raise s k
  · skip
    simp only [J.cx_K, List.length_cons, List.length_nil, List.cons_append, List.nil_append, Nat.reduceAdd, Nat.reduceSub, List.reduceReplicate, List.append_nil] at s ⊢
    refine q_ifT (b := true) s (EvT.to (et_or (et_not (et_B (ev_cb (ea_cons (ev_v rfl) (ea_cons ev_c ea_nil)) (cb_ist isR_v)))) fun _ => et_not (et_lenT rfl)) (by simp; omega)) rfl fun σ F H s => ?_
    exact q_raise s k
  · skip
    simp only [J.cx_K, List.length_cons, List.length_nil, List.cons_append, List.nil_append, Nat.reduceAdd, Nat.reduceSub, List.reduceReplicate, List.append_nil] at s ⊢
    refine q_whenF (b := false) s (EvT.to (et_or (et_not (et_B (ev_cb (ea_cons (ev_v rfl) (ea_cons ev_c ea_nil)) (cb_ist isR_v)))) fun _ => et_not (et_lenT rfl)) (by simp)) rfl fun σ F H s => ?_
    refine q_forT s (ev_v rfl) (fun n d => n ≤ 1 ∧ ∃ e, d = [.ow (selO p C.Whole []), .v (tupS [iS 1, S]), e]) ⟨by omega, _, rfl⟩ ?_ ?_
    · rintro F1 bs n T' δ' σ F H hT ⟨hn, e, rfl⟩ s
      dsimp only [List.set, J.putS, List.nil_append, List.cons_append] at s
      by_cases h0 : n = 0
      · subst h0
        have e1 : T' = iS 1 := by simpa using hT.symm
        subst e1
        refine q_whenF (b := false) s (et_not (et_B (ev_call (R := R_within8 K) (ea_cons (ev_v rfl) (ea_cons ev_c (ea_cons ev_c ea_nil))) ⟨_, 0, 60, true, rfl, w8_of (by decide), rfl⟩))) rfl fun σ F H s => ?_
        exact q_nx s ⟨by omega, _, rfl⟩
      · have h1 : n = 1 := by omega
        subst h1
        have e1 : T' = S := by simpa using hT.symm
        subst e1
        refine q_ifT (b := true) s (et_not (et_B (ev_call (R := R_within8 K) (ea_cons (ev_v rfl) (ea_cons ev_c (ea_cons ev_c ea_nil))) ⟨_, 0, 60, false, rfl, hW, rfl⟩))) rfl fun σ F H s => ?_
        exact q_raise s fun F' H' g => k F' H' (bs g)
    · rintro δ' σ F H ⟨hn, _⟩ s
      simp at hn

end
end Jug


namespace Jug
open PySem PySem.Spec L2 PyProof.Rows J
section
variable {P : Program} {w : World} {K : PySem.W.Frag} {mg : Str → Option Value} {base : Heap} {C : Cs}
/-! ### fits, met, come -/
theorem max_ex : ∀ {L : List Int}, L ≠ [] → ∃ m ∈ L, ∀ y ∈ L, y ≤ m
  | [], h => absurd rfl h
  | [a], _ => ⟨a, List.mem_cons_self, fun y hy => by rw [List.mem_singleton.mp hy]; exact Int.le_refl _⟩
  | a :: b :: l, _ => by
    obtain ⟨m, hm, hx⟩ := max_ex (L := b :: l) (by simp)
    by_cases h : a ≤ m
    · exact ⟨m, List.mem_cons_of_mem _ hm, fun y hy => by
        cases hy with
        | head => exact h
        | tail _ hy => exact hx y hy⟩
    · exact ⟨a, List.mem_cons_self, fun y hy => by
        cases hy with
        | head => exact Int.le_refl _
        | tail _ hy => have := hx y hy; omega⟩
/-- whether a house can have the goal -/
def fitGB (z : List Int) : Gl → Bool
  | .holds j _ => decide ((j : Int) < (z.length : Int))
  | .some _ => true
  | .sum js _ => js.all fun j => decide (j < z.length)
  | .whole y => decide (y.length = z.length) && (List.range z.length).all fun k => decide (am y k ≤ am z k)
def okG : Gl → Prop
  | .sum js _ => js ≠ []
  | _ => True
def R_fitsG (C : Cs) (g : Gl) : Rel := fun es r => ∃ z t, es = [.v (goalS C g), .v (houseS C z t)] ∧ (okG g ∧ z.length ≤ 4) ∧ r = .v (bS (fitGB z g))
def R_fitsH (C : Cs) : Rel := fun es r => ∃ j m, R_fitsG C (.holds j m) es r
def R_fitsO (C : Cs) : Rel := fun es r => ∃ m, R_fitsG C (.some m) es r
def R_fitsS (C : Cs) : Rel := fun es r => ∃ js m, R_fitsG C (.sum js m) es r
def R_fitsW (C : Cs) : Rel := fun es r => ∃ y, R_fitsG C (.whole y) es r
/-! ### Holds_fits: slots 0:self 1:house -/
abbrev s_Holds_fits : Stmt := inClass (top 23) 1
theorem sc_Holds_fits : FnScope ["self", "house"] ["self", "house"] (defScope s_Holds_fits) := ⟨rfl, rfl, rfl, by decide +kernel, rfl, by decide +kernel, by decide +kernel⟩
theorem ok_Holds_fits (T : Top K mg C) {D : Addr} (M : MetT K D "fits" "Holds.fits" s_Holds_fits ["self", "house"]) : MetX P w K mg base 2 D "fits" (SpOf (R_fitsH C)) := by
  obtain ⟨f, fd, F, hc, hm, hb⟩ := M.ex
  refine ⟨f, fd, _, hc, hm, fn_ok F sc_Holds_fits (by walk_at "len") (fun cdv A outer s H E hr => ⟨_, (pss_cons (ps_ret (pe_cmpR op_lt (ke_fld (K := K) rfl (pv 0) rfl) (pe_callB (kc_len (K := K) rfl) (by rfl) T.n_len bt_len (pa_cons (pe_mtX0 (ok_House_sizes T T.m_House_sizes) hr (by decide) px_of (pv 1)) pa_nil)) (nomark _))) pss_nil), ?_⟩), hb⟩

  rintro es r F σ Q ⟨j, m, z, t, rfl, _, rfl⟩ s k
  simp only [J.cx_K, List.length_cons, List.length_nil, List.cons_append, List.nil_append, Nat.reduceAdd, Nat.reduceSub, List.reduceReplicate, List.append_nil] at s ⊢
  exact q_ret s (EvE.to (ev_op (ev_fld (fs := holdsF j m) (ev_v rfl) isR_v T.f_Holds_jug (by walk_at "lk")) (ev_cb (ea_cons (EvO.b (eo_meth (ev_v rfl) (by walk_at "lk") ea_nil ⟨z, t, rfl, rfl⟩)) ea_nil) (cb_lenM isR_b)) op_I0) rfl) k
/-! ### Some_fits: slots 0:self 1:house -/
abbrev s_Some_fits : Stmt := inClass (top 24) 1
theorem sc_Some_fits : FnScope ["self", "house"] ["self", "house"] (defScope s_Some_fits) := ⟨rfl, rfl, rfl, by decide +kernel, rfl, by decide +kernel, by decide +kernel⟩
theorem ok_Some_fits (T : Top K mg C) {D : Addr} (M : MetT K D "fits" "Some.fits" s_Some_fits ["self", "house"]) : MetX P w K mg base 1 D "fits" (SpOf (R_fitsO C)) := by
  obtain ⟨f, fd, F, hc, hm, hb⟩ := M.ex
  refine ⟨f, fd, _, hc, hm, fn_ok F sc_Some_fits (by walk_at "len") (fun cdv A outer s H E hr => ⟨_, (pss_cons (ps_ret pe_bl) pss_nil), ?_⟩), hb⟩

  rintro es r F σ Q ⟨m, z, t, rfl, _, rfl⟩ s k
  simp only [J.cx_K, List.length_cons, List.length_nil, List.cons_append, List.nil_append, Nat.reduceAdd, Nat.reduceSub, List.reduceReplicate, List.append_nil] at s ⊢
  exact q_ret s ev_c k
/-! ### Sum_fits: slots 0:self 1:house -/
abbrev s_Sum_fits : Stmt := inClass (top 25) 1
theorem sc_Sum_fits : FnScope ["self", "house"] ["self", "house"] (defScope s_Sum_fits) := ⟨rfl, rfl, rfl, by decide +kernel, rfl, by decide +kernel, by decide +kernel⟩
theorem ok_Sum_fits (T : Top K mg C) {D : Addr} (M : MetT K D "fits" "Sum.fits" s_Sum_fits ["self", "house"]) : MetX P w K mg base 2 D "fits" (SpOf (R_fitsS C)) := by
  obtain ⟨f, fd, F, hc, hm, hb⟩ := M.ex
  refine ⟨f, fd, _, hc, hm, fn_ok F sc_Sum_fits (by walk_at "len") (fun cdv A outer s H E hr => ⟨_, (pss_cons (ps_ret (pe_cmpR op_lt (pe_callB (kc_max (K := K) rfl rfl) (by rfl) T.n_max bt_max (pa_cons (ke_fld (K := K) rfl (pv 0) rfl) pa_nil)) (pe_callB (kc_len (K := K) rfl) (by rfl) T.n_len bt_len (pa_cons (pe_mtX0 (ok_House_sizes T T.m_House_sizes) hr (by decide) px_of (pv 1)) pa_nil)) (nomark _))) pss_nil), ?_⟩), hb⟩

  rintro es r F σ Q ⟨js, m, z, t, rfl, ⟨hne, hz⟩, rfl⟩ s k
  simp only [J.cx_K, List.length_cons, List.length_nil, List.cons_append, List.nil_append, Nat.reduceAdd, Nat.reduceSub, List.reduceReplicate, List.append_nil] at s ⊢
  have hne : js ≠ [] := hne
  obtain ⟨mx, h1, h2⟩ := max_ex (L := js.map fun j : Nat => (j : Int)) (by simp [hne])
  refine q_ret s (EvE.to (ev_op (ev_cb (ea_cons (ev_fld (fs := sumF js m) (ev_v rfl) isR_v T.f_Sum_jugs (by walk_at "lk")) ea_nil) (cb_maxl isR_v h1 h2)) (ev_cb (ea_cons (EvO.b (eo_meth (ev_v rfl) (by walk_at "lk") ea_nil ⟨z, t, rfl, rfl⟩)) ea_nil) (cb_lenM isR_b)) op_I0) ?_) k
  show Ent.v (bS (decide (mx < (z.length : Int)))) = Ent.v (bS (js.all fun j => decide (j < z.length)))
  congr 3
  obtain ⟨j, hj, rfl⟩ := List.mem_map.mp h1
  rw [Bool.eq_iff_iff, List.all_eq_true]
  simp only [decide_eq_true_eq]
  refine ⟨fun h i hi => ?_, fun h => ?_⟩
  · have := h2 _ (List.mem_map.mpr ⟨i, hi, rfl⟩)
    omega
  · have := h j hj
    omega
/-! ### Whole_fits: slots 0:self 1:house 2:sizes 3:jug -/
abbrev s_Whole_fits : Stmt := inClass (top 26) 1
theorem sc_Whole_fits : FnScope ["self", "house", "sizes", "jug"] ["self", "house"] (defScope s_Whole_fits) := ⟨rfl, rfl, rfl, by decide +kernel, rfl, by decide +kernel, by decide +kernel⟩
theorem ok_Whole_fits (T : Top K mg C) {D : Addr} (M : MetT K D "fits" "Whole.fits" s_Whole_fits ["self", "house"]) : MetX P w K mg base 2 D "fits" (SpOf (R_fitsW C)) := by
  obtain ⟨f, fd, F, hc, hm, hb⟩ := M.ex
  refine ⟨f, fd, _, hc, hm, fn_ok F sc_Whole_fits (by walk_at "len") (fun cdv A outer s H E hr => ⟨_, (pss_cons (ps_set (i := 2) sc_Whole_fits.nd rfl (Or.inr rfl) (pe_mtX0 (ok_House_sizes T T.m_House_sizes) hr (by decide) px_of (pv 1))) (pss_cons (ps_if (pt_cmpR (ko_ne (K := K) rfl hr) (pe_callB (kc_len (K := K) rfl) (by rfl) T.n_len bt_len (pa_cons (ke_fld (K := K) rfl (pv 0) rfl) pa_nil)) (pe_callB (kc_len (K := K) rfl) (by rfl) T.n_len bt_len (pa_cons (pv 2) pa_nil)) (nomark _)) (pss_cons (ps_ret pe_bl) pss_nil) pss_nil) (pss_cons (ps_ret (pe_callB (kc_all (K := K) rfl rfl) (by rfl) T.n_all bt_all (pa_cons (pe_lc (own := [("jug", 3)]) (g := gName 3) rfl sc_Whole_fits.nd (pi_range1 (by rfl) T.n_range (pa_cons (pe_callB (kc_len (K := K) rfl) (by rfl) T.n_len bt_len (pa_cons (pv 2) pa_nil)) pa_nil)) (blkOk_by (N := ["self", "house", "sizes", "jug"]) (sc := defScope s_Whole_fits) (by decide +kernel)) (fun _ _ _ _ _ => pg_name (i := 3) sc_Whole_fits.nd rfl (Or.inl rfl)) (fun _ _ _ _ _ => pts_nil) (fun _ _ _ _ _ => (pe_cmpR op_le (ke_ix (K := K) rfl hr (ke_fld (K := K) rfl (pv 0) rfl) (pv 3) (fun _ _ => rfl) (fun _ _ => rfl)) (ke_ix (K := K) rfl hr (pv 2) (pv 3) (fun _ _ => rfl) (fun _ _ => rfl)) (nomark _)))) pa_nil))) pss_nil))), ?_⟩), hb⟩

  rintro es r F σ Q ⟨y, z, t, rfl, ⟨_, hz⟩, rfl⟩ s k
  simp only [J.cx_K, List.length_cons, List.length_nil, List.cons_append, List.nil_append, Nat.reduceAdd, Nat.reduceSub, List.reduceReplicate, List.append_nil] at s ⊢
  have fy : ∀ {δ : List Ent}, δ[0]? = some (.v (goalS C (.whole y))) → EvE (tFld K (tVar 0) "state") δ (.v (stS y)) := fun h => ev_fld (fs := wholeF y) (ev_v h) isR_v T.f_Whole_state (by walk_at "lk")
  refine q_setO s (eo_meth (ev_v rfl) (by walk_at "lk") ea_nil ⟨z, t, rfl, rfl⟩) fun σ F H s => ?_
  dsimp only [List.set, J.putS, List.nil_append, List.cons_append] at s
  by_cases hl : y.length = z.length
  · refine q_whenF (b := false) s (EvT.to (et_B (ev_op (ev_cb (ea_cons (fy rfl) ea_nil) (cb_lentM isR_v)) (ev_cb (ea_cons (ev_ow rfl) ea_nil) (cb_lenM isR_b)) jv_nei)) (by rw [hl]; simp)) rfl fun σ F H s => ?_
    refine q_ret s (EvE.to (ev_cb (ea_cons (EvO.b (eo_lcRM (n := z.length) (fun k : Nat => bS (decide (am y k ≤ am z k))) (ea_cons (ev_cb (ea_cons (ev_ow rfl) ea_nil) (cb_lenM isR_b)) ea_nil) (by omega) (by omega) (fun k hk => ev_op (ev_ix (fy rfl) (ev_v rfl) (jx_t isR_v (by omega) (am_get (by omega)))) (ev_ix (ev_ow rfl) (ev_v rfl) (jx_l isR_b (by omega) (am_get (by omega)))) op_I0))) ea_nil)
      (cb_all (bs := (List.range z.length).map fun k : Nat => decide (am y k ≤ am z k)) (.inl (by rw [List.map_map]; rfl)))) ?_) k
    show Ent.v (bS (((List.range z.length).map fun k : Nat => decide (am y k ≤ am z k)).all id)) = Ent.v (bS (decide (y.length = z.length) && (List.range z.length).all fun k => decide (am y k ≤ am z k)))
    rw [List.all_map, decide_eq_true hl]
    rfl
  · refine q_ifT (b := true) s (EvT.to (et_B (ev_op (ev_cb (ea_cons (fy rfl) ea_nil) (cb_lentM isR_v)) (ev_cb (ea_cons (ev_ow rfl) ea_nil) (cb_lenM isR_b)) jv_nei)) (by simp; omega)) rfl fun σ F H s => ?_
    refine q_ret s (EvE.to ev_c ?_) k
    show Ent.v (bS false) = Ent.v (bS (decide (y.length = z.length) && (List.range z.length).all fun k => decide (am y k ≤ am z k)))
    rw [decide_eq_false hl]
    rfl
def metPre (n : Nat) : Gl → Prop
  | .holds j _ => j < n
  | .some _ => True
  | .sum _ _ => False
  | .whole _ => True
def R_met (C : Cs) (g : Gl) : Rel := fun es r => ∃ x, es = [.v (goalS C g), .v (stS x)] ∧ metPre x.length g ∧ r = .v (bS (metG x g))
def R_metH (C : Cs) : Rel := fun es r => ∃ j m, R_met C (.holds j m) es r
def R_metO (C : Cs) : Rel := fun es r => ∃ m, R_met C (.some m) es r
def R_metS (C : Cs) : Rel := fun es r => ∃ js m, R_met C (.sum js m) es r
def R_metW (C : Cs) : Rel := fun es r => ∃ y, R_met C (.whole y) es r
/-! ### Holds_met: slots 0:self 1:state -/
abbrev s_Holds_met : Stmt := inClass (top 23) 2
theorem sc_Holds_met : FnScope ["self", "state"] ["self", "state"] (defScope s_Holds_met) := ⟨rfl, rfl, rfl, by decide +kernel, rfl, by decide +kernel, by decide +kernel⟩
theorem ok_Holds_met (T : Top K mg C) {D : Addr} (M : MetT K D "met" "Holds.met" s_Holds_met ["self", "state"]) : MetX P w K mg base 1 D "met" (SpOf (R_metH C)) := by
  obtain ⟨f, fd, F, hc, hm, hb⟩ := M.ex
  refine ⟨f, fd, _, hc, hm, fn_ok F sc_Holds_met (by walk_at "len") (fun cdv A outer s H E hr => ⟨_, (pss_cons (ps_ret (pe_cmpR (ko_eq (K := K) rfl hr) (ke_ix (K := K) rfl hr (pv 1) (ke_fld (K := K) rfl (pv 0) rfl) (fun _ _ => rfl) (fun _ _ => rfl)) (ke_fld (K := K) rfl (pv 0) rfl) (nomark _))) pss_nil), ?_⟩), hb⟩

  rintro es r F σ Q ⟨j, m, x, rfl, hj, rfl⟩ s k
  simp only [J.cx_K, List.length_cons, List.length_nil, List.cons_append, List.nil_append, Nat.reduceAdd, Nat.reduceSub, List.reduceReplicate, List.append_nil] at s ⊢
  have hj : j < x.length := hj
  exact q_ret s (EvE.to (ev_op (ev_ix (ev_v rfl) (ev_fld (fs := holdsF j m) (ev_v rfl) isR_v T.f_Holds_jug (by walk_at "lk")) (jx_t (i := (j : Int)) (a := am x j) isR_v (by omega) (am_get (by omega)))) (ev_fld (fs := holdsF j m) (ev_v rfl) isR_v T.f_Holds_many (by walk_at "lk")) jv_eqi) (by rfl)) k
/-! ### Some_met: slots 0:self 1:state -/
abbrev s_Some_met : Stmt := inClass (top 24) 2
theorem sc_Some_met : FnScope ["self", "state"] ["self", "state"] (defScope s_Some_met) := ⟨rfl, rfl, rfl, by decide +kernel, rfl, by decide +kernel, by decide +kernel⟩
theorem ok_Some_met (T : Top K mg C) {D : Addr} (M : MetT K D "met" "Some.met" s_Some_met ["self", "state"]) : MetX P w K mg base 1 D "met" (SpOf (R_metO C)) := by
  obtain ⟨f, fd, F, hc, hm, hb⟩ := M.ex
  refine ⟨f, fd, _, hc, hm, fn_ok F sc_Some_met (by walk_at "len") (fun cdv A outer s H E hr => ⟨_, (pss_cons (ps_ret (ke_in (K := K) rfl hr (ke_fld (K := K) rfl (pv 0) rfl) (pv 1) (by rfl))) pss_nil), ?_⟩), hb⟩

  rintro es r F σ Q ⟨m, x, rfl, _, rfl⟩ s k
  simp only [J.cx_K, List.length_cons, List.length_nil, List.cons_append, List.nil_append, Nat.reduceAdd, Nat.reduceSub, List.reduceReplicate, List.append_nil] at s ⊢
  exact q_ret s (ev_inI (xs := x) (ev_fld (fs := someF m) (ev_v rfl) isR_v T.f_Some_many (by walk_at "lk")) (ev_v rfl) (.inr isR_v)) k
/-! ### Sum_met: slots 0:self 1:state 2:jug -/
abbrev s_Sum_met : Stmt := inClass (top 25) 2
theorem sc_Sum_met : FnScope ["self", "state", "jug"] ["self", "state"] (defScope s_Sum_met) := ⟨rfl, rfl, rfl, by decide +kernel, rfl, by decide +kernel, by decide +kernel⟩
theorem ok_Sum_met (T : Top K mg C) {D : Addr} (M : MetT K D "met" "Sum.met" s_Sum_met ["self", "state"]) : MetX P w K mg base 1 D "met" (SpOf (R_metS C)) := by
  obtain ⟨f, fd, F, hc, hm, hb⟩ := M.ex
  refine ⟨f, fd, _, hc, hm, fn_ok F sc_Sum_met (by walk_at "len") (fun cdv A outer s H E hr => ⟨_, (pss_cons (ps_ret (pe_cmpR (ko_eq (K := K) rfl hr) (pe_callB (kc_sum (K := K) rfl rfl) (by rfl) T.n_sum bt_sum (pa_cons (pe_lc (own := [("jug", 2)]) (g := gName 2) rfl sc_Sum_met.nd (ki_any (K := K) rfl (ke_fld (K := K) rfl (pv 0) rfl)) (blkOk_by (N := ["self", "state", "jug"]) (sc := defScope s_Sum_met) (by decide +kernel)) (fun _ _ _ _ _ => pg_name (i := 2) sc_Sum_met.nd rfl (Or.inl rfl)) (fun _ _ _ _ _ => pts_nil) (fun _ _ _ _ _ => (ke_ix (K := K) rfl hr (pv 1) (pv 2) (fun _ _ => rfl) (fun _ _ => rfl)))) pa_nil)) (ke_fld (K := K) rfl (pv 0) rfl) (nomark _))) pss_nil), ?_⟩), hb⟩

  rintro es r F σ Q ⟨js, m, x, rfl, h, rfl⟩ s k
  exact False.elim h
/-! ### Whole_met: slots 0:self 1:state -/
abbrev s_Whole_met : Stmt := inClass (top 26) 2
theorem sc_Whole_met : FnScope ["self", "state"] ["self", "state"] (defScope s_Whole_met) := ⟨rfl, rfl, rfl, by decide +kernel, rfl, by decide +kernel, by decide +kernel⟩
theorem ok_Whole_met (T : Top K mg C) {D : Addr} (M : MetT K D "met" "Whole.met" s_Whole_met ["self", "state"]) : MetX P w K mg base 1 D "met" (SpOf (R_metW C)) := by
  obtain ⟨f, fd, F, hc, hm, hb⟩ := M.ex
  refine ⟨f, fd, _, hc, hm, fn_ok F sc_Whole_met (by walk_at "len") (fun cdv A outer s H E hr => ⟨_, (pss_cons (ps_ret (pe_cmpR (ko_eq (K := K) rfl hr) (pv 1) (ke_fld (K := K) rfl (pv 0) rfl) (nomark _))) pss_nil), ?_⟩), hb⟩

  rintro es r F σ Q ⟨y, x, rfl, _, rfl⟩ s k
  simp only [J.cx_K, List.length_cons, List.length_nil, List.cons_append, List.nil_append, Nat.reduceAdd, Nat.reduceSub, List.reduceReplicate, List.append_nil] at s ⊢
  exact q_ret s (ev_op (ev_v rfl) (ev_fld (fs := wholeF y) (ev_v rfl) isR_v T.f_Whole_state (by walk_at "lk")) (jv_eqt isR_v isR_v)) k
def R_come (K : PySem.W.Frag) (C : Cs) : Rel := fun es r => ∃ g z t S, es = [.v (goalS C g), .v (houseS C z t), .v S] ∧ (okG g ∧ z.length ≤ 4) ∧
  ((badSt K z S ∧ r = .x C.BadState) ∨ (∃ x, S = stS x ∧ StOk z x ∧ ((fitGB z g = false ∧ r = .x C.BadGoal) ∨ (fitGB z g = true ∧ metPre x.length g ∧ r = .v (bS (metG x g))))))
theorem ev_fitsG {E : XK} {to : TE} {ta : TA} {δ : List Ent} {z : List Int} {t : Bool} {g : Gl} (h : EvE to δ (.v (goalS C g))) (ha : EvAs ta δ [.v (houseS C z t)]) (hg : okG g ∧ z.length ≤ 4) :
    EvE (fun σ H Q => tMeth C.Holds "fits" (SpOf (R_fitsH C)) [] E to ta σ H Q ∨ (fun σ H Q => tMeth C.Some "fits" (SpOf (R_fitsO C)) [] E to ta σ H Q ∨ (fun σ H Q => tMeth C.Sum "fits" (SpOf (R_fitsS C)) [] E to ta σ H Q ∨ tMeth C.Whole "fits" (SpOf (R_fitsW C)) [] E to ta σ H Q) σ H Q) σ H Q) δ (.v (bS (fitGB z g))) := by
  cases g with
  | holds j m => exact ev_orl (ev_meth (fs := holdsF j m) h (by walk_at "lk") ha ⟨j, m, z, t, rfl, hg, rfl⟩)
  | some m => exact ev_orr (ev_orl (ev_meth (fs := someF m) h (by walk_at "lk") ha ⟨m, z, t, rfl, hg, rfl⟩))
  | sum js m => exact ev_orr (ev_orr (ev_orl (ev_meth (fs := sumF js m) h (by walk_at "lk") ha ⟨js, m, z, t, rfl, hg, rfl⟩)))
  | whole y => exact ev_orr (ev_orr (ev_orr (ev_meth (fs := wholeF y) h (by walk_at "lk") ha ⟨y, z, t, rfl, hg, rfl⟩)))
/-! ### Goal_come: slots 0:self 1:house 2:state -/
abbrev s_Goal_come : Stmt := inClass (top 22) 2
theorem sc_Goal_come : FnScope ["self", "house", "state"] ["self", "house", "state"] (defScope s_Goal_come) := ⟨rfl, rfl, rfl, by decide +kernel, rfl, by decide +kernel, by decide +kernel⟩
theorem ok_Goal_come (T : Top K mg C) {D : Addr} (M : MetT K D "come" "Goal.come" s_Goal_come ["self", "house", "state"]) : MetX P w K mg base 3 D "come" (SpOf (R_come K C)) := by
  obtain ⟨f, fd, F, hc, hm, hb⟩ := M.ex
  refine ⟨f, fd, _, hc, hm, fn_ok F sc_Goal_come (by walk_at "len") (fun cdv A outer s H E hr => ⟨_, (pss_cons (ps_expr (pe_mtX (ok_House_check T T.m_House_check) hr (by decide) px_of (pv 1) (pa_cons (pv 2) pa_nil))) (pss_cons (ps_if (pt_not (pt_val (pe_or2 (pe_mtX (ok_Holds_fits T T.m_Holds_fits) hr (by decide) px_of (pv 0) (pa_cons (pv 1) pa_nil)) (pe_or2 (pe_mtX (ok_Some_fits T T.m_Some_fits) hr (by decide) px_of (pv 0) (pa_cons (pv 1) pa_nil)) (pe_or2 (pe_mtX (ok_Sum_fits T T.m_Sum_fits) hr (by decide) px_of (pv 0) (pa_cons (pv 1) pa_nil)) (pe_mtX (ok_Whole_fits T T.m_Whole_fits) hr (by decide) px_of (pv 0) (pa_cons (pv 1) pa_nil))))))) (pss_cons (ps_raiseX rfl tk_of T.x_BadGoal (by rfl)) pss_nil) pss_nil) (pss_cons (ps_ret (pe_or2 (pe_mtX (ok_Holds_met T T.m_Holds_met) hr (by decide) px_of (pv 0) (pa_cons (pv 2) pa_nil)) (pe_or2 (pe_mtX (ok_Some_met T T.m_Some_met) hr (by decide) px_of (pv 0) (pa_cons (pv 2) pa_nil)) (pe_or2 (pe_mtX (ok_Sum_met T T.m_Sum_met) hr (by decide) px_of (pv 0) (pa_cons (pv 2) pa_nil)) (pe_mtX (ok_Whole_met T T.m_Whole_met) hr (by decide) px_of (pv 0) (pa_cons (pv 2) pa_nil)))))) pss_nil))), ?_⟩), hb⟩

  rintro es r F σ Q ⟨g, z, t, S, rfl, hz, ⟨hb, rfl⟩ | ⟨x, rfl, hx, h⟩⟩ s k
  · skip
    simp only [J.cx_K, List.length_cons, List.length_nil, List.cons_append, List.nil_append, Nat.reduceAdd, Nat.reduceSub, List.reduceReplicate, List.append_nil] at s ⊢
    exact q_dropX s (ex_meth (fs := hoF z t) (ev_v rfl) (by walk_at "lk") (ea_cons (ev_v rfl) ea_nil) ⟨z, t, S, rfl, hz.2, .inr ⟨hb, rfl⟩⟩) k
  · skip
    simp only [J.cx_K, List.length_cons, List.length_nil, List.cons_append, List.nil_append, Nat.reduceAdd, Nat.reduceSub, List.reduceReplicate, List.append_nil] at s ⊢
    refine q_drop s (ev_meth (fs := hoF z t) (ev_v rfl) (by walk_at "lk") (ea_cons (ev_v rfl) ea_nil) ⟨z, t, _, rfl, hz.2, .inl ⟨x, rfl, hx, rfl⟩⟩) fun σ F H s => ?_
    rcases h with ⟨hf, rfl⟩ | ⟨hf, hm, rfl⟩
    · refine q_ifT (b := true) s (EvT.to (et_not (et_B (ev_fitsG (ev_v rfl) (ea_cons (ev_v rfl) ea_nil) hz))) (by rw [hf]; rfl)) rfl fun σ F H s => ?_
      exact q_raise s k
    · refine q_whenF (b := false) s (EvT.to (et_not (et_B (ev_fitsG (ev_v rfl) (ea_cons (ev_v rfl) ea_nil) hz))) (by rw [hf]; rfl)) rfl fun σ F H s => ?_
      refine q_ret s ?_ k
      cases g with
      | holds j m => exact ev_orl (ev_meth (fs := holdsF j m) (ev_v rfl) (by walk_at "lk") (ea_cons (ev_v rfl) ea_nil) ⟨j, m, x, rfl, hm, rfl⟩)
      | some m => exact ev_orr (ev_orl (ev_meth (fs := someF m) (ev_v rfl) (by walk_at "lk") (ea_cons (ev_v rfl) ea_nil) ⟨m, x, rfl, hm, rfl⟩))
      | sum js m => exact False.elim hm
      | whole y => exact ev_orr (ev_orr (ev_orr (ev_meth (fs := wholeF y) (ev_v rfl) (by walk_at "lk") (ea_cons (ev_v rfl) ea_nil) ⟨y, x, rfl, hm, rfl⟩)))

end
end Jug


namespace Jug
open PySem PySem.Spec L2 PyProof.Rows J
section
variable {P : Program} {w : World} {K : PySem.W.Frag} {mg : Str → Option Value} {base : Heap} {C : Cs}
/-! ### all moves, all states -/
def poursOf (n i : Nat) : List Mv := ((List.range n).filter fun j : Nat => !decide ((j : Int) = (i : Int))).map fun j : Nat => Mv.pour i j
def pours (n : Nat) : List Mv := (List.range n).flatMap (poursOf n)
def allMoves (n : Nat) (t : Bool) : List Mv := pours n ++ (if t = true then (List.range n).map Mv.fill ++ (List.range n).map Mv.empty else [])
theorem poursOf_len (n i : Nat) : (poursOf n i).length ≤ n := by
  unfold poursOf
  rw [List.length_map]
  have h := List.length_filter_le (fun j : Nat => !decide ((j : Int) = (i : Int))) (List.range n)
  rw [List.length_range] at h
  exact h
theorem flat_len {α : Type} {f : Nat → List α} {m : Nat} (h : ∀ i, (f i).length ≤ m) : ∀ l : List Nat, (l.flatMap f).length ≤ l.length * m
  | [] => by simp
  | a :: l => by
    rw [List.flatMap_cons, List.length_append, List.length_cons, Nat.succ_mul]
    have := flat_len h l
    have := h a
    omega
theorem flat_succ {α : Type} (f : Nat → List α) (i : Nat) : (List.range (i + 1)).flatMap f = (List.range i).flatMap f ++ f i := by
  rw [List.range_succ, List.flatMap_append]
  simp

def R_moves (C : Cs) : Rel := fun es r => ∃ z t, es = [.v (houseS C z t)] ∧ (z.length ≤ 4) ∧ r = .o (lstO ((allMoves z.length t).map (moveS C)))
/-! ### House_moves: slots 0:self 1:jugs 2:found 3:one 4:other 5:jug -/
abbrev s_House_moves : Stmt := inClass (top 41) 3
theorem sc_House_moves : FnScope ["self", "jugs", "found", "one", "other", "jug"] ["self"] (defScope s_House_moves) := ⟨rfl, rfl, rfl, by decide +kernel, rfl, by decide +kernel, by decide +kernel⟩
theorem ok_House_moves (T : Top K mg C) {D : Addr} (M : MetT K D "moves" "House.moves" s_House_moves ["self"]) : MetX P w K mg base 5 D "moves" (SpOf (R_moves C)) := by
  obtain ⟨f, fd, F, hc, hm, hb⟩ := M.ex
  refine ⟨f, fd, _, hc, hm, fn_ok F sc_House_moves (by walk_at "len") (fun cdv A outer s H E hr => ⟨_, (pss_cons (ps_set (i := 1) sc_House_moves.nd rfl (Or.inl rfl) (pe_listRg rfl (by rfl) T.n_list (prg_1 (by rfl) T.n_range (pe_callB (kc_len (K := K) rfl) (by rfl) T.n_len bt_len (pa_cons (ke_fld (K := K) rfl (pv 0) rfl) pa_nil))))) (pss_cons (ps_set (i := 2) sc_House_moves.nd rfl (Or.inl rfl) (pe_lst pa_nil)) (pss_cons (ps_for (passes_of rfl) rfl (ki_any (K := K) rfl (pv 1)) (pg_name (i := 3) sc_House_moves.nd rfl (Or.inr rfl)) (pss_cons (ps_expr (pe_bm PySem.F.plainAttrs_list PySem.F.slot_list_extend PySem.F.type_list_extend mt_extend (pv 2) (pa_cons (pe_lc (own := [("other", 4)]) (g := gName 4) rfl sc_House_moves.nd (ki_any (K := K) rfl (pv 1)) (blkOk_by (N := ["self", "jugs", "found", "one", "other", "jug"]) (sc := defScope s_House_moves) (by decide +kernel)) (fun _ _ _ _ _ => pg_name (i := 4) sc_House_moves.nd rfl (Or.inl rfl)) (fun _ _ _ _ _ => (pts_one (pt_cmpR (ko_ne (K := K) rfl hr) (pv 4) (pv 3) (nomark _)))) (fun _ _ _ _ _ => (pe_mkX (ok_Pour___init__ T) hr (by decide) passN (by rfl) (pa_cons (pv 3) (pa_cons (pv 4) pa_nil))))) pa_nil))) pss_nil)) (pss_cons (ps_if (pt_val (ke_fld (K := K) rfl (pv 0) rfl)) (pss_cons (ps_expr (pe_bm PySem.F.plainAttrs_list PySem.F.slot_list_extend PySem.F.type_list_extend mt_extend (pv 2) (pa_cons (pe_lc (own := [("jug", 5)]) (g := gName 5) rfl sc_House_moves.nd (ki_any (K := K) rfl (pv 1)) (blkOk_by (N := ["self", "jugs", "found", "one", "other", "jug"]) (sc := defScope s_House_moves) (by decide +kernel)) (fun _ _ _ _ _ => pg_name (i := 5) sc_House_moves.nd rfl (Or.inl rfl)) (fun _ _ _ _ _ => pts_nil) (fun _ _ _ _ _ => (pe_mkX (ok_Fill___init__ T) hr (by decide) passN (by rfl) (pa_cons (pv 5) pa_nil)))) pa_nil))) (pss_cons (ps_expr (pe_bm PySem.F.plainAttrs_list PySem.F.slot_list_extend PySem.F.type_list_extend mt_extend (pv 2) (pa_cons (pe_lc (own := [("jug", 5)]) (g := gName 5) rfl sc_House_moves.nd (ki_any (K := K) rfl (pv 1)) (blkOk_by (N := ["self", "jugs", "found", "one", "other", "jug"]) (sc := defScope s_House_moves) (by decide +kernel)) (fun _ _ _ _ _ => pg_name (i := 5) sc_House_moves.nd rfl (Or.inl rfl)) (fun _ _ _ _ _ => pts_nil) (fun _ _ _ _ _ => (pe_mkX (ok_Empty___init__ T) hr (by decide) passN (by rfl) (pa_cons (pv 5) pa_nil)))) pa_nil))) pss_nil)) pss_nil) (pss_cons (ps_ret (pv 2)) pss_nil))))), ?_⟩), hb⟩

  rintro es r F σ Q ⟨z, t, rfl, hz, rfl⟩ s k
  simp only [J.cx_K, List.length_cons, List.length_nil, List.cons_append, List.nil_append, Nat.reduceAdd, Nat.reduceSub, List.reduceReplicate, List.append_nil] at s ⊢
  refine q_setO s (eo_listRg (n := z.length) (by walk_at "ev") rfl (by omega)) fun σ F H s => ?_
  dsimp only [List.set, J.putS, List.nil_append, List.cons_append] at s
  refine q_setO s (eo_lstN ea_nilV (Nat.le_of_ble_eq_true rfl)) fun σ F H s => ?_
  dsimp only [List.set, J.putS, List.nil_append, List.cons_append] at s
  refine q_freeze s 1 rfl fun F s => ?_
  dsimp only [List.set, J.putS, List.nil_append, List.cons_append] at s
  refine q_forL s (ev_v rfl) (fun n d => ∃ e, d = [.v (houseS C z t), .v (lstS ((List.range z.length).map fun k : Nat => iS (k : Int))), .ow (lstO (((List.range n).flatMap (poursOf z.length)).map (moveS C))), e, .un, .un]) ⟨_, rfl⟩ ?_ ?_
  · rintro F1 bs n T' δ' σ F H hT ⟨e, rfl⟩ s
    obtain ⟨hn, rfl⟩ : n < z.length ∧ T' = iS (n : Int) := by
      have hn : n < ((List.range z.length).map fun k : Nat => iS (k : Int)).length := (List.getElem?_eq_some_iff.mp hT).1
      rw [List.length_map, List.length_range] at hn
      rw [List.getElem?_map, List.getElem?_range hn] at hT
      exact ⟨hn, (Option.some.inj hT).symm⟩
    dsimp only [List.set, J.putS, List.nil_append, List.cons_append] at s
    have hl : ((List.range n).flatMap (poursOf z.length)).length ≤ 16 := by
      have h1 := flat_len (poursOf_len z.length) (List.range n)
      rw [List.length_range] at h1
      have h2 : n * z.length ≤ 4 * 4 := Nat.mul_le_mul (by omega) hz
      omega
    have hp := poursOf_len z.length n
    have hj : ∀ j ∈ List.range z.length, (!decide ((j : Int) = (n : Int))) = true → n ≤ 3 ∧ j ≤ 3 ∧ n ≠ j := fun j hj hne => by
      have := List.mem_range.mp hj
      refine ⟨by omega, by omega, ?_⟩
      rintro rfl
      simp at hne
    have hl2 : (((List.range n).flatMap (poursOf z.length)).map (moveS C)).length + (((List.range z.length).filter fun j : Nat => !decide ((j : Int) = (n : Int))).map fun j : Nat => moveS C (.pour n j)).length ≤ 100000 := by
      rw [List.length_map, List.length_map]
      have e1 : (List.filter (fun j : Nat => !decide ((j : Int) = (n : Int))) (List.range z.length)).length = (poursOf z.length n).length := by unfold poursOf; rw [List.length_map]
      omega
    refine q_ext s rfl (eo_lcL (fun k : Nat => iS (k : Int)) (List.range z.length) (fun j : Nat => !decide ((j : Int) = (n : Int))) (fun j : Nat => moveS C (.pour n j)) (by walk_at "ev") (by walk_at "isr") (by rw [List.length_range]; omega)
      (fun j _ => by walk_at "et") (fun j hm hne => ev_make (by walk_at "args") (pour_ok (hj j hm hne)))).b isR_b hl2 fun σ F H s => ?_
    dsimp only [List.set, J.putS, List.nil_append, List.cons_append] at s
    refine q_nx s ⟨.v (iS (n : Int)), ?_⟩
    rw [flat_succ, List.map_append]
    conv => rhs; unfold poursOf
    rw [List.map_map]
    rfl
  · rintro δ' σ F H ⟨e, rfl⟩ s
    rw [List.length_map, List.length_range] at s
    have hl : ((List.range z.length).flatMap (poursOf z.length)).length ≤ 16 := by
      have h1 := flat_len (poursOf_len z.length) (List.range z.length)
      rw [List.length_range] at h1
      have h2 : z.length * z.length ≤ 4 * 4 := Nat.mul_le_mul hz hz
      omega
    refine q_when s (by walk_at "et") (fun ht σ F H s => ?_) (fun ht σ F H s => ?_)
    · subst ht
      refine q_ext s rfl (eo_lcM (fun k : Nat => iS (k : Int)) (List.range z.length) (fun j : Nat => moveS C (.fill j)) (by walk_at "ev") (by walk_at "isr") (by rw [List.length_range]; omega)
        (fun j hj => ev_make (by walk_at "args") (jug_ok (by have := List.mem_range.mp hj; omega)))).b isR_b (by simp only [List.length_map, List.length_range, List.length_append]; omega) fun σ F H s => ?_
      dsimp only [List.set, J.putS, List.nil_append, List.cons_append] at s
      refine q_ext s rfl (eo_lcM (fun k : Nat => iS (k : Int)) (List.range z.length) (fun j : Nat => moveS C (.empty j)) (by walk_at "ev") (by walk_at "isr") (by rw [List.length_range]; omega)
        (fun j hj => ev_make (by walk_at "args") (jug_ok (by have := List.mem_range.mp hj; omega)))).b isR_b (by simp only [List.length_map, List.length_range, List.length_append]; omega) fun σ F H s => ?_
      dsimp only [List.set, J.putS, List.nil_append, List.cons_append] at s
      refine q_thru ?_
      refine q_retOw s rfl fun p ho F' H' g h0 hf hp hq => k p ho F' H' g h0 hf hp ?_
      unfold allMoves pours
      rw [if_pos rfl, List.map_append, List.map_append, List.map_map, List.map_map, ← List.append_assoc]
      exact hq
    · subst ht
      refine q_retOw s rfl fun p ho F' H' g h0 hf hp hq => k p ho F' H' g h0 hf hp ?_
      unfold allMoves pours
      rw [if_neg Bool.false_ne_true, List.append_nil]
      exact hq

def nextStates (acc : List (List Int)) (size : Int) : List (List Int) := acc.flatMap fun st => (List.range (size + 1).toNat).map fun m : Nat => st ++ [(m : Int)]
def statesTo (z : List Int) (n : Nat) : List (List Int) := (z.take n).foldl nextStates [[]]
def statesOf (z : List Int) : List (List Int) := statesTo z z.length
theorem statesTo_succ {z : List Int} {n : Nat} {a : Int} (h : z[n]? = some a) : statesTo z (n + 1) = nextStates (statesTo z n) a := by
  unfold statesTo
  rw [List.take_add_one, h, List.foldl_append]
  rfl
theorem next_len (acc : List (List Int)) {a : Int} (h : 0 ≤ a) : ((nextStates acc a).length : Int) = (acc.length : Int) * (a + 1) := by
  unfold nextStates
  induction acc with
  | nil => simp
  | cons x l ih =>
    rw [List.flatMap_cons, List.length_append, List.length_map, List.length_range, List.length_cons, Int.natCast_add, ih, Int.natCast_add, Int.add_mul]
    omega
theorem statesTo_len {z : List Int} (h : ∀ x ∈ z, 1 ≤ x ∧ x ≤ 60) : ∀ n, n ≤ z.length → ((statesTo z n).length : Int) = prodTo z n
  | 0, _ => by unfold statesTo prodTo; simp
  | n + 1, hn => by
    have hx : z[n]? = some z[n] := List.getElem?_eq_getElem (by omega)
    have hb := h z[n] (List.getElem_mem _)
    rw [statesTo_succ hx, prodTo_succ hx, next_len _ (by omega), statesTo_len h n (by omega)]
theorem prodTo_mono {z : List Int} (h : ∀ x ∈ z, 1 ≤ x ∧ x ≤ 60) {n : Nat} : ∀ k, n + k ≤ z.length → prodTo z n ≤ prodTo z (n + k)
  | 0, _ => Int.le_refl _
  | k + 1, hk => by
    have hx : z[n + k]? = some z[n + k] := List.getElem?_eq_getElem (by omega)
    have hb := h z[n + k] (List.getElem_mem _)
    have ih := prodTo_mono h (n := n) k (by omega)
    have hp := prodTo_pos h (n + k) (by omega)
    rw [show n + (k + 1) = (n + k) + 1 from rfl, prodTo_succ hx]
    have h3 : prodTo z (n + k) * 1 ≤ prodTo z (n + k) * (z[n + k] + 1) := Int.mul_le_mul_of_nonneg_left (by omega) (by omega)
    omega
theorem statesTo_le {z : List Int} (h : HouseOk z) {n : Nat} (hn : n ≤ z.length) : (statesTo z n).length ≤ 2000 := by
  have h1 := statesTo_len h.sz n hn
  have h2 := prodTo_mono h.sz (n := n) (z.length - n) (by omega)
  rw [show n + (z.length - n) = z.length by omega] at h2
  have h3 := h.pr
  omega
theorem next_take {acc : List (List Int)} {a : Int} {n : Nat} {st : List Int} (h : acc[n]? = some st) : nextStates (acc.take (n + 1)) a = nextStates (acc.take n) a ++ (List.range (a + 1).toNat).map fun m : Nat => st ++ [(m : Int)] := by
  unfold nextStates
  rw [List.take_add_one, h, List.flatMap_append]
  simp
theorem next_le (acc : List (List Int)) {a : Int} (n : Nat) : (nextStates (acc.take n) a).length ≤ (nextStates acc a).length := by
  have e : nextStates acc a = nextStates (acc.take n) a ++ nextStates (acc.drop n) a := by
    unfold nextStates
    rw [← List.flatMap_append, List.take_append_drop]
  rw [e, List.length_append]
  omega
/-- each state's length -/
theorem statesTo_wid {z : List Int} : ∀ n, n ≤ z.length → ∀ st ∈ statesTo z n, st.length = n
  | 0, _, st, h => by
    unfold statesTo at h
    simp at h
    rw [h]
    rfl
  | n + 1, hn, st, h => by
    have hx : z[n]? = some z[n] := List.getElem?_eq_getElem (by omega)
    rw [statesTo_succ hx] at h
    unfold nextStates at h
    obtain ⟨x, hx, h⟩ := List.mem_flatMap.mp h
    obtain ⟨m, _, rfl⟩ := List.mem_map.mp h
    rw [List.length_append, statesTo_wid n (by omega) x hx]
    rfl

def R_states (C : Cs) : Rel := fun es r => ∃ z t, es = [.v (houseS C z t)] ∧ HouseOk z ∧ r = .o (lstO ((statesOf z).map stS))
/-! ### House_states: slots 0:self 1:found 2:size 3:longer 4:state 5:many -/
abbrev s_House_states : Stmt := inClass (top 41) 4
theorem sc_House_states : FnScope ["self", "found", "size", "longer", "state", "many"] ["self"] (defScope s_House_states) := ⟨rfl, rfl, rfl, by decide +kernel, rfl, by decide +kernel, by decide +kernel⟩
theorem ok_House_states (T : Top K mg C) {D : Addr} (M : MetT K D "states" "House.states" s_House_states ["self"]) : MetX P w K mg base 1 D "states" (SpOf (R_states C)) := by
  obtain ⟨f, fd, F, hc, hm, hb⟩ := M.ex
  refine ⟨f, fd, _, hc, hm, fn_ok F sc_House_states (by walk_at "len") (fun cdv A outer s H E hr => ⟨_, (pss_cons (ps_set (i := 1) sc_House_states.nd rfl (Or.inl rfl) (pe_lst (pa_cons (pe_tup pa_nil) pa_nil))) (pss_cons (ps_for (passes_of rfl) rfl (ki_any (K := K) rfl (ke_fld (K := K) rfl (pv 0) rfl)) (pg_name (i := 2) sc_House_states.nd rfl (Or.inl rfl)) (pss_cons (ps_set (i := 3) sc_House_states.nd rfl (Or.inl rfl) (pe_lst pa_nil)) (pss_cons (ps_for (passes_of rfl) rfl (ki_any (K := K) rfl (pv 1)) (pg_name (i := 4) sc_House_states.nd rfl (Or.inr rfl)) (pss_cons (ps_expr (pe_bm PySem.F.plainAttrs_list PySem.F.slot_list_extend PySem.F.type_list_extend mt_extend (pv 3) (pa_cons (pe_lc (own := [("many", 5)]) (g := gName 5) rfl sc_House_states.nd (pi_range1 (by rfl) T.n_range (pa_cons (pe_op (ko_add (K := K) rfl) (pv 2) pe_int) pa_nil)) (blkOk_by (N := ["self", "found", "size", "longer", "state", "many"]) (sc := defScope s_House_states) (by decide +kernel)) (fun _ _ _ _ _ => pg_name (i := 5) sc_House_states.nd rfl (Or.inl rfl)) (fun _ _ _ _ _ => pts_nil) (fun _ _ _ _ _ => (pe_op (ko_add (K := K) rfl) (pv 4) (pe_tup (pa_cons (pv 5) pa_nil))))) pa_nil))) pss_nil)) (pss_cons (ps_set (i := 1) sc_House_states.nd rfl (Or.inl rfl) (pv 3)) pss_nil)))) (pss_cons (ps_ret (pv 1)) pss_nil))), ?_⟩), hb⟩

  rintro es r F σ Q ⟨z, t, rfl, hz, rfl⟩ s k
  simp only [J.cx_K, List.length_cons, List.length_nil, List.cons_append, List.nil_append, Nat.reduceAdd, Nat.reduceSub, List.reduceReplicate, List.append_nil] at s ⊢
  refine q_setO s (o := lstO ([[]].map stS)) (eo_lstN (ea_consV (ev_tupN ea_nilV (Nat.le_of_ble_eq_true rfl)) ea_nilV) (Nat.le_of_ble_eq_true rfl)) fun σ F H s => ?_
  dsimp only [List.set, J.putS, List.nil_append, List.cons_append] at s
  refine q_forL s (by walk_at "ev") (fun n d => ∃ e e2 e3, d = [.v (houseS C z t), .ow (lstO ((statesTo z n).map stS)), e, e2, e3, .un]) ⟨_, _, _, rfl⟩ ?_ ?_
  · rintro F1 bs n T' δ' σ F H hT ⟨e, e2, e3, rfl⟩ s
    obtain ⟨a, ha, rfl⟩ := mapGet hT
    have hb := hz.sz a (List.mem_of_getElem? ha)
    have hn : n < z.length := (List.getElem?_eq_some_iff.mp ha).1
    have hle : (nextStates (statesTo z n) a).length ≤ 2000 := by
      rw [← statesTo_succ ha]
      exact statesTo_le hz (by omega)
    dsimp only [List.set, J.putS, List.nil_append, List.cons_append] at s
    refine q_setO s (eo_lstN ea_nilV (Nat.le_of_ble_eq_true rfl)) fun σ F H s => ?_
    dsimp only [List.set, J.putS, List.nil_append, List.cons_append] at s
    refine q_freeze s 1 rfl fun F s => ?_
    dsimp only [List.set, J.putS, List.nil_append, List.cons_append] at s
    refine q_forL s (by walk_at "ev") (fun m d => ∃ e3, d = [.v (houseS C z t), .v (lstS ((statesTo z n).map stS)), .v (iS a), .ow (lstO ((nextStates ((statesTo z n).take m) a).map stS)), e3, .un]) ⟨_, rfl⟩ ?_ ?_
    · rintro F2 bs2 m T' δ' σ F H hT ⟨e3, rfl⟩ s
      obtain ⟨st, hst, rfl⟩ := mapGet hT
      have hw := statesTo_wid n (by omega) st (List.mem_of_getElem? hst)
      have hz4 := hz.l4
      dsimp only [List.set, J.putS, List.nil_append, List.cons_append] at s
      have hl : ((nextStates ((statesTo z n).take m) a).map stS).length + ((List.range (a + 1).toNat).map fun m : Nat => stS (st ++ [(m : Int)])).length ≤ 100000 := by
        have h1 := next_le (statesTo z n) (a := a) m
        rw [List.length_map, List.length_map, List.length_range]
        omega
      refine q_ext s rfl (eo_lcRM (n := (a + 1).toNat) (fun m : Nat => stS (st ++ [(m : Int)])) (by walk_at "args") rfl (by omega) (fun m hm => EvE.to (ev_op (by walk_at "ev") (by walk_at "ev") (jv_addt ?_)) ?_)).b isR_b hl fun σ F H s => ?_
      · rw [List.length_map]
        show st.length + 1 ≤ 100000
        omega
      · unfold stS
        rw [List.map_append]
        rfl
      dsimp only [List.set, J.putS, List.nil_append, List.cons_append] at s
      refine q_nx s ⟨.v (stS st), ?_⟩
      rw [next_take hst, List.map_append, List.map_map]
      rfl
    · rintro δ' σ F H ⟨e3, rfl⟩ s
      rw [List.length_map, List.take_length] at s
      refine q_mv s rfl fun σ F H s => ?_
      dsimp only [List.set, J.putS, List.nil_append, List.cons_append] at s
      exact q_nx s ⟨.v (iS a), .un, e3, by rw [statesTo_succ ha]⟩
  · rintro δ' σ F H ⟨e, e2, e3, rfl⟩ s
    rw [List.length_map] at s
    exact q_retOw s rfl k

end
end Jug


namespace Jug
open PySem PySem.Spec L2 PyProof.Rows J
section
variable {P : Program} {w : World} {K : PySem.W.Frag} {mg : Str → Option Value} {base : Heap} {C : Cs}
/-! ### what is never called here -/
def R_no : Rel := fun _ _ => False
theorem no_fn {CX : CXT} {f : Addr} {fd : FuncData} {ps : List Str} {k : Nat} : FnOk P w K mg base CX k f fd ps (SpOf R_no) :=
  ⟨fun vs H Q E ⟨_, _, _, _, _, _, h, _⟩ => h.elim, fun A outer s H args us vs Q E _ _ _ _ ⟨_, _, _, _, _, _, h, _⟩ => h.elim⟩
def R_noI : RelI := fun _ _ => False
theorem no_in {CX : CXT} {f : Addr} {fd : FuncData} {ps : List Str} {k : Nat} {D : Addr} : FnOk P w K mg base CX k f fd ps (SpInit D R_noI) :=
  ⟨fun vs H Q E ⟨_, _, _, _, _, _, _, _, _, _, _, h, _⟩ => h.elim, fun A outer s H args us vs Q E _ _ _ _ ⟨_, _, _, _, _, _, _, _, _, _, _, h, _⟩ => h.elim⟩
theorem ok_way_to (T : Top K mg C) : CalX P w K mg base 1 "way_to" (SpOf R_no) := by
  obtain ⟨f, fd, F, hm, hb⟩ := T.d_way_to.ex
  exact ⟨f, fd, _, no_fn, hm, F.kp, hb⟩
theorem ok_move_text (T : Top K mg C) : CalX P w K mg base 1 "move_text" (SpOf R_no) := by
  obtain ⟨f, fd, F, hm, hb⟩ := T.d_move_text.ex
  exact ⟨f, fd, _, no_fn, hm, F.kp, hb⟩
theorem ok_Poured___init__ (T : Top K mg C) : MakX P w K mg base 1 "Poured" C.Poured (SpInit C.Poured R_noI) := by
  obtain ⟨f, fd, F, hk, hm, hb⟩ := T.i_Poured.ex
  exact ⟨f, fd, _, hk, no_in, hm, hb⟩
theorem ok_Barred___init__ (T : Top K mg C) : MakX P w K mg base 1 "Barred" C.Barred (SpInit C.Barred R_noI) := by
  obtain ⟨f, fd, F, hk, hm, hb⟩ := T.i_Barred.ex
  exact ⟨f, fd, _, hk, no_in, hm, hb⟩
theorem q_forX {F0 H0 F H : Hp} {σ : L2.St} {δ : List Ent} {ta : TE} {g : TG} {tu tz : TS} {D : Ends} {E : XK} {c : Addr} (s : J.St F0 H0 F H σ δ) (h : EvX ta δ E c) (k : ∀ F' H', Grow F0 H0 F' H' → E (.ref c) none H') : tSeq (tFor (iAny K ta) g tu) tz D σ H :=
  .inl (h F0 H0 F H σ s (fun F' H' g => k F' H' (s.g.trans g)) _)
/-! ### the walk, in a house of one jug without a tap -/
def R_spread (C : Cs) : Rel := fun es r => ∃ z x, es = [.v (houseS C z false), .v (stS x)] ∧ z.length = 1 ∧ r = .p (dicO [(kx x, iS 0)]) (dicO [])
theorem ev_behind {E : XK} {to : TE} {ta : TA} {δ : List Ent} {z x : List Int} {m : Mv} (h : EvE to δ (.v (moveS C m))) (ha : EvAs ta δ [.v (intsS z), .v (stS x)]) (hm : inN m z.length ∧ x.length = z.length ∧ z.length ≤ 4) :
    EvE (fun σ H Q => tMeth C.Pour "behind" (SpOf (R_behindP C)) [] E to ta σ H Q ∨ (fun σ H Q => tMeth C.Fill "behind" (SpOf (R_behindF C)) [] E to ta σ H Q ∨ tMeth C.Empty "behind" (SpOf (R_behindE C)) [] E to ta σ H Q) σ H Q) δ (.v (stS (behind z x m))) := by
  cases m with
  | pour i j => exact ev_orl (ev_meth (fs := pourF i j) h (by walk_at "lk") ha ⟨i, j, z, x, rfl, hm, rfl⟩)
  | fill i => exact ev_orr (ev_orl (ev_meth (fs := jugF i) h (by walk_at "lk") ha ⟨i, z, x, rfl, hm, rfl⟩))
  | empty i => exact ev_orr (ev_orr (ev_meth (fs := jugF i) h (by walk_at "lk") ha ⟨i, z, x, rfl, hm, rfl⟩))
/-! ### spread: slots 0:house 1:state 2:sizes 3:moves 4:heights 5:ahead 6:waiting 7:at 8:here 9:move 10:there -/
abbrev s_spread : Stmt := top 28
theorem sc_spread : FnScope ["house", "state", "sizes", "moves", "heights", "ahead", "waiting", "at", "here", "move", "there"] ["house", "state"] (defScope s_spread) := ⟨rfl, rfl, rfl, by decide +kernel, rfl, by decide +kernel, by decide +kernel⟩
theorem ok_spread (T : Top K mg C) : CalX P w K mg base 6 "spread" (SpOf (R_spread C)) := by
  obtain ⟨f, fd, F, hm, hb⟩ := T.d_spread.ex
  refine ⟨f, fd, _, fn_ok F sc_spread (by walk_at "len") (fun cdv A outer s H E hr => ⟨_, (pss_cons (ps_set (i := 2) sc_spread.nd rfl (Or.inl rfl) (pe_mtX0 (ok_House_sizes T T.m_House_sizes) hr (by decide) px_of (pv 0))) (pss_cons (ps_set (i := 3) sc_spread.nd rfl (Or.inl rfl) (pe_mtX0 (ok_House_moves T T.m_House_moves) hr (by decide) px_of (pv 0))) (pss_cons (ps_set (i := 4) sc_spread.nd rfl (Or.inl rfl) (pe_disp1 hr (pv 1) pe_int)) (pss_cons (ps_set (i := 5) sc_spread.nd rfl (Or.inl rfl) pe_dnewT) (pss_cons (ps_set (i := 6) sc_spread.nd rfl (Or.inl rfl) (pe_lst (pa_cons (pv 1) pa_nil))) (pss_cons (ps_set (i := 7) sc_spread.nd rfl (Or.inl rfl) pe_int) (pss_cons (ps_while (passes_of rfl) (pt_cmpR op_lt (pv 7) (pe_callB (kc_len (K := K) rfl) (by rfl) T.n_len bt_len (pa_cons (pv 6) pa_nil)) (nomark _)) (pss_cons (ps_set (i := 8) sc_spread.nd rfl (Or.inl rfl) (ke_ix (K := K) rfl hr (pv 6) (pv 7) (fun _ _ => rfl) (fun _ _ => rfl))) (pss_cons (ps_for (passes_of rfl) rfl (ki_any (K := K) rfl (pv 3)) (pg_name (i := 9) sc_spread.nd rfl (Or.inl rfl)) (pss_cons (ps_set (i := 10) sc_spread.nd rfl (Or.inl rfl) (pe_or2 (pe_mtX (ok_Pour_behind T T.m_Pour_behind) hr (by decide) px_of (pv 9) (pa_cons (pv 2) (pa_cons (pv 8) pa_nil))) (pe_or2 (pe_mtX (ok_Fill_behind T T.m_Fill_behind) hr (by decide) px_of (pv 9) (pa_cons (pv 2) (pa_cons (pv 8) pa_nil))) (pe_mtX (ok_Empty_behind T T.m_Empty_behind) hr (by decide) px_of (pv 9) (pa_cons (pv 2) (pa_cons (pv 8) pa_nil)))))) (pss_cons (ps_if (kt_ni (K := K) rfl hr (pv 10) (pv 4) (by rfl)) (pss_cons (ps_dput (hu_of hr) (pv 4) (pv 10) (pe_op (ko_add (K := K) rfl) (ke_ix (K := K) rfl hr (pv 4) (pv 8) (fun _ _ => rfl) (fun _ _ => rfl)) pe_int) rfl) (pss_cons (ps_dput (hu_of hr) (pv 5) (pv 10) (pe_tup (pa_cons (pv 8) (pa_cons (pv 9) pa_nil))) rfl) (pss_cons (ps_expr (pe_bm PySem.F.plainAttrs_list PySem.F.slot_list_append PySem.F.type_list_append mt_append (pv 6) (pa_cons (pv 10) pa_nil))) pss_nil))) pss_nil) pss_nil))) (pss_cons (ps_aug (i := 7) sc_spread.nd rfl (Or.inl rfl) pe_int ip_add) pss_nil)))) (pss_cons (ps_ret (pe_tup (pa_cons (pv 4) (pa_cons (pv 5) pa_nil)))) pss_nil)))))))), ?_⟩), hm, F.kp, hb⟩

  rintro es r F σ Q ⟨z, x, rfl, hz, rfl⟩ s k
  simp only [J.cx_K, List.length_cons, List.length_nil, List.cons_append, List.nil_append, Nat.reduceAdd, Nat.reduceSub, List.reduceReplicate, List.append_nil] at s ⊢
  have hz4 : z.length ≤ 4 := by omega
  have hmv : (allMoves z.length false).map (moveS C) = [] := by rw [hz]; rfl
  refine q_setO s (eo_meth (ev_v rfl) (by walk_at "lk") ea_nil ⟨z, false, rfl, rfl⟩) fun σ F H s => ?_
  dsimp only [List.set, J.putS, List.nil_append, List.cons_append] at s
  refine q_setO s (eo_meth (ev_v rfl) (by walk_at "lk") ea_nil ⟨z, false, rfl, hz4, rfl⟩) fun σ F H s => ?_
  dsimp only [List.set, J.putS, List.nil_append, List.cons_append] at s
  rw [hmv] at s
  refine q_freeze s 2 rfl fun F s => ?_
  dsimp only [List.set, J.putS, List.nil_append, List.cons_append] at s
  refine q_freeze s 3 rfl fun F s => ?_
  dsimp only [List.set, J.putS, List.nil_append, List.cons_append] at s
  refine q_setO s (eo_disp1 (S := iS 0) (ev_v rfl) ev_c) fun σ F H s => ?_
  dsimp only [List.set, J.putS, List.nil_append, List.cons_append] at s
  refine q_setO s eo_newT fun σ F H s => ?_
  dsimp only [List.set, J.putS, List.nil_append, List.cons_append] at s
  refine q_setO s (o := lstO ([x].map stS)) (eo_lstN (ea_consV (ev_v rfl) ea_nilV) (Nat.le_of_ble_eq_true rfl)) fun σ F H s => ?_
  dsimp only [List.set, J.putS, List.nil_append, List.cons_append] at s
  refine q_set s (S := iS 0) ev_c fun σ F H s => ?_
  dsimp only [List.set, J.putS, List.nil_append, List.cons_append] at s
  refine q_while s (fun m' d => ∃ (n : Nat) (e8 : Ent), m' = 1 - n ∧ n ≤ 1 ∧ d = [.v (houseS C z false), .v (stS x), .v (intsS z), .v (lstS []), .ow (dicO [(kx x, iS 0)]), .ow (dicO []), .ow (lstO ([x].map stS)), .v (iS (n : Int)), e8, .un, .un]) 1 ⟨0, .un, rfl, Nat.zero_le _, rfl⟩ ?_
  rintro m' δ' σ F H ⟨n, e8, rfl, hn, rfl⟩ s
  refine ⟨decide ((n : Int) < 1), et_Test (ev_op (ev_v rfl) (ev_cb (ea_cons (ev_ow rfl) ea_nil) (cb_lenM isR_b)) op_I0), fun hb σ F H s => ?_, fun hb σ F H s => ?_⟩
  · have h0 : n = 0 := by have := of_decide_eq_true hb; omega
    subst h0
    refine q_set s (S := stS x) (ev_ix (ev_ow rfl) (ev_v rfl) (jx_l (xs := [x]) isR_b (by omega) rfl)) fun σ F H s => ?_
    dsimp only [List.set, J.putS, List.nil_append, List.cons_append] at s
    refine q_forL s (ev_v rfl) (fun j d => d = [.v (houseS C z false), .v (stS x), .v (intsS z), .v (lstS []), .ow (dicO [(kx x, iS 0)]), .ow (dicO []), .ow (lstO ([x].map stS)), .v (iS ((0 : Nat) : Int)), .v (stS x), .un, .un]) rfl ?_ ?_
    · rintro F1 bs j T' δ' σ F H hT rfl s
      simp at hT
    · rintro δ' σ F H rfl s
      refine q_aug (i := 7) (a := ((0 : Nat) : Int)) (b := 1) s rfl ev_c fun σ F H s => ?_
      dsimp only [List.set, J.putS, List.nil_append, List.cons_append] at s
      exact q_nx s ⟨0, by omega, 1, .v (stS x), rfl, by omega, rfl⟩
  · exact q_retP s rfl rfl (by decide) k
def R_reached (K : PySem.W.Frag) (C : Cs) : Rel := fun es r => ∃ z t S, es = [.v (houseS C z t), .v S] ∧ z.length ≤ 4 ∧
  ((badSt K z S ∧ r = .x C.BadState) ∨ (∃ x, t = false ∧ z.length = 1 ∧ S = stS x ∧ StOk z x ∧ TOk 1 x ∧ r = .o (lstO ([x].map stS))))
/-! ### reached: slots 0:house 1:state -/
abbrev s_reached : Stmt := top 29
theorem sc_reached : FnScope ["house", "state"] ["house", "state"] (defScope s_reached) := ⟨rfl, rfl, rfl, by decide +kernel, rfl, by decide +kernel, by decide +kernel⟩
theorem ok_reached (T : Top K mg C) : CalX P w K mg base 7 "reached" (SpOf (R_reached K C)) := by
  obtain ⟨f, fd, F, hm, hb⟩ := T.d_reached.ex
  refine ⟨f, fd, _, fn_ok F sc_reached (by walk_at "len") (fun cdv A outer s H E hr => ⟨_, (pss_cons (ps_expr (pe_mtX (ok_House_check T T.m_House_check) hr (by decide) px_of (pv 0) (pa_cons (pv 1) pa_nil))) (pss_cons (ps_ret (pe_callB (kc_sorted (K := K) rfl rfl) (by rfl) T.n_sorted bt_sorted (pa_cons (ke_ix (K := K) rfl hr (pe_cX (ok_spread T) hr (by decide) px_of (by rfl) (pa_cons (pv 0) (pa_cons (pv 1) pa_nil))) pe_int (fun _ _ => rfl) (fun _ _ => rfl)) pa_nil))) pss_nil)), ?_⟩), hm, F.kp, hb⟩

  rintro es r F σ Q ⟨z, t, S, rfl, hz, ⟨hb, rfl⟩ | ⟨x, rfl, hz1, rfl, hx, ht, rfl⟩⟩ s k
  · skip
    simp only [J.cx_K, List.length_cons, List.length_nil, List.cons_append, List.nil_append, Nat.reduceAdd, Nat.reduceSub, List.reduceReplicate, List.append_nil] at s ⊢
    exact q_dropX s (ex_meth (fs := hoF z t) (ev_v rfl) (by walk_at "lk") (ea_cons (ev_v rfl) ea_nil) ⟨z, t, S, rfl, hz, .inr ⟨hb, rfl⟩⟩) k
  · skip
    simp only [J.cx_K, List.length_cons, List.length_nil, List.cons_append, List.nil_append, Nat.reduceAdd, Nat.reduceSub, List.reduceReplicate, List.append_nil] at s ⊢
    refine q_drop s (ev_meth (fs := hoF z false) (ev_v rfl) (by walk_at "lk") (ea_cons (ev_v rfl) ea_nil) ⟨z, false, _, rfl, hz, .inl ⟨x, rfl, hx, rfl⟩⟩) fun σ F H s => ?_
    have e : sortT [x] = [x] := by unfold sortT; simp
    refine q_retO s (EvO.to (eo_sortKT (L := [x]) (d := 1) (ev_ixP0 (ep_call (ea_cons (ev_v rfl) (ea_cons (ev_v rfl) ea_nil)) ⟨z, x, rfl, hz1, rfl⟩) ev_c) isR_b rfl (Nat.le_refl _) (fun y hy => by rw [List.mem_singleton.mp hy]; exact ht)) (by rw [e])) k
def R_measured (K : PySem.W.Frag) (C : Cs) : Rel := fun es r => ∃ z t S, es = [.v (houseS C z t), .v S] ∧ z.length ≤ 4 ∧ badSt K z S ∧ r = .x C.BadState
/-! ### measured: slots 0:house 1:state 2:found 3:there 4:many -/
abbrev s_measured : Stmt := top 30
theorem sc_measured : FnScope ["house", "state", "found", "there", "many"] ["house", "state"] (defScope s_measured) := ⟨rfl, rfl, rfl, by decide +kernel, rfl, by decide +kernel, by decide +kernel⟩
theorem ok_measured (T : Top K mg C) : CalX P w K mg base 8 "measured" (SpOf (R_measured K C)) := by
  obtain ⟨f, fd, F, hm, hb⟩ := T.d_measured.ex
  refine ⟨f, fd, _, fn_ok F sc_measured (by walk_at "len") (fun cdv A outer s H E hr => ⟨_, (pss_cons (ps_set (i := 2) sc_measured.nd rfl (Or.inl rfl) pe_dnewK) (pss_cons (ps_for (passes_of rfl) rfl (ki_any (K := K) rfl (pe_cX (ok_reached T) hr (by decide) px_of (by rfl) (pa_cons (pv 0) (pa_cons (pv 1) pa_nil)))) (pg_name (i := 3) sc_measured.nd rfl (Or.inl rfl)) (pss_cons (ps_for (passes_of rfl) rfl (ki_any (K := K) rfl (pv 3)) (pg_name (i := 4) sc_measured.nd rfl (Or.inl rfl)) (pss_cons (ps_dput (hu_of hr) (pv 2) (pv 4) pe_bl rfl) pss_nil)) pss_nil)) (pss_cons (ps_ret (pe_callB (kc_sorted (K := K) rfl rfl) (by rfl) T.n_sorted bt_sorted (pa_cons (pv 2) pa_nil))) pss_nil))), ?_⟩), hm, F.kp, hb⟩

  rintro es r F σ Q ⟨z, t, S, rfl, hz, hb, rfl⟩ s k
  simp only [J.cx_K, List.length_cons, List.length_nil, List.cons_append, List.nil_append, Nat.reduceAdd, Nat.reduceSub, List.reduceReplicate, List.append_nil] at s ⊢
  refine q_setO s (o := setO []) eo_newK fun σ F H s => ?_
  dsimp only [List.set, J.putS, List.nil_append, List.cons_append] at s
  exact q_forX s (ex_call (ea_cons (ev_v rfl) (ea_cons (ev_v rfl) ea_nil)) ⟨z, t, S, rfl, hz, .inl ⟨hb, rfl⟩⟩) k
def R_tied (K : PySem.W.Frag) (C : Cs) : Rel := fun es r => ∃ z t S1 S2, es = [.v (houseS C z t), .v S1, .v S2] ∧ z.length ≤ 4 ∧ (badSt K z S1 ∨ (∃ x, S1 = stS x ∧ StOk z x ∧ badSt K z S2)) ∧ r = .x C.BadState
/-! ### tied: slots 0:house 1:one 2:other -/
abbrev s_tied : Stmt := top 31
theorem sc_tied : FnScope ["house", "one", "other"] ["house", "one", "other"] (defScope s_tied) := ⟨rfl, rfl, rfl, by decide +kernel, rfl, by decide +kernel, by decide +kernel⟩
theorem ok_tied (T : Top K mg C) : CalX P w K mg base 7 "tied" (SpOf (R_tied K C)) := by
  obtain ⟨f, fd, F, hm, hb⟩ := T.d_tied.ex
  refine ⟨f, fd, _, fn_ok F sc_tied (by walk_at "len") (fun cdv A outer s H E hr => ⟨_, (pss_cons (ps_expr (pe_mtX (ok_House_check T T.m_House_check) hr (by decide) px_of (pv 0) (pa_cons (pv 1) pa_nil))) (pss_cons (ps_expr (pe_mtX (ok_House_check T T.m_House_check) hr (by decide) px_of (pv 0) (pa_cons (pv 2) pa_nil))) (pss_cons (ps_ret (pe_and (ke_in (K := K) rfl hr (pv 2) (ke_ix (K := K) rfl hr (pe_cX (ok_spread T) hr (by decide) px_of (by rfl) (pa_cons (pv 0) (pa_cons (pv 1) pa_nil))) pe_int (fun _ _ => rfl) (fun _ _ => rfl)) (by rfl)) (pe_one (ke_in (K := K) rfl hr (pv 1) (ke_ix (K := K) rfl hr (pe_cX (ok_spread T) hr (by decide) px_of (by rfl) (pa_cons (pv 0) (pa_cons (pv 2) pa_nil))) pe_int (fun _ _ => rfl) (fun _ _ => rfl)) (by rfl))))) pss_nil))), ?_⟩), hm, F.kp, hb⟩

  rintro es r F σ Q ⟨z, t, S1, S2, rfl, hz, hb | ⟨x, rfl, hx, hb⟩, rfl⟩ s k
  · skip
    simp only [J.cx_K, List.length_cons, List.length_nil, List.cons_append, List.nil_append, Nat.reduceAdd, Nat.reduceSub, List.reduceReplicate, List.append_nil] at s ⊢
    exact q_dropX s (ex_meth (fs := hoF z t) (ev_v rfl) (by walk_at "lk") (ea_cons (ev_v rfl) ea_nil) ⟨z, t, S1, rfl, hz, .inr ⟨hb, rfl⟩⟩) k
  · skip
    simp only [J.cx_K, List.length_cons, List.length_nil, List.cons_append, List.nil_append, Nat.reduceAdd, Nat.reduceSub, List.reduceReplicate, List.append_nil] at s ⊢
    refine q_drop s (ev_meth (fs := hoF z t) (ev_v rfl) (by walk_at "lk") (ea_cons (ev_v rfl) ea_nil) ⟨z, t, _, rfl, hz, .inl ⟨x, rfl, hx, rfl⟩⟩) fun σ F H s => ?_
    exact q_dropX s (ex_meth (fs := hoF z t) (ev_v rfl) (by walk_at "lk") (ea_cons (ev_v rfl) ea_nil) ⟨z, t, S2, rfl, hz, .inr ⟨hb, rfl⟩⟩) k
/-! ### the fewest -/
theorem is_G (T : Top K mg C) (g : Gl) : CbE (rIsi K) [.v (goalS C g), .v (kS (.ref C.Goal))] (.v (bS true)) := by
  cases g with
  | holds j m => exact cb_isi (ty_ins T.ik_Holds isR_v) (.own _) T.is_Holds_Goal
  | some m => exact cb_isi (ty_ins T.ik_Some isR_v) (.own _) T.is_Some_Goal
  | sum js m => exact cb_isi (ty_ins T.ik_Sum isR_v) (.own _) T.is_Sum_Goal
  | whole y => exact cb_isi (ty_ins T.ik_Whole isR_v) (.own _) T.is_Whole_Goal
theorem ex_come {E : XK} {to : TE} {ta : TA} {δ : List Ent} {es : List Ent} {g : Gl} {c : Addr} (h : EvE to δ (.v (goalS C g))) (ha : EvAs ta δ es) (hR : R_come K C (.v (goalS C g) :: es) (.x c)) :
    EvX (fun σ H Q => tMeth C.Holds "come" (SpOf (R_come K C)) [] E to ta σ H Q ∨ (fun σ H Q => tMeth C.Some "come" (SpOf (R_come K C)) [] E to ta σ H Q ∨ (fun σ H Q => tMeth C.Sum "come" (SpOf (R_come K C)) [] E to ta σ H Q ∨ tMeth C.Whole "come" (SpOf (R_come K C)) [] E to ta σ H Q) σ H Q) σ H Q) δ E c := by
  cases g with
  | holds j m => exact ex_orl (ex_meth (fs := holdsF j m) h (by walk_at "lk") ha hR)
  | some m => exact ex_orr (ex_orl (ex_meth (fs := someF m) h (by walk_at "lk") ha hR))
  | sum js m => exact ex_orr (ex_orr (ex_orl (ex_meth (fs := sumF js m) h (by walk_at "lk") ha hR)))
  | whole y => exact ex_orr (ex_orr (ex_orr (ex_meth (fs := wholeF y) h (by walk_at "lk") ha hR)))
def nonGl (K : PySem.W.Frag) (C : Cs) (S : Slot) : Prop := ∃ t, TyE K (.v S) t ∧ PySem.W.kitOne K t (.ref C.Goal) = some false
def R_fewest (K : PySem.W.Frag) (C : Cs) : Rel := fun es r => ∃ z t S G, es = [.v (houseS C z t), .v S, .v G] ∧ z.length ≤ 4 ∧
  ((badSt K z S ∧ r = .x C.BadState) ∨ (∃ x, S = stS x ∧ StOk z x ∧ (nonGl K C G ∨ ∃ g, G = goalS C g ∧ okG g ∧ fitGB z g = false) ∧ r = .x C.BadGoal))
/-! ### fewest: slots 0:house 1:state 2:goal 3:heights 4:ahead 5:there 6:one -/
abbrev s_fewest : Stmt := top 37
theorem sc_fewest : FnScope ["house", "state", "goal", "heights", "ahead", "there", "one"] ["house", "state", "goal"] (defScope s_fewest) := ⟨rfl, rfl, rfl, by decide +kernel, rfl, by decide +kernel, by decide +kernel⟩
theorem ok_fewest (T : Top K mg C) : CalX P w K mg base 7 "fewest" (SpOf (R_fewest K C)) := by
  obtain ⟨f, fd, F, hm, hb⟩ := T.d_fewest.ex
  refine ⟨f, fd, _, fn_ok F sc_fewest (by walk_at "len") (fun cdv A outer s H E hr => ⟨_, (pss_cons (ps_expr (pe_mtX (ok_House_check T T.m_House_check) hr (by decide) px_of (pv 0) (pa_cons (pv 1) pa_nil))) (pss_cons (ps_if (pt_not (pt_val (pe_callB (kc_isi (K := K) rfl) (by rfl) T.n_isinstance bt_isinstance (pa_cons (pv 2) (pa_cons (C8.pe_gc (by rfl) T.k_Goal) pa_nil))))) (pss_cons (ps_raiseX rfl tk_of T.x_BadGoal (by rfl)) pss_nil) pss_nil) (pss_cons (ps_expr (pe_or2 (pe_mtX (ok_Goal_come T T.m_Holds_come) hr (by decide) px_of (pv 2) (pa_cons (pv 0) (pa_cons (pv 1) pa_nil))) (pe_or2 (pe_mtX (ok_Goal_come T T.m_Some_come) hr (by decide) px_of (pv 2) (pa_cons (pv 0) (pa_cons (pv 1) pa_nil))) (pe_or2 (pe_mtX (ok_Goal_come T T.m_Sum_come) hr (by decide) px_of (pv 2) (pa_cons (pv 0) (pa_cons (pv 1) pa_nil))) (pe_mtX (ok_Goal_come T T.m_Whole_come) hr (by decide) px_of (pv 2) (pa_cons (pv 0) (pa_cons (pv 1) pa_nil))))))) (pss_cons (ps_asg (pe_cX (ok_spread T) hr (by decide) px_of (by rfl) (pa_cons (pv 0) (pa_cons (pv 1) pa_nil))) (pg_tup rfl (pgs_cons (pg_name (i := 3) sc_fewest.nd rfl (Or.inr rfl)) (pgs_cons (pg_name (i := 4) sc_fewest.nd rfl (Or.inl rfl)) pgs_nil)))) (pss_cons (ps_for (passes_of rfl) rfl (ki_any (K := K) rfl (pv 3)) (pg_name (i := 5) sc_fewest.nd rfl (Or.inl rfl)) (pss_cons (ps_if (pt_val (pe_or2 (pe_mtX (ok_Holds_met T T.m_Holds_met) hr (by decide) px_of (pv 2) (pa_cons (pv 5) pa_nil)) (pe_or2 (pe_mtX (ok_Some_met T T.m_Some_met) hr (by decide) px_of (pv 2) (pa_cons (pv 5) pa_nil)) (pe_or2 (pe_mtX (ok_Sum_met T T.m_Sum_met) hr (by decide) px_of (pv 2) (pa_cons (pv 5) pa_nil)) (pe_mtX (ok_Whole_met T T.m_Whole_met) hr (by decide) px_of (pv 2) (pa_cons (pv 5) pa_nil)))))) (pss_cons (ps_ret (pe_mkX (ok_Poured___init__ T) hr (by decide) px_of (by rfl) (pa_cons (pe_cX (ok_way_to T) hr (by decide) px_of (by rfl) (pa_cons (pv 4) (pa_cons (pv 5) pa_nil))) (pa_cons (pe_lc (own := [("one", 6)]) (g := gName 6) rfl sc_fewest.nd (ki_any (K := K) rfl (pv 3)) (blkOk_by (N := ["house", "state", "goal", "heights", "ahead", "there", "one"]) (sc := defScope s_fewest) (by decide +kernel)) (fun _ _ _ _ _ => pg_name (i := 6) sc_fewest.nd rfl (Or.inl rfl)) (fun _ _ _ _ _ => pts_nil) (fun _ _ _ _ _ => (pe_tup (pa_cons (pv 6) (pa_cons (ke_ix (K := K) rfl hr (pv 3) (pv 6) (fun _ _ => rfl) (fun _ _ => rfl)) pa_nil))))) pa_nil)))) pss_nil) pss_nil) pss_nil)) (pss_cons (ps_ret (pe_mkX (ok_Barred___init__ T) hr (by decide) px_of (by rfl) (pa_cons (pe_callTy (kc_listW (K := K) rfl rfl) (by rfl) T.n_list bt_list (pa_cons (pv 3) pa_nil)) pa_nil))) pss_nil)))))), ?_⟩), hm, F.kp, hb⟩

  rintro es r F σ Q ⟨z, t, S, G, rfl, hz, ⟨hb, rfl⟩ | ⟨x, rfl, hx, ⟨ty, h1, h2⟩ | ⟨g, rfl, hg, hf⟩, rfl⟩⟩ s k
  · skip
    simp only [J.cx_K, List.length_cons, List.length_nil, List.cons_append, List.nil_append, Nat.reduceAdd, Nat.reduceSub, List.reduceReplicate, List.append_nil] at s ⊢
    exact q_dropX s (ex_meth (fs := hoF z t) (ev_v rfl) (by walk_at "lk") (ea_cons (ev_v rfl) ea_nil) ⟨z, t, S, rfl, hz, .inr ⟨hb, rfl⟩⟩) k
  · skip
    simp only [J.cx_K, List.length_cons, List.length_nil, List.cons_append, List.nil_append, Nat.reduceAdd, Nat.reduceSub, List.reduceReplicate, List.append_nil] at s ⊢
    refine q_drop s (ev_meth (fs := hoF z t) (ev_v rfl) (by walk_at "lk") (ea_cons (ev_v rfl) ea_nil) ⟨z, t, _, rfl, hz, .inl ⟨x, rfl, hx, rfl⟩⟩) fun σ F H s => ?_
    refine q_ifT (b := true) s (et_not (et_B (ev_cb (ea_cons (ev_v rfl) (ea_cons ev_c ea_nil)) (cb_isi h1 (.own _) h2)))) rfl fun σ F H s => ?_
    exact q_raise s k
  · skip
    simp only [J.cx_K, List.length_cons, List.length_nil, List.cons_append, List.nil_append, Nat.reduceAdd, Nat.reduceSub, List.reduceReplicate, List.append_nil] at s ⊢
    refine q_drop s (ev_meth (fs := hoF z t) (ev_v rfl) (by walk_at "lk") (ea_cons (ev_v rfl) ea_nil) ⟨z, t, _, rfl, hz, .inl ⟨x, rfl, hx, rfl⟩⟩) fun σ F H s => ?_
    refine q_whenF (b := false) s (et_not (et_B (ev_cb (ea_cons (ev_v rfl) (ea_cons ev_c ea_nil)) (is_G T g)))) rfl fun σ F H s => ?_
    exact q_dropX s (ex_come (ev_v rfl) (ea_cons (ev_v rfl) (ea_cons (ev_v rfl) ea_nil)) ⟨g, z, t, _, rfl, ⟨hg, hz⟩, .inr ⟨x, rfl, hx, .inl ⟨hf, rfl⟩⟩⟩) k
def R_routine_text (K : PySem.W.Frag) (C : Cs) : Rel := fun es r => ∃ S, es = [.v S] ∧ badMoves K C S ∧ r = .x C.BadMove
/-! ### routine_text: slots 0:moves 1:move -/
abbrev s_routine_text : Stmt := top 44
theorem sc_routine_text : FnScope ["moves", "move"] ["moves"] (defScope s_routine_text) := ⟨rfl, rfl, rfl, by decide +kernel, rfl, by decide +kernel, by decide +kernel⟩
theorem ok_routine_text (T : Top K mg C) : CalX P w K mg base 2 "routine_text" (SpOf (R_routine_text K C)) := by
  obtain ⟨f, fd, F, hm, hb⟩ := T.d_routine_text.ex
  refine ⟨f, fd, _, fn_ok F sc_routine_text (by walk_at "len") (fun cdv A outer s H E hr => ⟨_, (pss_cons (ps_expr (pe_cX (ok_check_moves T) hr (by decide) px_of (by rfl) (pa_cons (pv 0) pa_nil))) (pss_cons (ps_ret (ke_join (K := K) rfl pe_str (pe_lc (own := [("move", 1)]) (g := gName 1) rfl sc_routine_text.nd (ki_any (K := K) rfl (pv 0)) (blkOk_by (N := ["moves", "move"]) (sc := defScope s_routine_text) (by decide +kernel)) (fun _ _ _ _ _ => pg_name (i := 1) sc_routine_text.nd rfl (Or.inl rfl)) (fun _ _ _ _ _ => pts_nil) (fun _ _ _ _ _ => (pe_cX (ok_move_text T) hr (by decide) passN (by rfl) (pa_cons (pv 1) pa_nil)))))) pss_nil)), ?_⟩), hm, F.kp, hb⟩

  rintro es r F σ Q ⟨S, rfl, hb, rfl⟩ s k
  simp only [J.cx_K, List.length_cons, List.length_nil, List.cons_append, List.nil_append, Nat.reduceAdd, Nat.reduceSub, List.reduceReplicate, List.append_nil] at s ⊢
  exact q_dropX s (ex_call (ea_cons (ev_v rfl) ea_nil) ⟨S, rfl, .inr ⟨hb, rfl⟩⟩) k

end
end Jug


namespace Jug
open PySem PySem.Spec L2 PyProof.Rows J
section
variable {P : Program} {w : World} {K : PySem.W.Frag} {mg : Str → Option Value} {base : Heap} {C : Cs}
/-! ### the doors -/
theorem ex_ifT {tt : TT} {ta tb : TE} {δ : List Ent} {E : XK} {c : Addr} {b : Bool} (h : EvT tt δ b) (hb : b = true) (h1 : EvX ta δ E c) : EvX (tIf tt ta tb) δ E c := fun F0 H0 F H σ s q Q => h F0 H0 F H σ s _ fun F1 H1 g1 => by
  subst hb
  show ta σ H1 Q
  exact h1 F0 H0 F1 H1 σ (s.grow g1) (fun F' H' g => q F' H' (g1.trans g)) Q
theorem ex_ifF {tt : TT} {ta tb : TE} {δ : List Ent} {E : XK} {c : Addr} {b : Bool} (h : EvT tt δ b) (hb : b = false) (h1 : EvX tb δ E c) : EvX (tIf tt ta tb) δ E c := fun F0 H0 F H σ s q Q => h F0 H0 F H σ s _ fun F1 H1 g1 => by
  subst hb
  show tb σ H1 Q
  exact h1 F0 H0 F1 H1 σ (s.grow g1) (fun F' H' g => q F' H' (g1.trans g)) Q
theorem ev_house {tb : TE} {δ : List Ent} {E : XK} {b : Bool} (hb : EvE tb δ (.v (bS b))) : EvE (tMake C.House (SpInit C.House (R_House K C)) [] E (tCons (tLst (tCons (tC (.int 3)) (tCons (tC (.int 5)) tNil))) (tCons tb tNil))) δ (.v (houseS C [3, 5] b)) :=
  ev_make (RI := R_House K C) (ea_cons (eo_lstN (ss := [iS 3, iS 5]) (ea_consV ev_c (ea_consV ev_c ea_nilV)) (Nat.le_of_ble_eq_true rfl)).v (ea_cons hb ea_nil)) (house_ok (z := [3, 5]) ⟨by decide, by decide, by decide, by decide⟩)
theorem ev_pr {δ : List Ent} {a b : Int} : EvE (tTup (tCons (tC (.int a)) (tCons (tC (.int b)) tNil))) δ (.v (stS [a, b])) := ev_tupN (ss := [iS a, iS b]) (ea_consV ev_c (ea_consV ev_c ea_nilV)) (by simp)
theorem ev_mkP {δ : List Ent} {E : XK} {i j : Nat} (h : i ≤ 3 ∧ j ≤ 3 ∧ i ≠ j) : EvE (tMake C.Pour (SpInit C.Pour (R_Pour K C)) [] E (tCons (tC (.int (i : Int))) (tCons (tC (.int (j : Int))) tNil))) δ (.v (moveS C (.pour i j))) := ev_make (RI := R_Pour K C) (ea_cons ev_c (ea_cons ev_c ea_nil)) (pour_ok h)
theorem ev_mkF {δ : List Ent} {E : XK} {i : Nat} (h : i ≤ 3) : EvE (tMake C.Fill (SpInit C.Fill (R_Jug K C)) [] E (tCons (tC (.int (i : Int))) tNil)) δ (.v (moveS C (.fill i))) := ev_make (RI := R_Jug K C) (ea_cons ev_c ea_nil) (jug_ok h)
theorem ev_mkE {δ : List Ent} {E : XK} {i : Nat} (h : i ≤ 3) : EvE (tMake C.Empty (SpInit C.Empty (R_Jug K C)) [] E (tCons (tC (.int (i : Int))) tNil)) δ (.v (moveS C (.empty i))) := ev_make (RI := R_Jug K C) (ea_cons ev_c ea_nil) (jug_ok h)
theorem et_door {δ : List Ent} {i : Nat} {d n : Int} (h : δ[i]? = some (.v (iS d))) : EvT (tTest (tOp (rEqJ K) (tVar i) (tC (.int n)))) δ (decide (d = n)) := et_Test (ev_op (ev_v h) ev_c jv_eqi)
theorem st35 {x : List Int} (h : x.length = 2) (h1 : 0 ≤ am x 0 ∧ am x 0 ≤ 3) (h2 : 0 ≤ am x 1 ∧ am x 1 ≤ 5) : StOk [3, 5] x := stOk_iff.mpr ⟨h, fun i hi => by
  have hi : i < 2 := hi
  have : i = 0 ∨ i = 1 := by omega
  rcases this with rfl | rfl
  · exact h1
  · exact h2⟩

def R_lhouse (K : PySem.W.Frag) (C : Cs) : Rel := fun es r => ∃ (d : Int) (S : Slot), es = [.v (iS d), .v S] ∧ ((d = 0 ∧ badHouse K S (bS true)) ∨ (d = 1 ∧ badHouse K (intsS [3]) S)) ∧ r = .x C.BadHouse
/-! ### _law_house: slots 0:_law_door 1:_law_bad -/
abbrev s__law_house : Stmt := top 49
theorem sc__law_house : FnScope ["_law_door", "_law_bad"] ["_law_door", "_law_bad"] (defScope s__law_house) := ⟨rfl, rfl, rfl, by decide +kernel, rfl, by decide +kernel, by decide +kernel⟩
theorem ok__law_house (T : Top K mg C) : CalX P w K mg base 4 "_law_house" (SpOf (R_lhouse K C)) := by
  obtain ⟨f, fd, F, hm, hb⟩ := T.d__law_house.ex
  refine ⟨f, fd, _, fn_ok F sc__law_house (by walk_at "len") (fun cdv A outer s H E hr => ⟨_, (pss_cons (ps_ret (pe_ifExp (pt_cmpR (ko_eq (K := K) rfl hr) (pv 0) pe_int (nomark _)) (pe_mkX (ok_House___init__ T) hr (by decide) px_of (by rfl) (pa_cons (pv 1) (pa_cons pe_bl pa_nil))) (pe_mkX (ok_House___init__ T) hr (by decide) px_of (by rfl) (pa_cons (pe_lst (pa_cons pe_int pa_nil)) (pa_cons (pv 1) pa_nil))))) pss_nil), ?_⟩), hm, F.kp, hb⟩

  rintro es r F σ Q ⟨d, S, rfl, ⟨rfl, hb⟩ | ⟨rfl, hb⟩, rfl⟩ s k
  · skip
    simp only [J.cx_K, List.length_cons, List.length_nil, List.cons_append, List.nil_append, Nat.reduceAdd, Nat.reduceSub, List.reduceReplicate, List.append_nil] at s ⊢
    exact q_retX s (ex_ifT (et_door rfl) (by decide) (ex_make (RI := R_House K C) (ea_cons (ev_v rfl) (ea_cons ev_c ea_nil)) (house_bad hb))) k
  · skip
    simp only [J.cx_K, List.length_cons, List.length_nil, List.cons_append, List.nil_append, Nat.reduceAdd, Nat.reduceSub, List.reduceReplicate, List.append_nil] at s ⊢
    exact q_retX s (ex_ifF (et_door rfl) (by decide) (ex_make (RI := R_House K C) (ea_cons (eo_lstN (ss := [iS 3]) (ea_consV ev_c ea_nilV) (Nat.le_of_ble_eq_true rfl)).v (ea_cons (ev_v rfl) ea_nil)) (house_bad hb))) k
def R_lstate (K : PySem.W.Frag) (C : Cs) : Rel := fun es r => ∃ (d : Nat) (S : Slot), es = [.v (iS (d : Int)), .v S] ∧ (d ≤ 8 ∧ badSt K [3, 5] S) ∧ r = .x C.BadState
/-! ### _law_with_state: slots 0:_law_door 1:_law_bad 2:_law_house_here -/
abbrev s__law_with_state : Stmt := top 50
theorem sc__law_with_state : FnScope ["_law_door", "_law_bad", "_law_house_here"] ["_law_door", "_law_bad"] (defScope s__law_with_state) := ⟨rfl, rfl, rfl, by decide +kernel, rfl, by decide +kernel, by decide +kernel⟩
theorem ok__law_with_state (T : Top K mg C) : CalX P w K mg base 9 "_law_with_state" (SpOf (R_lstate K C)) := by
  obtain ⟨f, fd, F, hm, hb⟩ := T.d__law_with_state.ex
  refine ⟨f, fd, _, fn_ok F sc__law_with_state (by walk_at "len") (fun cdv A outer s H E hr => ⟨_, (pss_cons (ps_set (i := 2) sc__law_with_state.nd rfl (Or.inl rfl) (pe_mkX (ok_House___init__ T) hr (by decide) px_of (by rfl) (pa_cons (pe_lst (pa_cons pe_int (pa_cons pe_int pa_nil))) (pa_cons pe_bl pa_nil)))) (pss_cons (ps_if (pt_cmpR (ko_eq (K := K) rfl hr) (pv 0) pe_int (nomark _)) (pss_cons (ps_ret (pe_or2 (pe_mtX (ok_Move_done T T.m_Pour_done) hr (by decide) px_of (pe_mkX (ok_Pour___init__ T) hr (by decide) px_of (by rfl) (pa_cons pe_int (pa_cons pe_int pa_nil))) (pa_cons (pv 2) (pa_cons (pv 1) pa_nil))) (pe_or2 (pe_mtX (ok_Move_done T T.m_Fill_done) hr (by decide) px_of (pe_mkX (ok_Pour___init__ T) hr (by decide) px_of (by rfl) (pa_cons pe_int (pa_cons pe_int pa_nil))) (pa_cons (pv 2) (pa_cons (pv 1) pa_nil))) (pe_mtX (ok_Move_done T T.m_Empty_done) hr (by decide) px_of (pe_mkX (ok_Pour___init__ T) hr (by decide) px_of (by rfl) (pa_cons pe_int (pa_cons pe_int pa_nil))) (pa_cons (pv 2) (pa_cons (pv 1) pa_nil)))))) pss_nil) pss_nil) (pss_cons (ps_if (pt_cmpR (ko_eq (K := K) rfl hr) (pv 0) pe_int (nomark _)) (pss_cons (ps_ret (pe_or2 (pe_mtX (ok_Move_done T T.m_Pour_done) hr (by decide) px_of (pe_mkX (ok_Fill___init__ T) hr (by decide) px_of (by rfl) (pa_cons pe_int pa_nil)) (pa_cons (pv 2) (pa_cons (pv 1) pa_nil))) (pe_or2 (pe_mtX (ok_Move_done T T.m_Fill_done) hr (by decide) px_of (pe_mkX (ok_Fill___init__ T) hr (by decide) px_of (by rfl) (pa_cons pe_int pa_nil)) (pa_cons (pv 2) (pa_cons (pv 1) pa_nil))) (pe_mtX (ok_Move_done T T.m_Empty_done) hr (by decide) px_of (pe_mkX (ok_Fill___init__ T) hr (by decide) px_of (by rfl) (pa_cons pe_int pa_nil)) (pa_cons (pv 2) (pa_cons (pv 1) pa_nil)))))) pss_nil) pss_nil) (pss_cons (ps_if (pt_cmpR (ko_eq (K := K) rfl hr) (pv 0) pe_int (nomark _)) (pss_cons (ps_ret (pe_cX (ok_done_all T) hr (by decide) px_of (by rfl) (pa_cons (pe_lst (pa_cons (pe_mkX (ok_Pour___init__ T) hr (by decide) px_of (by rfl) (pa_cons pe_int (pa_cons pe_int pa_nil))) pa_nil)) (pa_cons (pv 2) (pa_cons (pv 1) pa_nil))))) pss_nil) pss_nil) (pss_cons (ps_if (pt_cmpR (ko_eq (K := K) rfl hr) (pv 0) pe_int (nomark _)) (pss_cons (ps_ret (pe_or2 (pe_mtX (ok_Goal_come T T.m_Holds_come) hr (by decide) px_of (pe_mkX (ok_Holds___init__ T) hr (by decide) px_of (by rfl) (pa_cons pe_int (pa_cons pe_int pa_nil))) (pa_cons (pv 2) (pa_cons (pv 1) pa_nil))) (pe_or2 (pe_mtX (ok_Goal_come T T.m_Some_come) hr (by decide) px_of (pe_mkX (ok_Holds___init__ T) hr (by decide) px_of (by rfl) (pa_cons pe_int (pa_cons pe_int pa_nil))) (pa_cons (pv 2) (pa_cons (pv 1) pa_nil))) (pe_or2 (pe_mtX (ok_Goal_come T T.m_Sum_come) hr (by decide) px_of (pe_mkX (ok_Holds___init__ T) hr (by decide) px_of (by rfl) (pa_cons pe_int (pa_cons pe_int pa_nil))) (pa_cons (pv 2) (pa_cons (pv 1) pa_nil))) (pe_mtX (ok_Goal_come T T.m_Whole_come) hr (by decide) px_of (pe_mkX (ok_Holds___init__ T) hr (by decide) px_of (by rfl) (pa_cons pe_int (pa_cons pe_int pa_nil))) (pa_cons (pv 2) (pa_cons (pv 1) pa_nil))))))) pss_nil) pss_nil) (pss_cons (ps_if (pt_cmpR (ko_eq (K := K) rfl hr) (pv 0) pe_int (nomark _)) (pss_cons (ps_ret (pe_cX (ok_fewest T) hr (by decide) px_of (by rfl) (pa_cons (pv 2) (pa_cons (pv 1) (pa_cons pe_non pa_nil))))) pss_nil) pss_nil) (pss_cons (ps_if (pt_cmpR (ko_eq (K := K) rfl hr) (pv 0) pe_int (nomark _)) (pss_cons (ps_ret (pe_cX (ok_reached T) hr (by decide) px_of (by rfl) (pa_cons (pv 2) (pa_cons (pv 1) pa_nil)))) pss_nil) pss_nil) (pss_cons (ps_if (pt_cmpR (ko_eq (K := K) rfl hr) (pv 0) pe_int (nomark _)) (pss_cons (ps_ret (pe_cX (ok_measured T) hr (by decide) px_of (by rfl) (pa_cons (pv 2) (pa_cons (pv 1) pa_nil)))) pss_nil) pss_nil) (pss_cons (ps_if (pt_cmpR (ko_eq (K := K) rfl hr) (pv 0) pe_int (nomark _)) (pss_cons (ps_ret (pe_cX (ok_tied T) hr (by decide) px_of (by rfl) (pa_cons (pv 2) (pa_cons (pv 1) (pa_cons (pe_tup (pa_cons pe_int (pa_cons pe_int pa_nil))) pa_nil))))) pss_nil) pss_nil) (pss_cons (ps_ret (pe_cX (ok_tied T) hr (by decide) px_of (by rfl) (pa_cons (pv 2) (pa_cons (pe_tup (pa_cons pe_int (pa_cons pe_int pa_nil))) (pa_cons (pv 1) pa_nil))))) pss_nil)))))))))), ?_⟩), hm, F.kp, hb⟩

  rintro es r F σ Q ⟨d, S, rfl, ⟨hd, hb⟩, rfl⟩ s k
  simp only [J.cx_K, List.length_cons, List.length_nil, List.cons_append, List.nil_append, Nat.reduceAdd, Nat.reduceSub, List.reduceReplicate, List.append_nil] at s ⊢
  have h35 : ([3, 5] : List Int).length ≤ 4 := by decide
  refine q_set s (S := houseS C [3, 5] false) (ev_house ev_c) fun σ F H s => ?_
  dsimp only [List.set, J.putS, List.nil_append, List.cons_append] at s
  have hd : d = 0 ∨ d = 1 ∨ d = 2 ∨ d = 3 ∨ d = 4 ∨ d = 5 ∨ d = 6 ∨ d = 7 ∨ d = 8 := by omega
  rcases hd with rfl | rfl | rfl | rfl | rfl | rfl | rfl | rfl | rfl
  · skip
    refine q_ifT s (et_door rfl) (by decide) fun σ F H s => ?_
    exact q_retX s (ex_done (m := .pour 0 1) (ev_mkP (by decide)) (ea_cons (ev_v rfl) (ea_cons (ev_v rfl) ea_nil)) ⟨_, _, _, S, rfl, h35, .inl ⟨hb, rfl⟩⟩) k
  · skip
    refine q_whenF s (et_door rfl) (by decide) fun σ F H s => ?_
    refine q_ifT s (et_door rfl) (by decide) fun σ F H s => ?_
    exact q_retX s (ex_done (m := .fill 0) (ev_mkF (by decide)) (ea_cons (ev_v rfl) (ea_cons (ev_v rfl) ea_nil)) ⟨_, _, _, S, rfl, h35, .inl ⟨hb, rfl⟩⟩) k
  · skip
    refine q_whenF s (et_door rfl) (by decide) fun σ F H s => ?_
    refine q_whenF s (et_door rfl) (by decide) fun σ F H s => ?_
    refine q_ifT s (et_door rfl) (by decide) fun σ F H s => ?_
    exact q_retX s (ex_call (R := R_done_all K C) (ea_cons (eo_lstN (ss := [moveS C (.pour 2 3)]) (ea_consV (ev_mkP (by decide)) ea_nilV) (Nat.le_of_ble_eq_true rfl)).v (ea_cons (ev_v rfl) (ea_cons (ev_v rfl) ea_nil))) ⟨_, _, _, S, rfl, h35, .inr (.inl ⟨[.pour 2 3], rfl, hb, rfl⟩)⟩) k
  · skip
    refine q_whenF s (et_door rfl) (by decide) fun σ F H s => ?_
    refine q_whenF s (et_door rfl) (by decide) fun σ F H s => ?_
    refine q_whenF s (et_door rfl) (by decide) fun σ F H s => ?_
    refine q_ifT s (et_door rfl) (by decide) fun σ F H s => ?_
    exact q_retX s (ex_come (g := .holds 3 0) (ev_make (RI := R_Holds K C) (ea_cons ev_c (ea_cons ev_c ea_nil)) ⟨_, _, rfl, .inl ⟨3, 0, rfl, rfl, by decide, rfl⟩⟩) (ea_cons (ev_v rfl) (ea_cons (ev_v rfl) ea_nil)) ⟨_, _, _, S, rfl, ⟨True.intro, h35⟩, .inl ⟨hb, rfl⟩⟩) k
  · skip
    refine q_whenF s (et_door rfl) (by decide) fun σ F H s => ?_
    refine q_whenF s (et_door rfl) (by decide) fun σ F H s => ?_
    refine q_whenF s (et_door rfl) (by decide) fun σ F H s => ?_
    refine q_whenF s (et_door rfl) (by decide) fun σ F H s => ?_
    refine q_ifT s (et_door rfl) (by decide) fun σ F H s => ?_
    exact q_retX s (ex_call (R := R_fewest K C) (ea_cons (ev_v rfl) (ea_cons (ev_v rfl) (ea_cons ev_c ea_nil))) ⟨_, _, S, _, rfl, h35, .inl ⟨hb, rfl⟩⟩) k
  · skip
    refine q_whenF s (et_door rfl) (by decide) fun σ F H s => ?_
    refine q_whenF s (et_door rfl) (by decide) fun σ F H s => ?_
    refine q_whenF s (et_door rfl) (by decide) fun σ F H s => ?_
    refine q_whenF s (et_door rfl) (by decide) fun σ F H s => ?_
    refine q_whenF s (et_door rfl) (by decide) fun σ F H s => ?_
    refine q_ifT s (et_door rfl) (by decide) fun σ F H s => ?_
    exact q_retX s (ex_call (R := R_reached K C) (ea_cons (ev_v rfl) (ea_cons (ev_v rfl) ea_nil)) ⟨_, _, S, rfl, h35, .inl ⟨hb, rfl⟩⟩) k
  · skip
    refine q_whenF s (et_door rfl) (by decide) fun σ F H s => ?_
    refine q_whenF s (et_door rfl) (by decide) fun σ F H s => ?_
    refine q_whenF s (et_door rfl) (by decide) fun σ F H s => ?_
    refine q_whenF s (et_door rfl) (by decide) fun σ F H s => ?_
    refine q_whenF s (et_door rfl) (by decide) fun σ F H s => ?_
    refine q_whenF s (et_door rfl) (by decide) fun σ F H s => ?_
    refine q_ifT s (et_door rfl) (by decide) fun σ F H s => ?_
    exact q_retX s (ex_call (R := R_measured K C) (ea_cons (ev_v rfl) (ea_cons (ev_v rfl) ea_nil)) ⟨_, _, S, rfl, h35, hb, rfl⟩) k
  · skip
    refine q_whenF s (et_door rfl) (by decide) fun σ F H s => ?_
    refine q_whenF s (et_door rfl) (by decide) fun σ F H s => ?_
    refine q_whenF s (et_door rfl) (by decide) fun σ F H s => ?_
    refine q_whenF s (et_door rfl) (by decide) fun σ F H s => ?_
    refine q_whenF s (et_door rfl) (by decide) fun σ F H s => ?_
    refine q_whenF s (et_door rfl) (by decide) fun σ F H s => ?_
    refine q_whenF s (et_door rfl) (by decide) fun σ F H s => ?_
    refine q_ifT s (et_door rfl) (by decide) fun σ F H s => ?_
    exact q_retX s (ex_call (R := R_tied K C) (ea_cons (ev_v rfl) (ea_cons (ev_v rfl) (ea_cons ev_pr ea_nil))) ⟨_, _, S, _, rfl, h35, .inl hb, rfl⟩) k
  · skip
    refine q_whenF s (et_door rfl) (by decide) fun σ F H s => ?_
    refine q_whenF s (et_door rfl) (by decide) fun σ F H s => ?_
    refine q_whenF s (et_door rfl) (by decide) fun σ F H s => ?_
    refine q_whenF s (et_door rfl) (by decide) fun σ F H s => ?_
    refine q_whenF s (et_door rfl) (by decide) fun σ F H s => ?_
    refine q_whenF s (et_door rfl) (by decide) fun σ F H s => ?_
    refine q_whenF s (et_door rfl) (by decide) fun σ F H s => ?_
    refine q_whenF s (et_door rfl) (by decide) fun σ F H s => ?_
    exact q_retX s (ex_call (R := R_tied K C) (ea_cons (ev_v rfl) (ea_cons ev_pr (ea_cons (ev_v rfl) ea_nil))) ⟨_, _, _, S, rfl, h35, .inr ⟨[0, 0], rfl, st35 rfl (by decide) (by decide), hb⟩, rfl⟩) k
def badMvS (K : PySem.W.Frag) (C : Cs) (S : Slot) : Prop := W8 K S 0 3 false ∧ nonMv K C S ∧ badMoves K C S
def R_lmove (K : PySem.W.Frag) (C : Cs) : Rel := fun es r => ∃ (d : Nat) (S : Slot), es = [.v (iS (d : Int)), .v S] ∧ ((d ≤ 6 ∧ badMvS K C S) ∨ (d = 0 ∧ S = iS 1) ∨ (d = 1 ∧ S = iS 0)) ∧ r = .x C.BadMove
theorem one_bad {K : PySem.W.Frag} {C : Cs} {S : Slot} (h : nonMv K C S) : badMoves K C (lstS [S]) := .inr ⟨[], S, rfl, h⟩
/-! ### _law_with_move: slots 0:_law_door 1:_law_bad 2:_law_house_here -/
abbrev s__law_with_move : Stmt := top 51
theorem sc__law_with_move : FnScope ["_law_door", "_law_bad", "_law_house_here"] ["_law_door", "_law_bad"] (defScope s__law_with_move) := ⟨rfl, rfl, rfl, by decide +kernel, rfl, by decide +kernel, by decide +kernel⟩
theorem ok__law_with_move (T : Top K mg C) : CalX P w K mg base 5 "_law_with_move" (SpOf (R_lmove K C)) := by
  obtain ⟨f, fd, F, hm, hb⟩ := T.d__law_with_move.ex
  refine ⟨f, fd, _, fn_ok F sc__law_with_move (by walk_at "len") (fun cdv A outer s H E hr => ⟨_, (pss_cons (ps_set (i := 2) sc__law_with_move.nd rfl (Or.inl rfl) (pe_mkX (ok_House___init__ T) hr (by decide) px_of (by rfl) (pa_cons (pe_lst (pa_cons pe_int (pa_cons pe_int pa_nil))) (pa_cons pe_bl pa_nil)))) (pss_cons (ps_if (pt_cmpR (ko_eq (K := K) rfl hr) (pv 0) pe_int (nomark _)) (pss_cons (ps_ret (pe_mkX (ok_Pour___init__ T) hr (by decide) px_of (by rfl) (pa_cons (pv 1) (pa_cons pe_int pa_nil)))) pss_nil) pss_nil) (pss_cons (ps_if (pt_cmpR (ko_eq (K := K) rfl hr) (pv 0) pe_int (nomark _)) (pss_cons (ps_ret (pe_mkX (ok_Pour___init__ T) hr (by decide) px_of (by rfl) (pa_cons pe_int (pa_cons (pv 1) pa_nil)))) pss_nil) pss_nil) (pss_cons (ps_if (pt_cmpR (ko_eq (K := K) rfl hr) (pv 0) pe_int (nomark _)) (pss_cons (ps_ret (pe_mkX (ok_Fill___init__ T) hr (by decide) px_of (by rfl) (pa_cons (pv 1) pa_nil))) pss_nil) pss_nil) (pss_cons (ps_if (pt_cmpR (ko_eq (K := K) rfl hr) (pv 0) pe_int (nomark _)) (pss_cons (ps_ret (pe_mkX (ok_Empty___init__ T) hr (by decide) px_of (by rfl) (pa_cons (pv 1) pa_nil))) pss_nil) pss_nil) (pss_cons (ps_if (pt_cmpR (ko_eq (K := K) rfl hr) (pv 0) pe_int (nomark _)) (pss_cons (ps_ret (pe_cX (ok_done_all T) hr (by decide) px_of (by rfl) (pa_cons (pe_lst (pa_cons (pe_mkX (ok_Pour___init__ T) hr (by decide) px_of (by rfl) (pa_cons pe_int (pa_cons pe_int pa_nil))) (pa_cons (pv 1) pa_nil))) (pa_cons (pv 2) (pa_cons pe_non pa_nil))))) pss_nil) pss_nil) (pss_cons (ps_if (pt_cmpR (ko_eq (K := K) rfl hr) (pv 0) pe_int (nomark _)) (pss_cons (ps_ret (pe_cX (ok_done_all T) hr (by decide) px_of (by rfl) (pa_cons (pv 1) (pa_cons (pv 2) (pa_cons pe_non pa_nil))))) pss_nil) pss_nil) (pss_cons (ps_ret (pe_cX (ok_routine_text T) hr (by decide) px_of (by rfl) (pa_cons (pe_lst (pa_cons (pv 1) pa_nil)) pa_nil))) pss_nil)))))))), ?_⟩), hm, F.kp, hb⟩

  rintro es r F σ Q ⟨d, S, rfl, h, rfl⟩ s k
  simp only [J.cx_K, List.length_cons, List.length_nil, List.cons_append, List.nil_append, Nat.reduceAdd, Nat.reduceSub, List.reduceReplicate, List.append_nil] at s ⊢
  have h35 : ([3, 5] : List Int).length ≤ 4 := by decide
  refine q_set s (S := houseS C [3, 5] false) (ev_house ev_c) fun σ F H s => ?_
  dsimp only [List.set, J.putS, List.nil_append, List.cons_append] at s
  rcases h with ⟨hd, h1, h2, h3⟩ | ⟨rfl, rfl⟩ | ⟨rfl, rfl⟩
  · have hd : d = 0 ∨ d = 1 ∨ d = 2 ∨ d = 3 ∨ d = 4 ∨ d = 5 ∨ d = 6 := by omega
    rcases hd with rfl | rfl | rfl | rfl | rfl | rfl | rfl
    · skip
      refine q_ifT s (et_door rfl) (by decide) fun σ F H s => ?_
      exact q_retX s (ex_make (RI := R_Pour K C) (ea_cons (ev_v rfl) (ea_cons ev_c ea_nil)) ⟨_, _, rfl, .inr ⟨.inl h1, rfl⟩⟩) k
    · skip
      refine q_whenF s (et_door rfl) (by decide) fun σ F H s => ?_
      refine q_ifT s (et_door rfl) (by decide) fun σ F H s => ?_
      exact q_retX s (ex_make (RI := R_Pour K C) (ea_cons ev_c (ea_cons (ev_v rfl) ea_nil)) ⟨_, _, rfl, .inr ⟨.inr (.inl ⟨w8_of (by decide), h1⟩), rfl⟩⟩) k
    · skip
      refine q_whenF s (et_door rfl) (by decide) fun σ F H s => ?_
      refine q_whenF s (et_door rfl) (by decide) fun σ F H s => ?_
      refine q_ifT s (et_door rfl) (by decide) fun σ F H s => ?_
      exact q_retX s (ex_make (RI := R_Jug K C) (ea_cons (ev_v rfl) ea_nil) ⟨_, rfl, .inr ⟨h1, rfl⟩⟩) k
    · skip
      refine q_whenF s (et_door rfl) (by decide) fun σ F H s => ?_
      refine q_whenF s (et_door rfl) (by decide) fun σ F H s => ?_
      refine q_whenF s (et_door rfl) (by decide) fun σ F H s => ?_
      refine q_ifT s (et_door rfl) (by decide) fun σ F H s => ?_
      exact q_retX s (ex_make (RI := R_Jug K C) (ea_cons (ev_v rfl) ea_nil) ⟨_, rfl, .inr ⟨h1, rfl⟩⟩) k
    · skip
      refine q_whenF s (et_door rfl) (by decide) fun σ F H s => ?_
      refine q_whenF s (et_door rfl) (by decide) fun σ F H s => ?_
      refine q_whenF s (et_door rfl) (by decide) fun σ F H s => ?_
      refine q_whenF s (et_door rfl) (by decide) fun σ F H s => ?_
      refine q_ifT s (et_door rfl) (by decide) fun σ F H s => ?_
      exact q_retX s (ex_call (R := R_done_all K C) (ea_cons (eo_lstN (ss := [moveS C (.pour 0 1), S]) (ea_consV (ev_mkP (by decide)) (ea_consV (ev_v rfl) ea_nilV)) (Nat.le_of_ble_eq_true rfl)).v (ea_cons (ev_v rfl) (ea_cons ev_c ea_nil))) ⟨_, _, _, _, rfl, h35, .inl ⟨.inr ⟨[.pour 0 1], S, rfl, h2⟩, rfl⟩⟩) k
    · skip
      refine q_whenF s (et_door rfl) (by decide) fun σ F H s => ?_
      refine q_whenF s (et_door rfl) (by decide) fun σ F H s => ?_
      refine q_whenF s (et_door rfl) (by decide) fun σ F H s => ?_
      refine q_whenF s (et_door rfl) (by decide) fun σ F H s => ?_
      refine q_whenF s (et_door rfl) (by decide) fun σ F H s => ?_
      refine q_ifT s (et_door rfl) (by decide) fun σ F H s => ?_
      exact q_retX s (ex_call (R := R_done_all K C) (ea_cons (ev_v rfl) (ea_cons (ev_v rfl) (ea_cons ev_c ea_nil))) ⟨_, _, _, _, rfl, h35, .inl ⟨h3, rfl⟩⟩) k
    · skip
      refine q_whenF s (et_door rfl) (by decide) fun σ F H s => ?_
      refine q_whenF s (et_door rfl) (by decide) fun σ F H s => ?_
      refine q_whenF s (et_door rfl) (by decide) fun σ F H s => ?_
      refine q_whenF s (et_door rfl) (by decide) fun σ F H s => ?_
      refine q_whenF s (et_door rfl) (by decide) fun σ F H s => ?_
      refine q_whenF s (et_door rfl) (by decide) fun σ F H s => ?_
      exact q_retX s (ex_call (R := R_routine_text K C) (ea_cons (eo_lstN (ss := [S]) (ea_consV (ev_v rfl) ea_nilV) (Nat.le_of_ble_eq_true rfl)).v ea_nil) ⟨_, rfl, one_bad h2, rfl⟩) k
  · skip
    refine q_ifT s (et_door rfl) (by decide) fun σ F H s => ?_
    exact q_retX s (ex_make (RI := R_Pour K C) (ea_cons (ev_v rfl) (ea_cons ev_c ea_nil)) ⟨_, _, rfl, .inr ⟨.inr (.inr ⟨1, rfl, rfl, w8_of (by decide)⟩), rfl⟩⟩) k
  · skip
    refine q_whenF s (et_door rfl) (by decide) fun σ F H s => ?_
    refine q_ifT s (et_door rfl) (by decide) fun σ F H s => ?_
    exact q_retX s (ex_make (RI := R_Pour K C) (ea_cons ev_c (ea_cons (ev_v rfl) ea_nil)) ⟨_, _, rfl, .inr ⟨.inr (.inr ⟨0, rfl, rfl, w8_of (by decide)⟩), rfl⟩⟩) k
def unfitM : List Mv := [.fill 0, .empty 1, .pour 0 2, .pour 3 1, .fill 2, .empty 3, .pour 2 0, .empty 2, .fill 3, .pour 0 3]
def R_lunfit (C : Cs) : Rel := fun es r => ∃ (d w : Nat), es = [.v (iS (d : Int)), .v (iS (w : Int))] ∧ (d ≤ 1 ∧ w < 10) ∧ r = .x C.BadMove
theorem unfit_at : ∀ w : Nat, w < 10 → ∃ m, unfitM[w]? = some m ∧ fitsB m (decide ((w : Int) > 3)) 2 = false := by
  intro w hw
  have : w = 0 ∨ w = 1 ∨ w = 2 ∨ w = 3 ∨ w = 4 ∨ w = 5 ∨ w = 6 ∨ w = 7 ∨ w = 8 ∨ w = 9 := by omega
  rcases this with rfl | rfl | rfl | rfl | rfl | rfl | rfl | rfl | rfl | rfl <;> exact ⟨_, rfl, by decide⟩
/-! ### _law_unfit: slots 0:_law_door 1:_law_way 2:_law_house_here 3:_law_some 4:_law_move -/
abbrev s__law_unfit : Stmt := top 52
theorem sc__law_unfit : FnScope ["_law_door", "_law_way", "_law_house_here", "_law_some", "_law_move"] ["_law_door", "_law_way"] (defScope s__law_unfit) := ⟨rfl, rfl, rfl, by decide +kernel, rfl, by decide +kernel, by decide +kernel⟩
theorem ok__law_unfit (T : Top K mg C) : CalX P w K mg base 5 "_law_unfit" (SpOf (R_lunfit C)) := by
  obtain ⟨f, fd, F, hm, hb⟩ := T.d__law_unfit.ex
  refine ⟨f, fd, _, fn_ok F sc__law_unfit (by walk_at "len") (fun cdv A outer s H E hr => ⟨_, (pss_cons (ps_set (i := 2) sc__law_unfit.nd rfl (Or.inl rfl) (pe_mkX (ok_House___init__ T) hr (by decide) px_of (by rfl) (pa_cons (pe_lst (pa_cons pe_int (pa_cons pe_int pa_nil))) (pa_cons (pe_cmpR op_gt (pv 1) pe_int (nomark _)) pa_nil)))) (pss_cons (ps_set (i := 3) sc__law_unfit.nd rfl (Or.inl rfl) (pe_lst (pa_cons (pe_mkX (ok_Fill___init__ T) hr (by decide) px_of (by rfl) (pa_cons pe_int pa_nil)) (pa_cons (pe_mkX (ok_Empty___init__ T) hr (by decide) px_of (by rfl) (pa_cons pe_int pa_nil)) (pa_cons (pe_mkX (ok_Pour___init__ T) hr (by decide) px_of (by rfl) (pa_cons pe_int (pa_cons pe_int pa_nil))) (pa_cons (pe_mkX (ok_Pour___init__ T) hr (by decide) px_of (by rfl) (pa_cons pe_int (pa_cons pe_int pa_nil))) (pa_cons (pe_mkX (ok_Fill___init__ T) hr (by decide) px_of (by rfl) (pa_cons pe_int pa_nil)) (pa_cons (pe_mkX (ok_Empty___init__ T) hr (by decide) px_of (by rfl) (pa_cons pe_int pa_nil)) (pa_cons (pe_mkX (ok_Pour___init__ T) hr (by decide) px_of (by rfl) (pa_cons pe_int (pa_cons pe_int pa_nil))) (pa_cons (pe_mkX (ok_Empty___init__ T) hr (by decide) px_of (by rfl) (pa_cons pe_int pa_nil)) (pa_cons (pe_mkX (ok_Fill___init__ T) hr (by decide) px_of (by rfl) (pa_cons pe_int pa_nil)) (pa_cons (pe_mkX (ok_Pour___init__ T) hr (by decide) px_of (by rfl) (pa_cons pe_int (pa_cons pe_int pa_nil))) pa_nil)))))))))))) (pss_cons (ps_set (i := 4) sc__law_unfit.nd rfl (Or.inl rfl) (ke_ix (K := K) rfl hr (pv 3) (pv 1) (fun _ _ => rfl) (fun _ _ => rfl))) (pss_cons (ps_if (pt_cmpR (ko_eq (K := K) rfl hr) (pv 0) pe_int (nomark _)) (pss_cons (ps_ret (pe_or2 (pe_mtX (ok_Move_done T T.m_Pour_done) hr (by decide) px_of (pv 4) (pa_cons (pv 2) (pa_cons (pe_tup (pa_cons pe_int (pa_cons pe_int pa_nil))) pa_nil))) (pe_or2 (pe_mtX (ok_Move_done T T.m_Fill_done) hr (by decide) px_of (pv 4) (pa_cons (pv 2) (pa_cons (pe_tup (pa_cons pe_int (pa_cons pe_int pa_nil))) pa_nil))) (pe_mtX (ok_Move_done T T.m_Empty_done) hr (by decide) px_of (pv 4) (pa_cons (pv 2) (pa_cons (pe_tup (pa_cons pe_int (pa_cons pe_int pa_nil))) pa_nil)))))) pss_nil) pss_nil) (pss_cons (ps_ret (pe_cX (ok_done_all T) hr (by decide) px_of (by rfl) (pa_cons (pe_lst (pa_cons (pe_mkX (ok_Pour___init__ T) hr (by decide) px_of (by rfl) (pa_cons pe_int (pa_cons pe_int pa_nil))) (pa_cons (pv 4) pa_nil))) (pa_cons (pv 2) (pa_cons (pe_tup (pa_cons pe_int (pa_cons pe_int pa_nil))) pa_nil))))) pss_nil))))), ?_⟩), hm, F.kp, hb⟩

  rintro es r F σ Q ⟨d, w, rfl, ⟨hd, hw⟩, rfl⟩ s k
  simp only [J.cx_K, List.length_cons, List.length_nil, List.cons_append, List.nil_append, Nat.reduceAdd, Nat.reduceSub, List.reduceReplicate, List.append_nil] at s ⊢
  have h35 : ([3, 5] : List Int).length ≤ 4 := by decide
  obtain ⟨m, hm, hf⟩ := unfit_at w hw
  have s30 : StOk [3, 5] [3, 0] := st35 rfl (by decide) (by decide)
  have s03 : StOk [3, 5] (behind [3, 5] [3, 0] (.pour 0 1)) := st35 rfl (by decide) (by decide)
  refine q_set s (S := houseS C [3, 5] (decide ((w : Int) > 3))) (ev_house (ev_op (ev_v rfl) ev_c op_I0)) fun σ F H s => ?_
  dsimp only [List.set, J.putS, List.nil_append, List.cons_append] at s
  refine q_setO s (o := lstO (unfitM.map (moveS C))) (eo_lstN (ea_consV (ev_mkF (by decide)) (ea_consV (ev_mkE (by decide)) (ea_consV (ev_mkP (by decide)) (ea_consV (ev_mkP (by decide)) (ea_consV (ev_mkF (by decide)) (ea_consV (ev_mkE (by decide)) (ea_consV (ev_mkP (by decide)) (ea_consV (ev_mkE (by decide)) (ea_consV (ev_mkF (by decide)) (ea_consV (ev_mkP (by decide)) ea_nilV)))))))))) (Nat.le_of_ble_eq_true rfl)) fun σ F H s => ?_
  dsimp only [List.set, J.putS, List.nil_append, List.cons_append] at s
  refine q_set s (S := moveS C m) (ev_ix (ev_ow rfl) (ev_v rfl) (jx_l (i := (w : Int)) isR_b (by omega) (by rw [Int.toNat_natCast]; exact hm))) fun σ F H s => ?_
  dsimp only [List.set, J.putS, List.nil_append, List.cons_append] at s
  have hd : d = 0 ∨ d = 1 := by omega
  rcases hd with rfl | rfl
  · skip
    refine q_ifT s (et_door rfl) (by decide) fun σ F H s => ?_
    exact q_retX s (ex_done (m := m) (ev_v rfl) (ea_cons (ev_v rfl) (ea_cons ev_pr ea_nil)) ⟨_, _, _, _, rfl, h35, .inr ⟨_, rfl, s30, .inl ⟨hf, rfl⟩⟩⟩) k
  · skip
    refine q_whenF s (et_door rfl) (by decide) fun σ F H s => ?_
    exact q_retX s (ex_call (R := R_done_all K C) (ea_cons (eo_lstN (ss := [moveS C (.pour 0 1), moveS C m]) (ea_consV (ev_mkP (by decide)) (ea_consV (ev_v rfl) ea_nilV)) (Nat.le_of_ble_eq_true rfl)).v (ea_cons (ev_v rfl) (ea_cons ev_pr ea_nil))) ⟨_, _, _, _, rfl, h35, .inr (.inr ⟨.pour 0 1, m, [3, 0], rfl, rfl, s30, ⟨rfl, (by decide : 0 < 2 ∧ 1 < 2 ∧ 0 ≠ 1)⟩, s03, hf, rfl⟩)⟩) k
def R_lgoal (K : PySem.W.Frag) (C : Cs) : Rel := fun es r => ∃ (d : Nat) (S : Slot), es = [.v (iS (d : Int)), .v S] ∧
  ((d = 0 ∧ W8 K S 0 3 false) ∨ (d = 1 ∧ W8 K S 0 240 false) ∨ (d = 2 ∧ W8 K S 0 240 false) ∨ (d = 3 ∧ W8 K S 0 240 false) ∨ (d = 4 ∧ W8 K S 0 3 false) ∨ (d = 5 ∧ W8 K S 0 60 false) ∨ (d = 6 ∧ nonGl K C S)) ∧ r = .x C.BadGoal
/-! ### _law_with_goal: slots 0:_law_door 1:_law_bad -/
abbrev s__law_with_goal : Stmt := top 53
theorem sc__law_with_goal : FnScope ["_law_door", "_law_bad"] ["_law_door", "_law_bad"] (defScope s__law_with_goal) := ⟨rfl, rfl, rfl, by decide +kernel, rfl, by decide +kernel, by decide +kernel⟩
theorem ok__law_with_goal (T : Top K mg C) : CalX P w K mg base 8 "_law_with_goal" (SpOf (R_lgoal K C)) := by
  obtain ⟨f, fd, F, hm, hb⟩ := T.d__law_with_goal.ex
  refine ⟨f, fd, _, fn_ok F sc__law_with_goal (by walk_at "len") (fun cdv A outer s H E hr => ⟨_, (pss_cons (ps_if (pt_cmpR (ko_eq (K := K) rfl hr) (pv 0) pe_int (nomark _)) (pss_cons (ps_ret (pe_mkX (ok_Holds___init__ T) hr (by decide) px_of (by rfl) (pa_cons (pv 1) (pa_cons pe_int pa_nil)))) pss_nil) pss_nil) (pss_cons (ps_if (pt_cmpR (ko_eq (K := K) rfl hr) (pv 0) pe_int (nomark _)) (pss_cons (ps_ret (pe_mkX (ok_Holds___init__ T) hr (by decide) px_of (by rfl) (pa_cons pe_int (pa_cons (pv 1) pa_nil)))) pss_nil) pss_nil) (pss_cons (ps_if (pt_cmpR (ko_eq (K := K) rfl hr) (pv 0) pe_int (nomark _)) (pss_cons (ps_ret (pe_mkX (ok_Some___init__ T) hr (by decide) px_of (by rfl) (pa_cons (pv 1) pa_nil))) pss_nil) pss_nil) (pss_cons (ps_if (pt_cmpR (ko_eq (K := K) rfl hr) (pv 0) pe_int (nomark _)) (pss_cons (ps_ret (pe_mkX (ok_Sum___init__ T) hr (by decide) px_of (by rfl) (pa_cons (pe_lst (pa_cons pe_int pa_nil)) (pa_cons (pv 1) pa_nil)))) pss_nil) pss_nil) (pss_cons (ps_if (pt_cmpR (ko_eq (K := K) rfl hr) (pv 0) pe_int (nomark _)) (pss_cons (ps_ret (pe_mkX (ok_Sum___init__ T) hr (by decide) px_of (by rfl) (pa_cons (pe_lst (pa_cons (pv 1) pa_nil)) (pa_cons pe_int pa_nil)))) pss_nil) pss_nil) (pss_cons (ps_if (pt_cmpR (ko_eq (K := K) rfl hr) (pv 0) pe_int (nomark _)) (pss_cons (ps_ret (pe_mkX (ok_Whole___init__ T) hr (by decide) px_of (by rfl) (pa_cons (pe_tup (pa_cons pe_int (pa_cons (pv 1) pa_nil))) pa_nil))) pss_nil) pss_nil) (pss_cons (ps_ret (pe_cX (ok_fewest T) hr (by decide) px_of (by rfl) (pa_cons (pe_mkX (ok_House___init__ T) hr (by decide) px_of (by rfl) (pa_cons (pe_lst (pa_cons pe_int (pa_cons pe_int pa_nil))) (pa_cons pe_bl pa_nil))) (pa_cons (pe_tup (pa_cons pe_int (pa_cons pe_int pa_nil))) (pa_cons (pv 1) pa_nil))))) pss_nil))))))), ?_⟩), hm, F.kp, hb⟩

  rintro es r F σ Q ⟨d, S, rfl, ⟨rfl, hb⟩ | ⟨rfl, hb⟩ | ⟨rfl, hb⟩ | ⟨rfl, hb⟩ | ⟨rfl, hb⟩ | ⟨rfl, hb⟩ | ⟨rfl, hb⟩, rfl⟩ s k
  · skip
    simp only [J.cx_K, List.length_cons, List.length_nil, List.cons_append, List.nil_append, Nat.reduceAdd, Nat.reduceSub, List.reduceReplicate, List.append_nil] at s ⊢
    refine q_ifT s (et_door rfl) (by decide) fun σ F H s => ?_
    exact q_retX s (ex_make (RI := R_Holds K C) (ea_cons (ev_v rfl) (ea_cons ev_c ea_nil)) ⟨_, _, rfl, .inr ⟨.inl hb, rfl⟩⟩) k
  · skip
    simp only [J.cx_K, List.length_cons, List.length_nil, List.cons_append, List.nil_append, Nat.reduceAdd, Nat.reduceSub, List.reduceReplicate, List.append_nil] at s ⊢
    refine q_whenF s (et_door rfl) (by decide) fun σ F H s => ?_
    refine q_ifT s (et_door rfl) (by decide) fun σ F H s => ?_
    exact q_retX s (ex_make (RI := R_Holds K C) (ea_cons ev_c (ea_cons (ev_v rfl) ea_nil)) ⟨_, _, rfl, .inr ⟨.inr ⟨w8_of (by decide), hb⟩, rfl⟩⟩) k
  · skip
    simp only [J.cx_K, List.length_cons, List.length_nil, List.cons_append, List.nil_append, Nat.reduceAdd, Nat.reduceSub, List.reduceReplicate, List.append_nil] at s ⊢
    refine q_whenF s (et_door rfl) (by decide) fun σ F H s => ?_
    refine q_whenF s (et_door rfl) (by decide) fun σ F H s => ?_
    refine q_ifT s (et_door rfl) (by decide) fun σ F H s => ?_
    exact q_retX s (ex_make (RI := R_Some K C) (ea_cons (ev_v rfl) ea_nil) ⟨_, rfl, .inr ⟨hb, rfl⟩⟩) k
  · skip
    simp only [J.cx_K, List.length_cons, List.length_nil, List.cons_append, List.nil_append, Nat.reduceAdd, Nat.reduceSub, List.reduceReplicate, List.append_nil] at s ⊢
    have js0 : JsTo [0] [0].length := ⟨by decide, by decide, by decide, fun m hm j hj => by
      have hm : m = 0 := by simpa using hm
      subst hm
      simp⟩
    refine q_whenF s (et_door rfl) (by decide) fun σ F H s => ?_
    refine q_whenF s (et_door rfl) (by decide) fun σ F H s => ?_
    refine q_whenF s (et_door rfl) (by decide) fun σ F H s => ?_
    refine q_ifT s (et_door rfl) (by decide) fun σ F H s => ?_
    exact q_retX s (ex_make (RI := R_Sum K C) (ea_cons (eo_lstN (ss := [iS 0]) (ea_consV ev_c ea_nilV) (Nat.le_of_ble_eq_true rfl)).v (ea_cons (ev_v rfl) ea_nil)) ⟨_, _, rfl, .inr ⟨.inr (.inr (.inr (.inr ⟨[0], rfl, js0, hb⟩))), rfl⟩⟩) k
  · skip
    simp only [J.cx_K, List.length_cons, List.length_nil, List.cons_append, List.nil_append, Nat.reduceAdd, Nat.reduceSub, List.reduceReplicate, List.append_nil] at s ⊢
    refine q_whenF s (et_door rfl) (by decide) fun σ F H s => ?_
    refine q_whenF s (et_door rfl) (by decide) fun σ F H s => ?_
    refine q_whenF s (et_door rfl) (by decide) fun σ F H s => ?_
    refine q_whenF s (et_door rfl) (by decide) fun σ F H s => ?_
    refine q_ifT s (et_door rfl) (by decide) fun σ F H s => ?_
    exact q_retX s (ex_make (RI := R_Sum K C) (ea_cons (eo_lstN (ss := [S]) (ea_consV (ev_v rfl) ea_nilV) (Nat.le_of_ble_eq_true rfl)).v (ea_cons ev_c ea_nil)) ⟨_, _, rfl, .inr ⟨.inr (.inr (.inl ⟨S, rfl, hb⟩)), rfl⟩⟩) k
  · skip
    simp only [J.cx_K, List.length_cons, List.length_nil, List.cons_append, List.nil_append, Nat.reduceAdd, Nat.reduceSub, List.reduceReplicate, List.append_nil] at s ⊢
    refine q_whenF s (et_door rfl) (by decide) fun σ F H s => ?_
    refine q_whenF s (et_door rfl) (by decide) fun σ F H s => ?_
    refine q_whenF s (et_door rfl) (by decide) fun σ F H s => ?_
    refine q_whenF s (et_door rfl) (by decide) fun σ F H s => ?_
    refine q_whenF s (et_door rfl) (by decide) fun σ F H s => ?_
    refine q_ifT s (et_door rfl) (by decide) fun σ F H s => ?_
    exact q_retX s (ex_make (RI := R_Whole K C) (ea_cons (ev_tupN (ss := [iS 1, S]) (ea_consV ev_c (ea_consV (ev_v rfl) ea_nilV)) (Nat.le_of_ble_eq_true rfl)) ea_nil) ⟨_, rfl, .inr ⟨.inr (.inr ⟨S, rfl, hb⟩), rfl⟩⟩) k
  · skip
    simp only [J.cx_K, List.length_cons, List.length_nil, List.cons_append, List.nil_append, Nat.reduceAdd, Nat.reduceSub, List.reduceReplicate, List.append_nil] at s ⊢
    refine q_whenF s (et_door rfl) (by decide) fun σ F H s => ?_
    refine q_whenF s (et_door rfl) (by decide) fun σ F H s => ?_
    refine q_whenF s (et_door rfl) (by decide) fun σ F H s => ?_
    refine q_whenF s (et_door rfl) (by decide) fun σ F H s => ?_
    refine q_whenF s (et_door rfl) (by decide) fun σ F H s => ?_
    refine q_whenF s (et_door rfl) (by decide) fun σ F H s => ?_
    exact q_retX s (ex_call (R := R_fewest K C) (ea_cons (ev_house ev_c) (ea_cons ev_pr (ea_cons (ev_v rfl) ea_nil))) ⟨_, _, _, _, rfl, (by decide), .inr ⟨[0, 0], rfl, st35 rfl (by decide) (by decide), .inl hb, rfl⟩⟩) k
def unfitG : List Gl := [.holds 2 0, .sum [0, 3] 1, .whole [0], .whole [0, 0, 0], .whole [4, 0], .whole [0, 6], .sum [0, 2] 0]
theorem js_two {a b : Nat} (ha : a ≤ 3) (hb : b ≤ 3) (h : b ≠ a) : JsTo [a, b] [a, b].length := ⟨fun j hj => by simp at hj; omega, by simp, by simp, fun m hm j hj => by
  have hm : m < 2 := hm
  have : m = 0 ∨ m = 1 := by omega
  rcases this with rfl | rfl
  · simp
  · have e : j = b := by simpa using hj.symm
    subst e
    simp
    omega⟩
def R_lgunfit (C : Cs) : Rel := fun es r => ∃ (d w : Nat), es = [.v (iS (d : Int)), .v (iS (w : Int))] ∧ (d ≤ 1 ∧ w < 7) ∧ r = .x C.BadGoal
theorem unfitG_at : ∀ w : Nat, w < 7 → ∃ g, unfitG[w]? = some g ∧ okG g ∧ fitGB [3, 5] g = false := by
  intro w hw
  have : w = 0 ∨ w = 1 ∨ w = 2 ∨ w = 3 ∨ w = 4 ∨ w = 5 ∨ w = 6 := by omega
  rcases this with rfl | rfl | rfl | rfl | rfl | rfl | rfl
  · exact ⟨_, rfl, True.intro, by decide⟩
  · exact ⟨_, rfl, (by simp [okG]), by decide⟩
  · exact ⟨_, rfl, True.intro, by decide⟩
  · exact ⟨_, rfl, True.intro, by decide⟩
  · exact ⟨_, rfl, True.intro, by decide⟩
  · exact ⟨_, rfl, True.intro, by decide⟩
  · exact ⟨_, rfl, (by simp [okG]), by decide⟩
/-! ### _law_goal_unfit: slots 0:_law_door 1:_law_way 2:_law_some 3:_law_goal -/
abbrev s__law_goal_unfit : Stmt := top 54
theorem sc__law_goal_unfit : FnScope ["_law_door", "_law_way", "_law_some", "_law_goal"] ["_law_door", "_law_way"] (defScope s__law_goal_unfit) := ⟨rfl, rfl, rfl, by decide +kernel, rfl, by decide +kernel, by decide +kernel⟩
theorem ok__law_goal_unfit (T : Top K mg C) : CalX P w K mg base 8 "_law_goal_unfit" (SpOf (R_lgunfit C)) := by
  obtain ⟨f, fd, F, hm, hb⟩ := T.d__law_goal_unfit.ex
  refine ⟨f, fd, _, fn_ok F sc__law_goal_unfit (by walk_at "len") (fun cdv A outer s H E hr => ⟨_, (pss_cons (ps_set (i := 2) sc__law_goal_unfit.nd rfl (Or.inl rfl) (pe_lst (pa_cons (pe_mkX (ok_Holds___init__ T) hr (by decide) px_of (by rfl) (pa_cons pe_int (pa_cons pe_int pa_nil))) (pa_cons (pe_mkX (ok_Sum___init__ T) hr (by decide) px_of (by rfl) (pa_cons (pe_lst (pa_cons pe_int (pa_cons pe_int pa_nil))) (pa_cons pe_int pa_nil))) (pa_cons (pe_mkX (ok_Whole___init__ T) hr (by decide) px_of (by rfl) (pa_cons (pe_tup (pa_cons pe_int pa_nil)) pa_nil)) (pa_cons (pe_mkX (ok_Whole___init__ T) hr (by decide) px_of (by rfl) (pa_cons (pe_tup (pa_cons pe_int (pa_cons pe_int (pa_cons pe_int pa_nil)))) pa_nil)) (pa_cons (pe_mkX (ok_Whole___init__ T) hr (by decide) px_of (by rfl) (pa_cons (pe_tup (pa_cons pe_int (pa_cons pe_int pa_nil))) pa_nil)) (pa_cons (pe_mkX (ok_Whole___init__ T) hr (by decide) px_of (by rfl) (pa_cons (pe_tup (pa_cons pe_int (pa_cons pe_int pa_nil))) pa_nil)) (pa_cons (pe_mkX (ok_Sum___init__ T) hr (by decide) px_of (by rfl) (pa_cons (pe_lst (pa_cons pe_int (pa_cons pe_int pa_nil))) (pa_cons pe_int pa_nil))) pa_nil))))))))) (pss_cons (ps_set (i := 3) sc__law_goal_unfit.nd rfl (Or.inl rfl) (ke_ix (K := K) rfl hr (pv 2) (pv 1) (fun _ _ => rfl) (fun _ _ => rfl))) (pss_cons (ps_if (pt_cmpR (ko_eq (K := K) rfl hr) (pv 0) pe_int (nomark _)) (pss_cons (ps_ret (pe_or2 (pe_mtX (ok_Goal_come T T.m_Holds_come) hr (by decide) px_of (pv 3) (pa_cons (pe_mkX (ok_House___init__ T) hr (by decide) px_of (by rfl) (pa_cons (pe_lst (pa_cons pe_int (pa_cons pe_int pa_nil))) (pa_cons pe_bl pa_nil))) (pa_cons (pe_tup (pa_cons pe_int (pa_cons pe_int pa_nil))) pa_nil))) (pe_or2 (pe_mtX (ok_Goal_come T T.m_Some_come) hr (by decide) px_of (pv 3) (pa_cons (pe_mkX (ok_House___init__ T) hr (by decide) px_of (by rfl) (pa_cons (pe_lst (pa_cons pe_int (pa_cons pe_int pa_nil))) (pa_cons pe_bl pa_nil))) (pa_cons (pe_tup (pa_cons pe_int (pa_cons pe_int pa_nil))) pa_nil))) (pe_or2 (pe_mtX (ok_Goal_come T T.m_Sum_come) hr (by decide) px_of (pv 3) (pa_cons (pe_mkX (ok_House___init__ T) hr (by decide) px_of (by rfl) (pa_cons (pe_lst (pa_cons pe_int (pa_cons pe_int pa_nil))) (pa_cons pe_bl pa_nil))) (pa_cons (pe_tup (pa_cons pe_int (pa_cons pe_int pa_nil))) pa_nil))) (pe_mtX (ok_Goal_come T T.m_Whole_come) hr (by decide) px_of (pv 3) (pa_cons (pe_mkX (ok_House___init__ T) hr (by decide) px_of (by rfl) (pa_cons (pe_lst (pa_cons pe_int (pa_cons pe_int pa_nil))) (pa_cons pe_bl pa_nil))) (pa_cons (pe_tup (pa_cons pe_int (pa_cons pe_int pa_nil))) pa_nil))))))) pss_nil) pss_nil) (pss_cons (ps_ret (pe_cX (ok_fewest T) hr (by decide) px_of (by rfl) (pa_cons (pe_mkX (ok_House___init__ T) hr (by decide) px_of (by rfl) (pa_cons (pe_lst (pa_cons pe_int (pa_cons pe_int pa_nil))) (pa_cons pe_bl pa_nil))) (pa_cons (pe_tup (pa_cons pe_int (pa_cons pe_int pa_nil))) (pa_cons (pv 3) pa_nil))))) pss_nil)))), ?_⟩), hm, F.kp, hb⟩

  rintro es r F σ Q ⟨d, w, rfl, ⟨hd, hw⟩, rfl⟩ s k
  simp only [J.cx_K, List.length_cons, List.length_nil, List.cons_append, List.nil_append, Nat.reduceAdd, Nat.reduceSub, List.reduceReplicate, List.append_nil] at s ⊢
  obtain ⟨g, hm, hg, hf⟩ := unfitG_at w hw
  refine q_setO s (o := lstO (unfitG.map (goalS C))) (eo_lstN (ea_consV (S := goalS C (.holds 2 0)) (ev_make (RI := R_Holds K C) (ea_cons ev_c (ea_cons ev_c ea_nil)) ⟨_, _, rfl, .inl ⟨2, 0, rfl, rfl, by decide, rfl⟩⟩) (ea_consV (S := goalS C (.sum [0, 3] 1)) (ev_make (RI := R_Sum K C) (ea_cons (eo_lstN (ss := [iS 0, iS 3]) (ea_consV ev_c (ea_consV ev_c ea_nilV)) (Nat.le_of_ble_eq_true rfl)).v (ea_cons ev_c ea_nil)) ⟨_, _, rfl, .inl ⟨[0, 3], 1, rfl, rfl, js_two (by decide) (by decide) (by decide), by decide, rfl⟩⟩) (ea_consV (S := goalS C (.whole [0])) (ev_make (RI := R_Whole K C) (ea_cons (ev_tupN (ss := [iS 0]) (ea_consV ev_c ea_nilV) (by decide)) ea_nil) ⟨_, rfl, .inl ⟨[0], rfl, by decide, rfl⟩⟩) (ea_consV (S := goalS C (.whole [0, 0, 0])) (ev_make (RI := R_Whole K C) (ea_cons (ev_tupN (ss := [iS 0, iS 0, iS 0]) (ea_consV ev_c (ea_consV ev_c (ea_consV ev_c ea_nilV))) (by decide)) ea_nil) ⟨_, rfl, .inl ⟨[0, 0, 0], rfl, by decide, rfl⟩⟩) (ea_consV (S := goalS C (.whole [4, 0])) (ev_make (RI := R_Whole K C) (ea_cons (ev_tupN (ss := [iS 4, iS 0]) (ea_consV ev_c (ea_consV ev_c ea_nilV)) (by decide)) ea_nil) ⟨_, rfl, .inl ⟨[4, 0], rfl, by decide, rfl⟩⟩) (ea_consV (S := goalS C (.whole [0, 6])) (ev_make (RI := R_Whole K C) (ea_cons (ev_tupN (ss := [iS 0, iS 6]) (ea_consV ev_c (ea_consV ev_c ea_nilV)) (by decide)) ea_nil) ⟨_, rfl, .inl ⟨[0, 6], rfl, by decide, rfl⟩⟩) (ea_consV (S := goalS C (.sum [0, 2] 0)) (ev_make (RI := R_Sum K C) (ea_cons (eo_lstN (ss := [iS 0, iS 2]) (ea_consV ev_c (ea_consV ev_c ea_nilV)) (Nat.le_of_ble_eq_true rfl)).v (ea_cons ev_c ea_nil)) ⟨_, _, rfl, .inl ⟨[0, 2], 0, rfl, rfl, js_two (by decide) (by decide) (by decide), by decide, rfl⟩⟩) ea_nilV))))))) (Nat.le_of_ble_eq_true rfl)) fun σ F H s => ?_
  dsimp only [List.set, J.putS, List.nil_append, List.cons_append] at s
  refine q_set s (S := goalS C g) (ev_ix (ev_ow rfl) (ev_v rfl) (jx_l (i := (w : Int)) isR_b (by omega) (by rw [Int.toNat_natCast]; exact hm))) fun σ F H s => ?_
  dsimp only [List.set, J.putS, List.nil_append, List.cons_append] at s
  have hd : d = 0 ∨ d = 1 := by omega
  rcases hd with rfl | rfl
  · skip
    refine q_ifT s (et_door rfl) (by decide) fun σ F H s => ?_
    exact q_retX s (ex_come (g := g) (ev_v rfl) (ea_cons (ev_house ev_c) (ea_cons ev_pr ea_nil)) ⟨_, _, _, _, rfl, ⟨hg, by decide⟩, .inr ⟨[0, 0], rfl, st35 rfl (by decide) (by decide), .inl ⟨hf, rfl⟩⟩⟩) k
  · skip
    refine q_whenF s (et_door rfl) (by decide) fun σ F H s => ?_
    exact q_retX s (ex_call (R := R_fewest K C) (ea_cons (ev_house ev_c) (ea_cons ev_pr (ea_cons (ev_v rfl) ea_nil))) ⟨_, _, _, _, rfl, (by decide), .inr ⟨[3, 5], rfl, st35 rfl (by decide) (by decide), .inr ⟨g, rfl, hg, hf⟩, rfl⟩⟩) k

end
end Jug


namespace Jug
open PySem PySem.Spec L2 PyProof.Rows J
section
variable {P : Program} {w : World} {K : PySem.W.Frag} {mg : Str → Option Value} {base : Heap} {C : Cs}
/-! ### the kinds of a refusal -/
/-- what is told of an exception of the class D -/
def Kd (K : PySem.W.Frag) (C : Cs) (D : Addr) (ks : List Bool) : Prop := (ExcC K D ∧ PySem.W.exmOne K (.ref D) (.ref C.JugError) = some true ∧ PySem.W.kitOne K (.ref D) (.type "ValueError") = some true) ∧ ∃ b1 b2 b3 b4 b5 : Bool, ks = [b1, b2, b3, b4, b5, true] ∧
  PySem.W.kitOne K (.ref D) (.ref C.BadHouse) = some b1 ∧ PySem.W.kitOne K (.ref D) (.ref C.BadState) = some b2 ∧ PySem.W.kitOne K (.ref D) (.ref C.BadMove) = some b3 ∧ PySem.W.kitOne K (.ref D) (.ref C.BadGoal) = some b4 ∧ PySem.W.kitOne K (.ref D) (.ref C.BadText) = some b5
theorem kd_house (T : Top K mg C) : Kd K C C.BadHouse [true, false, false, false, false, true] := ⟨⟨T.ec_BadHouse, T.em_BadHouse_JugError, T.isxv_BadHouse⟩, _, _, _, _, _, rfl, T.isx_BadHouse_BadHouse, T.isx_BadHouse_BadState, T.isx_BadHouse_BadMove, T.isx_BadHouse_BadGoal, T.isx_BadHouse_BadText⟩
theorem kd_state (T : Top K mg C) : Kd K C C.BadState [false, true, false, false, false, true] := ⟨⟨T.ec_BadState, T.em_BadState_JugError, T.isxv_BadState⟩, _, _, _, _, _, rfl, T.isx_BadState_BadHouse, T.isx_BadState_BadState, T.isx_BadState_BadMove, T.isx_BadState_BadGoal, T.isx_BadState_BadText⟩
theorem kd_move (T : Top K mg C) : Kd K C C.BadMove [false, false, true, false, false, true] := ⟨⟨T.ec_BadMove, T.em_BadMove_JugError, T.isxv_BadMove⟩, _, _, _, _, _, rfl, T.isx_BadMove_BadHouse, T.isx_BadMove_BadState, T.isx_BadMove_BadMove, T.isx_BadMove_BadGoal, T.isx_BadMove_BadText⟩
theorem kd_goal (T : Top K mg C) : Kd K C C.BadGoal [false, false, false, true, false, true] := ⟨⟨T.ec_BadGoal, T.em_BadGoal_JugError, T.isxv_BadGoal⟩, _, _, _, _, _, rfl, T.isx_BadGoal_BadHouse, T.isx_BadGoal_BadState, T.isx_BadGoal_BadMove, T.isx_BadGoal_BadGoal, T.isx_BadGoal_BadText⟩
def R_kinds (K : PySem.W.Frag) (C : Cs) : Addr → Addr → Rel := fun a D es r => ∃ ks, es = [.v (kS (.ref a))] ∧ Kd K C D ks ∧ r = .o (lstO (ks.map bS))
/-! ### _law_kinds: slots 0:_law_error 1:_law_found -/
abbrev s__law_kinds : Stmt := top 47
theorem sc__law_kinds : FnScope ["_law_error", "_law_found"] ["_law_error"] (defScope s__law_kinds) := ⟨rfl, rfl, rfl, by decide +kernel, rfl, by decide +kernel, by decide +kernel⟩
theorem ok__law_kinds (T : Top K mg C) : CalP P w K mg base 1 "_law_kinds" (R_kinds K C) := by
  obtain ⟨f, fd, F, hm, hb⟩ := T.d__law_kinds.ex
  refine ⟨f, fd, _, fnp_ok F sc__law_kinds (fun a D => (by walk_at "len")) (fun cdv A outer s H E p D hot hcl hdi EC hr => ⟨_, (pss_cons (ps_set (i := 1) sc__law_kinds.nd rfl (Or.inl rfl) (pe_lst (pa_cons (pe_callB (call_isP (D := D) (a := p.1) (oe := p.2) List.mem_cons_self EC ⟨hcl, hdi⟩ (hot.2.imp fun _ z => z.1)) (by rfl) T.n_isinstance bt_isinstance (pa_cons (pv 0) (pa_cons (C8.pe_gc (by rfl) (exk T.x_BadHouse)) pa_nil))) (pa_cons (pe_callB (call_isP (D := D) (a := p.1) (oe := p.2) List.mem_cons_self EC ⟨hcl, hdi⟩ (hot.2.imp fun _ z => z.1)) (by rfl) T.n_isinstance bt_isinstance (pa_cons (pv 0) (pa_cons (C8.pe_gc (by rfl) (exk T.x_BadState)) pa_nil))) (pa_cons (pe_callB (call_isP (D := D) (a := p.1) (oe := p.2) List.mem_cons_self EC ⟨hcl, hdi⟩ (hot.2.imp fun _ z => z.1)) (by rfl) T.n_isinstance bt_isinstance (pa_cons (pv 0) (pa_cons (C8.pe_gc (by rfl) (exk T.x_BadMove)) pa_nil))) pa_nil))))) (pss_cons (ps_ret (pe_op (ko_add (K := K) rfl) (pv 1) (pe_lst (pa_cons (pe_callB (call_isP (D := D) (a := p.1) (oe := p.2) List.mem_cons_self EC ⟨hcl, hdi⟩ (hot.2.imp fun _ z => z.1)) (by rfl) T.n_isinstance bt_isinstance (pa_cons (pv 0) (pa_cons (C8.pe_gc (by rfl) (exk T.x_BadGoal)) pa_nil))) (pa_cons (pe_callB (call_isP (D := D) (a := p.1) (oe := p.2) List.mem_cons_self EC ⟨hcl, hdi⟩ (hot.2.imp fun _ z => z.1)) (by rfl) T.n_isinstance bt_isinstance (pa_cons (pv 0) (pa_cons (C8.pe_gc (by rfl) (exk T.x_BadText)) pa_nil))) (pa_cons (pe_callB (call_isP (D := D) (a := p.1) (oe := p.2) List.mem_cons_self EC ⟨hcl, hdi⟩ (hot.2.imp fun _ z => z.1)) (by rfl) T.n_isinstance bt_isinstance (pa_cons (pv 0) (pa_cons (pe_bltn (v := .ty "ValueError") (by rfl) T.n_ValueError bt_ValueError rfl) pa_nil))) pa_nil)))))) pss_nil)), ?_⟩), hm, F.kp, hb⟩

  rintro es r F σ Q ⟨ks, rfl, ⟨⟨_, _, hv⟩, b1, b2, b3, b4, b5, rfl, h1, h2, h3, h4, h5⟩, rfl⟩ s k
  simp only [J.cxH_K, List.length_cons, List.length_nil, List.cons_append, List.nil_append, Nat.reduceAdd, Nat.reduceSub, List.reduceReplicate, List.append_nil] at s ⊢
  have is_ : ∀ {δ : List Ent} {Da : Addr} {b : Bool}, δ[0]? = some (.v (kS (.ref p.1))) → PySem.W.kitOne K (.ref D) (.ref Da) = some b → EvE (tCB (rIsE K D p.1) (tCons (tVar 0) (tCons (tC (.ref Da)) tNil))) δ (.v (bS b)) := fun h2 hb => ev_cb (ea_cons (ev_v h2) (ea_cons ev_c ea_nil)) (cb_isE hb)
  refine q_setO s (o := lstO ([b1, b2, b3].map bS)) (eo_lstN (ss := [b1, b2, b3].map bS) (ea_consV (is_ rfl h1) (ea_consV (is_ rfl h2) (ea_consV (is_ rfl h3) ea_nilV))) (Nat.le_of_ble_eq_true rfl)) fun σ F H s => ?_
  dsimp only [List.set, J.putS, List.nil_append, List.cons_append] at s
  exact q_retO s (EvO.to (eo_op (ev_ow rfl) (EvO.b (eo_lstN (ss := [b4, b5, true].map bS) (ea_consV (is_ rfl h4) (ea_consV (is_ rfl h5) (ea_consV (ev_cb (ea_cons (ev_v rfl) (ea_cons ev_c ea_nil)) (cb_isEt hv)) ea_nilV))) (Nat.le_of_ble_eq_true rfl))) (jo_addl isR_b isR_b (Nat.le_of_ble_eq_true rfl))) rfl) k
/-! ### the lambdas -/
def R_lrt (K : PySem.W.Frag) (C : Cs) : Rel := fun es r => ∃ S S2, es = [.v S, .v S2] ∧ badMoves K C S ∧ r = .x C.BadMove
def R_lsum (K : PySem.W.Frag) (C : Cs) : Rel := fun es r => ∃ S S2, es = [.v S, .v S2] ∧ badSum K S (iS 1) ∧ r = .x C.BadGoal
def R_lwhole (K : PySem.W.Frag) (C : Cs) : Rel := fun es r => ∃ S S2, es = [.v S, .v S2] ∧ badWhole K S ∧ r = .x C.BadGoal
def q_law : Str := ("law" ++ ".<locals>.") ++ "<lambda>"
def L_rt : LamW := (lamIn ((defBody (top 58)).getD 11 (.Pass ⟨0, 0, 0, 0⟩))).get rfl
def q__law_goals_right : Str := ("_law_goals_right" ++ ".<locals>.") ++ "<lambda>"
def L_sum : LamW := (lamIn ((defBody (top 56)).getD 4 (.Pass ⟨0, 0, 0, 0⟩))).get rfl
def L_whole : LamW := (lamIn ((defBody (top 56)).getD 5 (.Pass ⟨0, 0, 0, 0⟩))).get rfl
theorem ok_rt (T : Top K mg C) : LOk P w K mg base (CXJ P w) 3 q_law L_rt ["_law_one", "_law_other"] (SpOf (R_lrt K C)) := by
  refine lok_ok (N := ["_law_one", "_law_other"]) (NdefX.nscope_by (by decide +kernel)) (fun c pm ctv us hl => match us, hl with | [_, _], _ => rfl) (by walk_at "len") (fun f c A outer s H E hr => ⟨_, (pe_cX (ok_routine_text T) hr (by decide) px_ncx (by rfl) (pa_cons (pv 0) pa_nil)), ?_⟩)
  rintro es r F σ Q ⟨S, S2, rfl, hb, rfl⟩ s k
  simp only [J.ncx_K, List.length_cons, List.length_nil, List.cons_append, List.nil_append, Nat.reduceAdd, Nat.reduceSub, List.reduceReplicate, List.append_nil] at s ⊢
  exact ex_call (R := R_routine_text K C) (ea_cons (ev_v rfl) ea_nil) ⟨S, rfl, hb, rfl⟩ _ _ _ _ _ s k _
theorem ok_sum (T : Top K mg C) : LOk P w K mg base (CXJ P w) 5 q__law_goals_right L_sum ["_law_one", "_law_other"] (SpOf (R_lsum K C)) := by
  refine lok_ok (N := ["_law_one", "_law_other"]) (NdefX.nscope_by (by decide +kernel)) (fun c pm ctv us hl => match us, hl with | [_, _], _ => rfl) (by walk_at "len") (fun f c A outer s H E hr => ⟨_, (pe_mkX (ok_Sum___init__ T) hr (by decide) px_ncx (by rfl) (pa_cons (pv 0) (pa_cons pe_int pa_nil))), ?_⟩)
  rintro es r F σ Q ⟨S, S2, rfl, hb, rfl⟩ s k
  simp only [J.ncx_K, List.length_cons, List.length_nil, List.cons_append, List.nil_append, Nat.reduceAdd, Nat.reduceSub, List.reduceReplicate, List.append_nil] at s ⊢
  exact ex_make (RI := R_Sum K C) (ea_cons (ev_v rfl) (ea_cons ev_c ea_nil)) ⟨_, _, rfl, .inr ⟨hb, rfl⟩⟩ _ _ _ _ _ s k _
theorem ok_whole (T : Top K mg C) : LOk P w K mg base (CXJ P w) 4 q__law_goals_right L_whole ["_law_one", "_law_other"] (SpOf (R_lwhole K C)) := by
  refine lok_ok (N := ["_law_one", "_law_other"]) (NdefX.nscope_by (by decide +kernel)) (fun c pm ctv us hl => match us, hl with | [_, _], _ => rfl) (by walk_at "len") (fun f c A outer s H E hr => ⟨_, (pe_mkX (ok_Whole___init__ T) hr (by decide) px_ncx (by rfl) (pa_cons (pv 0) pa_nil)), ?_⟩)
  rintro es r F σ Q ⟨S, S2, rfl, hb, rfl⟩ s k
  simp only [J.ncx_K, List.length_cons, List.length_nil, List.cons_append, List.nil_append, Nat.reduceAdd, Nat.reduceSub, List.reduceReplicate, List.append_nil] at s ⊢
  exact ex_make (RI := R_Whole K C) (ea_cons (ev_v rfl) ea_nil) ⟨_, rfl, .inr ⟨hb, rfl⟩⟩ _ _ _ _ _ s k _
/-! ### what is asked, told -/
def AskX (K : PySem.W.Frag) (C : Cs) (A S1 S2 : Slot) (c : Addr) : Prop :=
  (A = kS (.ref C.v_law_house) ∧ R_lhouse K C [.v S1, .v S2] (.x c)) ∨ (A = kS (.ref C.v_law_with_state) ∧ R_lstate K C [.v S1, .v S2] (.x c)) ∨ (A = kS (.ref C.v_law_with_move) ∧ R_lmove K C [.v S1, .v S2] (.x c)) ∨
  (A = kS (.ref C.v_law_unfit) ∧ R_lunfit C [.v S1, .v S2] (.x c)) ∨ (A = kS (.ref C.v_law_with_goal) ∧ R_lgoal K C [.v S1, .v S2] (.x c)) ∨ (A = kS (.ref C.v_law_goal_unfit) ∧ R_lgunfit C [.v S1, .v S2] (.x c)) ∨
  (A = lamS q_law L_rt ∧ R_lrt K C [.v S1, .v S2] (.x c)) ∨ (A = lamS q__law_goals_right L_sum ∧ R_lsum K C [.v S1, .v S2] (.x c)) ∨ (A = lamS q__law_goals_right L_whole ∧ R_lwhole K C [.v S1, .v S2] (.x c))
def R_told (K : PySem.W.Frag) (C : Cs) : Rel := fun es r => ∃ A S1 S2 c ks, es = [.v A, .v S1, .v S2] ∧ (AskX K C A S1 S2 c ∧ Kd K C c ks) ∧ r = .o (lstO (ks.map bS))
/-! ### _law_told: slots 0:_law_ask 1:_law_one 2:_law_other 3:_law_error -/
abbrev s__law_told : Stmt := top 48
theorem sc__law_told : FnScope ["_law_ask", "_law_one", "_law_other", "_law_error"] ["_law_ask", "_law_one", "_law_other"] (defScope s__law_told) := ⟨rfl, rfl, rfl, by decide +kernel, rfl, by decide +kernel, by decide +kernel⟩
theorem ok__law_told (T : Top K mg C) : CalX P w K mg base 10 "_law_told" (SpOf (R_told K C)) := by
  obtain ⟨f, fd, F, hm, hb⟩ := T.d__law_told.ex
  refine ⟨f, fd, _, fn_ok F sc__law_told (by walk_at "len") (fun cdv A outer s H E hr => ⟨_, (pss_cons (ps_tN (K := K) (i := 3) (ts := fun a cls d => tSeq (tRet (tCall (spX K (R_kinds K C) a cls d) [] (fun _ _ _ => False) (tCons (tVar 3) tNil))) tNext) rfl rfl rfl sc__law_told.nd rfl rfl (by rfl) T.x_JugError.g (fun W pn xe tk => (pss_cons (ps_expr (pe_or2 (pe_callLX (i := 0) (ok__law_house T) T.v__law_house hr (by decide) rfl (Or.inl rfl) (px_trN2 (n := 4) rfl tk) (pa_cons (pv 1) (pa_cons (pv 2) pa_nil))) (pe_or2 (pe_callLX (i := 0) (ok__law_with_state T) T.v__law_with_state hr (by decide) rfl (Or.inl rfl) (px_trN2 (n := 4) rfl tk) (pa_cons (pv 1) (pa_cons (pv 2) pa_nil))) (pe_or2 (pe_callLX (i := 0) (ok__law_with_move T) T.v__law_with_move hr (by decide) rfl (Or.inl rfl) (px_trN2 (n := 4) rfl tk) (pa_cons (pv 1) (pa_cons (pv 2) pa_nil))) (pe_or2 (pe_callLX (i := 0) (ok__law_unfit T) T.v__law_unfit hr (by decide) rfl (Or.inl rfl) (px_trN2 (n := 4) rfl tk) (pa_cons (pv 1) (pa_cons (pv 2) pa_nil))) (pe_or2 (pe_callLX (i := 0) (ok__law_with_goal T) T.v__law_with_goal hr (by decide) rfl (Or.inl rfl) (px_trN2 (n := 4) rfl tk) (pa_cons (pv 1) (pa_cons (pv 2) pa_nil))) (pe_or2 (pe_callLX (i := 0) (ok__law_goal_unfit T) T.v__law_goal_unfit hr (by decide) rfl (Or.inl rfl) (px_trN2 (n := 4) rfl tk) (pa_cons (pv 1) (pa_cons (pv 2) pa_nil))) (pe_or2 (pe_callLm (i := 0) (ok_rt T) hr (by decide) (px_trN2 (n := 4) rfl tk) rfl (Or.inl rfl) (pa_cons (pv 1) (pa_cons (pv 2) pa_nil))) (pe_or2 (pe_callLm (i := 0) (ok_sum T) hr (by decide) (px_trN2 (n := 4) rfl tk) rfl (Or.inl rfl) (pa_cons (pv 1) (pa_cons (pv 2) pa_nil))) (pe_callLm (i := 0) (ok_whole T) hr (by decide) (px_trN2 (n := 4) rfl tk) rfl (Or.inl rfl) (pa_cons (pv 1) (pa_cons (pv 2) pa_nil)))))))))))) pss_nil)) (fun a oe pn hot => (pss_cons (ps_ret (pe_cP (p := (a, oe)) (ok__law_kinds T) (roomS hr) (by decide) hot List.mem_cons_self passN (by rfl) (pa_cons (pv 3) pa_nil))) pss_nil))) (pss_cons (ps_ret (pe_lst pa_nil)) pss_nil)), ?_⟩), hm, F.kp, hb⟩

  rintro es r F σ Q ⟨A, S1, S2, c, ks, rfl, ⟨hA, hk⟩, rfl⟩ s k
  simp only [J.cx_K, List.length_cons, List.length_nil, List.cons_append, List.nil_append, Nat.reduceAdd, Nat.reduceSub, List.reduceReplicate, List.append_nil] at s ⊢
  have s0 := s
  obtain ⟨⟨EC, hem, _⟩, _⟩ := id hk
  have fin : ∀ F' H', Grow F H F' H' → ∀ (D : Ends), D.rt = Q → allS 4 (wAs K (.ref C.JugError) 3 (fun a cls d => tSeq (tRet (tCall (spX K (R_kinds K C) a cls d) [] (fun _ _ _ => False) (tCons (tVar 3) tNil))) tNext) (fun _ _ _ _ => False) D) (.ref c) none H' := by
    intro F' H' g D hD σ' hl
    refine ⟨true, hem, fun _ a ha => ?_, fun z => by cases z⟩
    have s1 : J.St F H F' H' (σ'.set 3 (some (.ref a))) [.un, .un, .un, .v (kS (.ref a))] := (St.blank g (g.tt s0.tt) hl).set_v (i := 3) (v := .ref a) (S := kS (.ref a)) rfl
    have ar0 : EvAs (tCons (tVar 3) tNil) [.un, .un, .un, .v (kS (.ref a))] [.v (kS (.ref a))] := ea_cons (ev_v rfl) ea_nil
    show (tCons (tVar 3) tNil) _ H' (fun vs H1 => spX K (R_kinds K C) a (.ref c) none (vs ++ []) H1 D.rt (fun _ _ _ => False))
    refine ar0 F H F' H' _ s1 _ fun vs F1 H1 g1 a1 => ⟨c, rfl, rfl, EC, F1, _, .o _, g1.fh, (s1.grow g1).tt, pair_app a1, ⟨ks, rfl, hk, rfl⟩, post_o fun p ho F2 H2 g2 hn hf hp z => ?_⟩
    show D.rt (.ref p) H2
    rw [hD]
    exact k p ho F2 H2 ((g.trans g1).trans g2) ((g.trans g1).hh.free hn) hf hp z
  refine q_tA ?_
  have ar : EvAs (tCons (tVar 1) (tCons (tVar 2) tNil)) [Ent.v A, Ent.v S1, Ent.v S2, Ent.un] [.v S1, .v S2] := ea_cons (ev_v rfl) (ea_cons (ev_v rfl) ea_nil)
  rcases hA with ⟨rfl, hR⟩ | ⟨rfl, hR⟩ | ⟨rfl, hR⟩ | ⟨rfl, hR⟩ | ⟨rfl, hR⟩ | ⟨rfl, hR⟩ | ⟨rfl, hR⟩ | ⟨rfl, hR⟩ | ⟨rfl, hR⟩
  · exact q_dropX s (ex_orl (ex_callL rfl ar hR)) fun F' H' g => fin F' H' g _ rfl
  · exact q_dropX s (ex_orr (ex_orl (ex_callL rfl ar hR))) fun F' H' g => fin F' H' g _ rfl
  · exact q_dropX s (ex_orr (ex_orr (ex_orl (ex_callL rfl ar hR)))) fun F' H' g => fin F' H' g _ rfl
  · exact q_dropX s (ex_orr (ex_orr (ex_orr (ex_orl (ex_callL rfl ar hR))))) fun F' H' g => fin F' H' g _ rfl
  · exact q_dropX s (ex_orr (ex_orr (ex_orr (ex_orr (ex_orl (ex_callL rfl ar hR)))))) fun F' H' g => fin F' H' g _ rfl
  · exact q_dropX s (ex_orr (ex_orr (ex_orr (ex_orr (ex_orr (ex_orl (ex_callL rfl ar hR))))))) fun F' H' g => fin F' H' g _ rfl
  · exact q_dropX s (ex_orr (ex_orr (ex_orr (ex_orr (ex_orr (ex_orr (ex_orl (ex_callLm rfl ar hR)))))))) fun F' H' g => fin F' H' g _ rfl
  · exact q_dropX s (ex_orr (ex_orr (ex_orr (ex_orr (ex_orr (ex_orr (ex_orr (ex_orl (ex_callLm rfl ar hR))))))))) fun F' H' g => fin F' H' g _ rfl
  · exact q_dropX s (ex_orr (ex_orr (ex_orr (ex_orr (ex_orr (ex_orr (ex_orr (ex_orr (ex_callLm rfl ar hR))))))))) fun F' H' g => fin F' H' g _ rfl
def R_all (K : PySem.W.Frag) (C : Cs) : Rel := fun es r => ∃ A ds ss c ks, es = [.v A, .v (lstS ds), .v (lstS ss), .v (lstS (ks.map bS))] ∧ (Kd K C c ks ∧ ∀ d ∈ ds, ∀ S ∈ ss, AskX K C A d S c) ∧ r = .v (bS true)
/-! ### _law_all: slots 0:_law_ask 1:_law_doors 2:_law_things 3:_law_due 4:_law_door 5:_law_thing -/
abbrev s__law_all : Stmt := top 55
theorem sc__law_all : FnScope ["_law_ask", "_law_doors", "_law_things", "_law_due", "_law_door", "_law_thing"] ["_law_ask", "_law_doors", "_law_things", "_law_due"] (defScope s__law_all) := ⟨rfl, rfl, rfl, by decide +kernel, rfl, by decide +kernel, by decide +kernel⟩
theorem ok__law_all (T : Top K mg C) : CalX P w K mg base 11 "_law_all" (SpOf (R_all K C)) := by
  obtain ⟨f, fd, F, hm, hb⟩ := T.d__law_all.ex
  refine ⟨f, fd, _, fn_ok F sc__law_all (by walk_at "len") (fun cdv A outer s H E hr => ⟨_, (pss_cons (ps_for (passes_of rfl) rfl (ki_any (K := K) rfl (pv 1)) (pg_name (i := 4) sc__law_all.nd rfl (Or.inl rfl)) (pss_cons (ps_for (passes_of rfl) rfl (ki_any (K := K) rfl (pv 2)) (pg_name (i := 5) sc__law_all.nd rfl (Or.inl rfl)) (pss_cons (ps_if (pt_cmpR (ko_ne (K := K) rfl hr) (pe_cX (ok__law_told T) hr (by decide) px_of (by rfl) (pa_cons (pv 0) (pa_cons (pv 4) (pa_cons (pv 5) pa_nil)))) (pv 3) (nomark _)) (pss_cons (ps_ret pe_bl) pss_nil) pss_nil) pss_nil)) pss_nil)) (pss_cons (ps_ret pe_bl) pss_nil)), ?_⟩), hm, F.kp, hb⟩

  rintro es r F σ Q ⟨A, ds, ss, c, ks, rfl, ⟨hk, hA⟩, rfl⟩ s k
  simp only [J.cx_K, List.length_cons, List.length_nil, List.cons_append, List.nil_append, Nat.reduceAdd, Nat.reduceSub, List.reduceReplicate, List.append_nil] at s ⊢
  refine q_forL s (ev_v rfl) (fun n d => ∃ e4 e5, d = [.v A, .v (lstS ds), .v (lstS ss), .v (lstS (ks.map bS)), e4, e5]) ⟨_, _, rfl⟩ ?_ ?_
  · rintro F1 bs n T' δ' σ F H hT ⟨e4, e5, rfl⟩ s
    have hd := List.mem_of_getElem? hT
    dsimp only [List.set, J.putS, List.nil_append, List.cons_append] at s
    refine q_forL s (ev_v rfl) (fun n d => ∃ e5, d = [.v A, .v (lstS ds), .v (lstS ss), .v (lstS (ks.map bS)), .v T', e5]) ⟨_, rfl⟩ ?_ ?_
    · rintro F1 bs2 n2 S' δ' σ F H hS ⟨e5, rfl⟩ s
      dsimp only [List.set, J.putS, List.nil_append, List.cons_append] at s
      refine q_whenF (b := false) s (et_Test (ev_op (EvO.b (eo_call (R := R_told K C) (ea_cons (ev_v rfl) (ea_cons (ev_v rfl) (ea_cons (ev_v rfl) ea_nil))) ⟨A, T', S', c, ks, rfl, ⟨hA _ hd _ (List.mem_of_getElem? hS), hk⟩, rfl⟩)) (ev_v rfl) (jv_neSame (dat_bl isR_b) (dat_bl isR_v)))) rfl fun σ F H s => ?_
      exact q_nx s ⟨_, rfl⟩
    · rintro δ' σ F H ⟨e5, rfl⟩ s
      exact q_nx s ⟨_, _, rfl⟩
  · rintro δ' σ F H ⟨e4, e5, rfl⟩ s
    exact q_ret s ev_c k

end
end Jug


namespace Jug
open PySem PySem.Spec L2 PyProof.Rows J
section
variable {P : Program} {w : World} {K : PySem.W.Frag} {mg : Str → Option Value} {base : Heap} {C : Cs}
/-! ### good ones, at the bounds -/
theorem jv_isnB {a b : Bool} : OpE rNotB (.v (bS a)) (.v (bS b)) (.v (bS (!decide (a = b)))) := op_k fun _ _ q => ⟨a, b, rfl, rfl, q⟩
theorem ev_comeG {E : XK} {to : TE} {ta : TA} {δ : List Ent} {es : List Ent} {g : Gl} {S : Slot} (h : EvE to δ (.v (goalS C g))) (ha : EvAs ta δ es) (hR : R_come K C (.v (goalS C g) :: es) (.v S)) :
    EvE (fun σ H Q => tMeth C.Holds "come" (SpOf (R_come K C)) [] E to ta σ H Q ∨ (fun σ H Q => tMeth C.Some "come" (SpOf (R_come K C)) [] E to ta σ H Q ∨ (fun σ H Q => tMeth C.Sum "come" (SpOf (R_come K C)) [] E to ta σ H Q ∨ tMeth C.Whole "come" (SpOf (R_come K C)) [] E to ta σ H Q) σ H Q) σ H Q) δ (.v S) := by
  cases g with
  | holds j m => exact ev_orl (ev_meth (fs := holdsF j m) h (by walk_at "lk") ha hR)
  | some m => exact ev_orr (ev_orl (ev_meth (fs := someF m) h (by walk_at "lk") ha hR))
  | sum js m => exact ev_orr (ev_orr (ev_orl (ev_meth (fs := sumF js m) h (by walk_at "lk") ha hR)))
  | whole y => exact ev_orr (ev_orr (ev_orr (ev_meth (fs := wholeF y) h (by walk_at "lk") ha hR)))
theorem ev_h1 {tb : TE} {δ : List Ent} {E : XK} {a : Int} {b : Bool} (hb : EvE tb δ (.v (bS b))) (hk : HouseOk [a]) : EvE (tMake C.House (SpInit C.House (R_House K C)) [] E (tCons (tLst (tCons (tC (.int a)) tNil)) (tCons tb tNil))) δ (.v (houseS C [a] b)) :=
  ev_make (RI := R_House K C) (ea_cons (eo_lstN (ss := [iS a]) (ea_consV ev_c ea_nilV) (Nat.le_of_ble_eq_true rfl)).v (ea_cons hb ea_nil)) (house_ok (z := [a]) hk)
theorem ev_h2 {tb : TE} {δ : List Ent} {E : XK} {a a2 : Int} {b : Bool} (hb : EvE tb δ (.v (bS b))) (hk : HouseOk [a, a2]) : EvE (tMake C.House (SpInit C.House (R_House K C)) [] E (tCons (tLst (tCons (tC (.int a)) (tCons (tC (.int a2)) tNil))) (tCons tb tNil))) δ (.v (houseS C [a, a2] b)) :=
  ev_make (RI := R_House K C) (ea_cons (eo_lstN (ss := [iS a, iS a2]) (ea_consV ev_c (ea_consV ev_c ea_nilV)) (Nat.le_of_ble_eq_true rfl)).v (ea_cons hb ea_nil)) (house_ok (z := [a, a2]) hk)
theorem ev_t1 {δ : List Ent} {a : Int} : EvE (tTup (tCons (tC (.int a)) tNil)) δ (.v (stS [a])) := ev_tupN (ss := [iS a]) (ea_consV ev_c ea_nilV) (Nat.le_of_ble_eq_true rfl)
theorem st1 {a b : Int} (h : 0 ≤ b ∧ b ≤ a) : StOk [a] [b] := stOk_iff.mpr ⟨rfl, fun i hi => by
  have hi : i < 1 := hi
  have : i = 0 := by omega
  subst this
  exact h⟩
def R_good : Rel := fun es r => es = [] ∧ r = .v (bS true)
/-! ### _law_good: slots  -/
abbrev s__law_good : Stmt := top 57
theorem sc__law_good : FnScope [] [] (defScope s__law_good) := ⟨rfl, rfl, rfl, by decide +kernel, rfl, by decide +kernel, by decide +kernel⟩
theorem ok__law_good (T : Top K mg C) : CalX P w K mg base 8 "_law_good" (SpOf R_good) := by
  obtain ⟨f, fd, F, hm, hb⟩ := T.d__law_good.ex
  refine ⟨f, fd, _, fn_ok F sc__law_good (by walk_at "len") (fun cdv A outer s H E hr => ⟨_, (pss_cons (ps_if (PW.pt (pw_or (pt_cmpR (ko_ne (K := K) rfl hr) (pe_mtX0 (ok_House_moves T T.m_House_moves) hr (by decide) px_of (pe_mkX (ok_House___init__ T) hr (by decide) px_of (by rfl) (pa_cons (pe_lst (pa_cons pe_int pa_nil)) (pa_cons pe_bl pa_nil)))) (pe_lst pa_nil) (nomark _)) (pw_or1 (pt_cmpR (ko_ne (K := K) rfl hr) (pe_callB (kc_len (K := K) rfl) (by rfl) T.n_len bt_len (pa_cons (pe_mtX0 (ok_House_states T T.m_House_states) hr (by decide) px_of (pe_mkX (ok_House___init__ T) hr (by decide) px_of (by rfl) (pa_cons (pe_lst (pa_cons pe_int (pa_cons pe_int pa_nil))) (pa_cons pe_bl pa_nil)))) pa_nil)) pe_int (nomark _))))) (pss_cons (ps_ret pe_bl) pss_nil) pss_nil) (pss_cons (ps_if (PW.pt (pw_or (pt_cmpR jo_isnotB (pe_or2 (pe_mtX (ok_Goal_come T T.m_Holds_come) hr (by decide) px_of (pe_mkX (ok_Some___init__ T) hr (by decide) px_of (by rfl) (pa_cons pe_int pa_nil)) (pa_cons (pe_mkX (ok_House___init__ T) hr (by decide) px_of (by rfl) (pa_cons (pe_lst (pa_cons pe_int pa_nil)) (pa_cons pe_bl pa_nil))) (pa_cons (pe_tup (pa_cons pe_int pa_nil)) pa_nil))) (pe_or2 (pe_mtX (ok_Goal_come T T.m_Some_come) hr (by decide) px_of (pe_mkX (ok_Some___init__ T) hr (by decide) px_of (by rfl) (pa_cons pe_int pa_nil)) (pa_cons (pe_mkX (ok_House___init__ T) hr (by decide) px_of (by rfl) (pa_cons (pe_lst (pa_cons pe_int pa_nil)) (pa_cons pe_bl pa_nil))) (pa_cons (pe_tup (pa_cons pe_int pa_nil)) pa_nil))) (pe_or2 (pe_mtX (ok_Goal_come T T.m_Sum_come) hr (by decide) px_of (pe_mkX (ok_Some___init__ T) hr (by decide) px_of (by rfl) (pa_cons pe_int pa_nil)) (pa_cons (pe_mkX (ok_House___init__ T) hr (by decide) px_of (by rfl) (pa_cons (pe_lst (pa_cons pe_int pa_nil)) (pa_cons pe_bl pa_nil))) (pa_cons (pe_tup (pa_cons pe_int pa_nil)) pa_nil))) (pe_mtX (ok_Goal_come T T.m_Whole_come) hr (by decide) px_of (pe_mkX (ok_Some___init__ T) hr (by decide) px_of (by rfl) (pa_cons pe_int pa_nil)) (pa_cons (pe_mkX (ok_House___init__ T) hr (by decide) px_of (by rfl) (pa_cons (pe_lst (pa_cons pe_int pa_nil)) (pa_cons pe_bl pa_nil))) (pa_cons (pe_tup (pa_cons pe_int pa_nil)) pa_nil)))))) pe_bl (nomark _)) (pw_or1 (pt_cmpR jo_isnotB (pe_or2 (pe_mtX (ok_Goal_come T T.m_Holds_come) hr (by decide) px_of (pe_mkX (ok_Holds___init__ T) hr (by decide) px_of (by rfl) (pa_cons pe_int (pa_cons pe_int pa_nil))) (pa_cons (pe_mkX (ok_House___init__ T) hr (by decide) px_of (by rfl) (pa_cons (pe_lst (pa_cons pe_int pa_nil)) (pa_cons pe_bl pa_nil))) (pa_cons (pe_tup (pa_cons pe_int pa_nil)) pa_nil))) (pe_or2 (pe_mtX (ok_Goal_come T T.m_Some_come) hr (by decide) px_of (pe_mkX (ok_Holds___init__ T) hr (by decide) px_of (by rfl) (pa_cons pe_int (pa_cons pe_int pa_nil))) (pa_cons (pe_mkX (ok_House___init__ T) hr (by decide) px_of (by rfl) (pa_cons (pe_lst (pa_cons pe_int pa_nil)) (pa_cons pe_bl pa_nil))) (pa_cons (pe_tup (pa_cons pe_int pa_nil)) pa_nil))) (pe_or2 (pe_mtX (ok_Goal_come T T.m_Sum_come) hr (by decide) px_of (pe_mkX (ok_Holds___init__ T) hr (by decide) px_of (by rfl) (pa_cons pe_int (pa_cons pe_int pa_nil))) (pa_cons (pe_mkX (ok_House___init__ T) hr (by decide) px_of (by rfl) (pa_cons (pe_lst (pa_cons pe_int pa_nil)) (pa_cons pe_bl pa_nil))) (pa_cons (pe_tup (pa_cons pe_int pa_nil)) pa_nil))) (pe_mtX (ok_Goal_come T T.m_Whole_come) hr (by decide) px_of (pe_mkX (ok_Holds___init__ T) hr (by decide) px_of (by rfl) (pa_cons pe_int (pa_cons pe_int pa_nil))) (pa_cons (pe_mkX (ok_House___init__ T) hr (by decide) px_of (by rfl) (pa_cons (pe_lst (pa_cons pe_int pa_nil)) (pa_cons pe_bl pa_nil))) (pa_cons (pe_tup (pa_cons pe_int pa_nil)) pa_nil)))))) pe_bl (nomark _))))) (pss_cons (ps_ret pe_bl) pss_nil) pss_nil) (pss_cons (ps_ret (pe_and (pe_cmpR (ko_eq (K := K) rfl hr) (pe_cX (ok_reached T) hr (by decide) px_of (by rfl) (pa_cons (pe_mkX (ok_House___init__ T) hr (by decide) px_of (by rfl) (pa_cons (pe_lst (pa_cons pe_int pa_nil)) (pa_cons pe_bl pa_nil))) (pa_cons (pe_tup (pa_cons pe_int pa_nil)) pa_nil))) (pe_lst (pa_cons (pe_tup (pa_cons pe_int pa_nil)) pa_nil)) (nomark _)) (pe_one (pe_cmpR jo_isB (pe_or2 (pe_mtX (ok_Goal_come T T.m_Holds_come) hr (by decide) px_of (pe_mkX (ok_Whole___init__ T) hr (by decide) px_of (by rfl) (pa_cons (pe_tup (pa_cons pe_int pa_nil)) pa_nil)) (pa_cons (pe_mkX (ok_House___init__ T) hr (by decide) px_of (by rfl) (pa_cons (pe_lst (pa_cons pe_int pa_nil)) (pa_cons pe_bl pa_nil))) (pa_cons (pe_tup (pa_cons pe_int pa_nil)) pa_nil))) (pe_or2 (pe_mtX (ok_Goal_come T T.m_Some_come) hr (by decide) px_of (pe_mkX (ok_Whole___init__ T) hr (by decide) px_of (by rfl) (pa_cons (pe_tup (pa_cons pe_int pa_nil)) pa_nil)) (pa_cons (pe_mkX (ok_House___init__ T) hr (by decide) px_of (by rfl) (pa_cons (pe_lst (pa_cons pe_int pa_nil)) (pa_cons pe_bl pa_nil))) (pa_cons (pe_tup (pa_cons pe_int pa_nil)) pa_nil))) (pe_or2 (pe_mtX (ok_Goal_come T T.m_Sum_come) hr (by decide) px_of (pe_mkX (ok_Whole___init__ T) hr (by decide) px_of (by rfl) (pa_cons (pe_tup (pa_cons pe_int pa_nil)) pa_nil)) (pa_cons (pe_mkX (ok_House___init__ T) hr (by decide) px_of (by rfl) (pa_cons (pe_lst (pa_cons pe_int pa_nil)) (pa_cons pe_bl pa_nil))) (pa_cons (pe_tup (pa_cons pe_int pa_nil)) pa_nil))) (pe_mtX (ok_Goal_come T T.m_Whole_come) hr (by decide) px_of (pe_mkX (ok_Whole___init__ T) hr (by decide) px_of (by rfl) (pa_cons (pe_tup (pa_cons pe_int pa_nil)) pa_nil)) (pa_cons (pe_mkX (ok_House___init__ T) hr (by decide) px_of (by rfl) (pa_cons (pe_lst (pa_cons pe_int pa_nil)) (pa_cons pe_bl pa_nil))) (pa_cons (pe_tup (pa_cons pe_int pa_nil)) pa_nil)))))) pe_bl (nomark _))))) pss_nil))), ?_⟩), hm, F.kp, hb⟩

  rintro es r F σ Q ⟨rfl, rfl⟩ s k
  simp only [J.cx_K, List.length_cons, List.length_nil, List.cons_append, List.nil_append, Nat.reduceAdd, Nat.reduceSub, List.reduceReplicate, List.append_nil] at s ⊢
  have k60 : HouseOk [60] := ⟨by decide, by decide, by decide, by decide⟩
  have k3 : HouseOk [3] := ⟨by decide, by decide, by decide, by decide⟩
  have k49 : HouseOk [49, 39] := ⟨by decide, by decide, by decide, by decide⟩
  have hst : ((statesOf [49, 39]).length : Int) = 2000 := by
    unfold statesOf
    rw [statesTo_len k49.sz _ (Nat.le_refl _)]
    decide
  refine q_whenF (b := false) s (EvT.to (et_or (et_Test (ev_op (EvO.b (EvO.to (o' := lstO (([] : List Bool).map bS)) (eo_meth (fs := hoF [60] false) (ev_h1 ev_c k60) (by walk_at "lk") ea_nil ⟨[60], false, rfl, by decide, rfl⟩) rfl)) (EvO.b (eo_lstN (ss := []) ea_nilV (Nat.le_of_ble_eq_true rfl))) (jv_neSame (dat_bl (bs := []) isR_b) (dat_bl (bs := []) isR_b))))
    fun _ => et_Test (ev_op (ev_cb (ea_cons (EvO.b (eo_meth (fs := hoF [49, 39] true) (ev_h2 ev_c k49) (by walk_at "lk") ea_nil ⟨[49, 39], true, rfl, k49, rfl⟩)) ea_nil) (cb_lenM isR_b)) ev_c jv_nei)) (by rw [hst]; rfl)) rfl fun σ F H s => ?_
  refine q_whenF (b := false) s (EvT.to (et_or (et_Test (ev_op (ev_comeG (g := .some 240) (S := bS false) (ev_make (RI := R_Some K C) (ea_cons ev_c ea_nil) ⟨_, rfl, .inl ⟨240, rfl, by decide, rfl⟩⟩) (ea_cons (ev_h1 ev_c k3) (ea_cons ev_t1 ea_nil)) ⟨_, [3], true, _, rfl, ⟨True.intro, by decide⟩, .inr ⟨[0], rfl, st1 (by decide), .inr ⟨rfl, True.intro, rfl⟩⟩⟩) ev_c jv_isnB))
    fun _ => et_Test (ev_op (ev_comeG (g := .holds 0 240) (S := bS false) (ev_make (RI := R_Holds K C) (ea_cons ev_c (ea_cons ev_c ea_nil)) ⟨_, _, rfl, .inl ⟨0, 240, rfl, rfl, by decide, rfl⟩⟩) (ea_cons (ev_h1 ev_c k3) (ea_cons ev_t1 ea_nil)) ⟨_, [3], false, _, rfl, ⟨True.intro, by decide⟩, .inr ⟨[3], rfl, st1 (by decide), .inr ⟨rfl, (by decide : 0 < 1), rfl⟩⟩⟩) ev_c jv_isnB)) rfl) rfl fun σ F H s => ?_
  refine q_ret s (EvE.to (ev_and (ev_op (EvO.b (eo_call (R := R_reached K C) (ea_cons (ev_h1 ev_c k60) (ea_cons ev_t1 ea_nil)) ⟨[60], false, _, rfl, by decide, .inr ⟨[7], rfl, rfl, rfl, st1 (by decide), ⟨rfl, fun m hm => by rw [List.mem_singleton.mp hm]; decide⟩, rfl⟩⟩)) (EvO.b (eo_lstN (ss := [stS [7]]) (ea_consV ev_t1 ea_nilV) (Nat.le_of_ble_eq_true rfl))) (jv_eqSame (dat_itl (xs := [[7]]) isR_b) (dat_itl (xs := [[7]]) isR_b)))
    fun _ => ev_op (ev_comeG (g := .whole [60]) (S := bS true) (ev_make (RI := R_Whole K C) (ea_cons ev_t1 ea_nil) ⟨_, rfl, .inl ⟨[60], rfl, by decide, rfl⟩⟩) (ea_cons (ev_h1 ev_c k60) (ea_cons ev_t1 ea_nil)) ⟨_, [60], true, _, rfl, ⟨True.intro, by decide⟩, .inr ⟨[60], rfl, st1 (by decide), .inr ⟨rfl, True.intro, rfl⟩⟩⟩) ev_c jv_isB) rfl) k

end
end Jug


namespace Jug
open PySem PySem.Spec L2 PyProof.Rows J
section
variable {P : Program} {w : World} {K : PySem.W.Frag} {mg : Str → Option Value} {base : Heap} {C : Cs}
open LamX
/-! ### what is no number in the bounds -/
theorem kt_Ni {K : PySem.W.Frag} : PySem.W.kitOne K (.type "NoneType") (.type "int") = some false := kit_ty (by decide +kernel)
theorem kt_si {K : PySem.W.Frag} : PySem.W.kitOne K (.type "str") (.type "int") = some false := kit_ty (by decide +kernel)
theorem kt_li {K : PySem.W.Frag} : PySem.W.kitOne K (.type "list") (.type "int") = some false := kit_ty (by decide +kernel)
theorem kt_Nl {K : PySem.W.Frag} : PySem.W.kitOne K (.type "NoneType") (.type "list") = some false := kit_ty (by decide +kernel)
theorem kt_sl {K : PySem.W.Frag} : PySem.W.kitOne K (.type "str") (.type "list") = some false := kit_ty (by decide +kernel)
theorem kt_tl {K : PySem.W.Frag} : PySem.W.kitOne K (.type "tuple") (.type "list") = some false := kit_ty (by decide +kernel)
theorem kt_il {K : PySem.W.Frag} : PySem.W.kitOne K (.type "int") (.type "list") = some false := kit_ty (by decide +kernel)
theorem kt_bL {K : PySem.W.Frag} : PySem.W.kitOne K (.type "bool") (.type "list") = some false := kit_ty (by decide +kernel)
theorem kt_Nt {K : PySem.W.Frag} : PySem.W.kitOne K (.type "NoneType") (.type "tuple") = some false := kit_ty (by decide +kernel)
theorem kt_st {K : PySem.W.Frag} : PySem.W.kitOne K (.type "str") (.type "tuple") = some false := kit_ty (by decide +kernel)
theorem kt_lt {K : PySem.W.Frag} : PySem.W.kitOne K (.type "list") (.type "tuple") = some false := kit_ty (by decide +kernel)
theorem kt_it {K : PySem.W.Frag} : PySem.W.kitOne K (.type "int") (.type "tuple") = some false := kit_ty (by decide +kernel)
theorem kt_Nb {K : PySem.W.Frag} : PySem.W.kitOne K (.type "NoneType") (.type "bool") = some false := kit_ty (by decide +kernel)
theorem kt_sb {K : PySem.W.Frag} : PySem.W.kitOne K (.type "str") (.type "bool") = some false := kit_ty (by decide +kernel)
theorem kt_lb {K : PySem.W.Frag} : PySem.W.kitOne K (.type "list") (.type "bool") = some false := kit_ty (by decide +kernel)
section
variable {K : PySem.W.Frag} {lo hi n m far : Int}
theorem w8_hi (h : hi < n) : W8 K (iS n) lo hi false := .inl ⟨n, rfl, by rw [decide_eq_false (show ¬ n ≤ hi by omega), Bool.and_false]⟩
theorem w8_lo (h : n < lo) : W8 K (iS n) lo hi false := .inl ⟨n, rfl, by rw [decide_eq_false (show ¬ lo ≤ n by omega), Bool.false_and]⟩
theorem w8_N : W8 K nS lo hi false := .inr (.inr ⟨_, ty_non, kt_Ni, rfl⟩)
theorem w8_s {x : Str} : W8 K (sS x) lo hi false := .inr (.inr ⟨_, ty_str, kt_si, rfl⟩)
theorem w8_l {ss : List Slot} : W8 K (lstS ss) lo hi false := .inr (.inr ⟨_, ty_lst isR_v, kt_li, rfl⟩)
abbrev six (m far : Int) : List Slot := [iS m, iS (m + far), iS (-1 - far), bS true, nS, sS "0"]
theorem six_bad (hm : hi < m) (h0 : 0 ≤ far) : ∀ S ∈ six m far, W8 K S 0 hi false := by
  intro S hS
  simp only [six, List.mem_cons, List.not_mem_nil, or_false] at hS
  rcases hS with rfl | rfl | rfl | rfl | rfl | rfl
  · exact w8_hi hm
  · exact w8_hi (by omega)
  · exact w8_lo (by omega)
  · exact w8_bl
  · exact w8_N
  · exact w8_s
theorem nl_N : nonL K nS := ⟨_, ty_non, kt_Nl⟩
theorem nl_s {x : Str} : nonL K (sS x) := ⟨_, ty_str, kt_sl⟩
theorem nl_t {ss : List Slot} : nonL K (tupS ss) := ⟨_, ty_tup isR_v, kt_tl⟩
theorem nl_i : nonL K (iS n) := ⟨_, ty_int, kt_il⟩
theorem nl_b {b : Bool} : nonL K (bS b) := ⟨_, ty_bl, kt_bL⟩
end
/-- six things that are told of in turn -/
theorem ea_six {δ : List Ent} {i : Nat} {m far : Int} (h : δ[i]? = some (.v (iS far))) :
    EvV (tCons (tC (.int m)) (tCons (tOp (rAddJ K) (tC (.int m)) (tVar i)) (tCons (tOp (rI0 fun i j => .int (i - j)) (tUn (rU fun i => .int (-i)) (tC (.int 1))) (tVar i)) (tCons (tC (.bl true)) (tCons (tC .non) (tCons (tC (.str "0")) tNil)))))) δ (six m far) :=
  ea_consV ev_c (ea_consV (ev_op ev_c (ev_v h) jv_add) (ea_consV (ev_op (ev_un ev_c un_I) (ev_v h) op_I0) (ea_consV ev_c (ea_consV ev_c (ea_consV ev_c ea_nilV)))))
abbrev dueS (ks : List Bool) : Slot := lstS (ks.map bS)
abbrev kG : List Bool := [false, false, false, true, false, true]
def SpG (Ts : List (Addr × Str)) : Sp := fun vs H Q _ => ∃ (F : Hp) (far : Int), (Same F H ∧ TupIn F H) ∧ Tabs Ts H ∧ (∀ p ∈ Ts, F p.1 = none) ∧ PairS F vs [iS far, dueS kG] ∧ 0 ≤ far ∧ ∀ F' H', Same F F' → Same F' H' → TupIn F' H' → Q (.bl true) H'
theorem len__law_goals_right {Ts : List (Addr × Str)} : ∀ vs H Q E, SpG Ts vs H Q E → vs.length = ["_law_far", "_law_due"].length := fun vs H Q E ⟨F, far, _, _, _, h, _⟩ => h.length
def sumB : List Slot := [nS, lstS [], stS [0, 1], intsS [1, 1], intsS [0, 1, 0], sS "01"]
theorem sumB_bad {K : PySem.W.Frag} : ∀ S ∈ sumB, badSum K S (iS 1) := by
  intro S hS
  simp only [sumB, List.mem_cons, List.not_mem_nil, or_false] at hS
  rcases hS with rfl | rfl | rfl | rfl | rfl | rfl
  · exact .inl nl_N
  · exact .inr (.inl rfl)
  · exact .inl nl_t
  · refine .inr (.inr (.inr (.inl ⟨[1, 1], 1, 1, rfl, ⟨by decide, by decide, by decide, fun m hm j hj => ?_⟩, rfl, by decide⟩)))
    have : m = 0 := by omega
    subst this
    simp
  · refine .inr (.inr (.inr (.inl ⟨[0, 1, 0], 2, 0, rfl, ⟨by decide, by decide, by decide, fun m hm j hj => ?_⟩, rfl, by decide⟩)))
    have : m = 0 ∨ m = 1 := by omega
    rcases this with rfl | rfl
    · simp
    · have e : j = 1 := by simpa using hj.symm
      subst e
      decide
  · exact .inl nl_s
def whoB : List Slot := [nS, intsS [0, 0], sS "00", stS [0, 0, 0, 0, 0], iS 3, stS []]
theorem whoB_bad {K : PySem.W.Frag} : ∀ S ∈ whoB, badWhole K S := by
  intro S hS
  simp only [whoB, List.mem_cons, List.not_mem_nil, or_false] at hS
  rcases hS with rfl | rfl | rfl | rfl | rfl | rfl
  · exact .inl ⟨_, ty_non, kt_Nt⟩
  · exact .inl ⟨_, ty_lst isR_v, kt_lt⟩
  · exact .inl ⟨_, ty_str, kt_st⟩
  · exact .inr (.inl ⟨_, rfl, by decide⟩)
  · exact .inl ⟨_, ty_int, kt_it⟩
  · exact .inr (.inl ⟨_, rfl, by decide⟩)
theorem ask_goal {d : Nat} {S : Slot} (h : (d = 0 ∧ W8 K S 0 3 false) ∨ (d = 1 ∧ W8 K S 0 240 false) ∨ (d = 2 ∧ W8 K S 0 240 false) ∨ (d = 3 ∧ W8 K S 0 240 false) ∨ (d = 4 ∧ W8 K S 0 3 false) ∨ (d = 5 ∧ W8 K S 0 60 false) ∨ (d = 6 ∧ nonGl K C S)) :
    AskX K C (kS (.ref C.v_law_with_goal)) (iS (d : Int)) S C.BadGoal := .inr (.inr (.inr (.inr (.inl ⟨rfl, d, S, rfl, h, rfl⟩))))
theorem nonGl6 (T : Top K mg C) : ∀ S ∈ ([nS, iS 0, stS [0, 0], sS "some 1"] : List Slot), nonGl K C S := by
  intro S hS
  simp only [List.mem_cons, List.not_mem_nil, or_false] at hS
  rcases hS with rfl | rfl | rfl | rfl
  · exact ⟨_, ty_non, T.isb_NoneType_Goal⟩
  · exact ⟨_, ty_int, T.isb_int_Goal⟩
  · exact ⟨_, ty_tup isR_v, T.isb_tuple_Goal⟩
  · exact ⟨_, ty_str, T.isb_str_Goal⟩
/-! ### _law_goals_right: slots 0:_law_far 1:_law_due 2:_law_jugs 3:_law_thing -/
abbrev s__law_goals_right : Stmt := top 56
theorem sc__law_goals_right : FnScope ["_law_far", "_law_due", "_law_jugs", "_law_thing"] ["_law_far", "_law_due"] (defScope s__law_goals_right) := ⟨rfl, rfl, rfl, by decide +kernel, rfl, by decide +kernel, by decide +kernel⟩
theorem ok__law_goals_right_at (T : Top K mg C) {f c Pt : Addr} {fd : FuncData} {Ts : List (Addr × Str)} (F : Fun K "_law_goals_right" "_law_goals_right" s__law_goals_right f fd) (hc : fd.code = .ref c) (TB : TabB base mg c Pt) (hm : (Pt, q__law_goals_right) ∈ Ts) (hu : ∀ p ∈ Ts, p.1 = Pt → p.2 = q__law_goals_right) : FnOk P w K mg base (CXJ P w) 12 f fd ["_law_far", "_law_due"] (SpG Ts) := by
  refine okAnyC F hc sc__law_goals_right (len__law_goals_right) (fun A outer s H vs Q E hr hsp => ⟨_, (pss_cons (ps_if (pt_not (pt_val (pe_cX (ok__law_all T) hr (by decide) px_of (by rfl) (pa_cons (C8.pe_gc (by rfl) T.v__law_with_goal) (pa_cons (pe_lst (pa_cons pe_int (pa_cons pe_int pa_nil))) (pa_cons (pe_lst (pa_cons pe_int (pa_cons (pe_op (ko_add (K := K) rfl) pe_int (pv 0)) (pa_cons (pe_op op_sub (pe_un un_neg pe_int) (pv 0)) (pa_cons pe_bl (pa_cons pe_non (pa_cons pe_str pa_nil))))))) (pa_cons (pv 1) pa_nil))))))) (pss_cons (ps_ret pe_bl) pss_nil) pss_nil) (pss_cons (ps_if (pt_not (pt_val (pe_cX (ok__law_all T) hr (by decide) px_of (by rfl) (pa_cons (C8.pe_gc (by rfl) T.v__law_with_goal) (pa_cons (pe_lst (pa_cons pe_int (pa_cons pe_int (pa_cons pe_int pa_nil)))) (pa_cons (pe_lst (pa_cons pe_int (pa_cons (pe_op (ko_add (K := K) rfl) pe_int (pv 0)) (pa_cons (pe_op op_sub (pe_un un_neg pe_int) (pv 0)) (pa_cons pe_bl (pa_cons pe_non (pa_cons pe_str pa_nil))))))) (pa_cons (pv 1) pa_nil))))))) (pss_cons (ps_ret pe_bl) pss_nil) pss_nil) (pss_cons (ps_if (pt_not (pt_val (pe_cX (ok__law_all T) hr (by decide) px_of (by rfl) (pa_cons (C8.pe_gc (by rfl) T.v__law_with_goal) (pa_cons (pe_lst (pa_cons pe_int pa_nil)) (pa_cons (pe_lst (pa_cons pe_int (pa_cons (pe_op (ko_add (K := K) rfl) pe_int (pv 0)) (pa_cons (pe_op op_sub (pe_un un_neg pe_int) (pv 0)) (pa_cons pe_bl (pa_cons pe_non (pa_cons pe_str pa_nil))))))) (pa_cons (pv 1) pa_nil))))))) (pss_cons (ps_ret pe_bl) pss_nil) pss_nil) (pss_cons (ps_if (pt_not (pt_val (pe_cX (ok__law_all T) hr (by decide) px_of (by rfl) (pa_cons (C8.pe_gc (by rfl) T.v__law_with_goal) (pa_cons (pe_lst (pa_cons pe_int pa_nil)) (pa_cons (pe_lst (pa_cons pe_non (pa_cons pe_int (pa_cons (pe_tup (pa_cons pe_int (pa_cons pe_int pa_nil))) (pa_cons pe_str pa_nil))))) (pa_cons (pv 1) pa_nil))))))) (pss_cons (ps_ret pe_bl) pss_nil) pss_nil) (pss_cons (ps_for (passes_of rfl) rfl (ki_any (K := K) rfl (pe_lst (pa_cons pe_non (pa_cons (pe_lst pa_nil) (pa_cons (pe_tup (pa_cons pe_int (pa_cons pe_int pa_nil))) (pa_cons (pe_lst (pa_cons pe_int (pa_cons pe_int pa_nil))) (pa_cons (pe_lst (pa_cons pe_int (pa_cons pe_int (pa_cons pe_int pa_nil)))) (pa_cons pe_str pa_nil)))))))) (pg_name (i := 2) sc__law_goals_right.nd rfl (Or.inl rfl)) (pss_cons (ps_if (pt_cmpR (ko_ne (K := K) rfl hr) (pe_cX (ok__law_told T) hr (by decide) px_of (by rfl) (pa_cons (pe_lamJ (q := q__law_goals_right) TB rfl rfl hm hu rfl rfl rfl) (pa_cons (pv 2) (pa_cons pe_int pa_nil)))) (pv 1) (nomark _)) (pss_cons (ps_ret pe_bl) pss_nil) pss_nil) pss_nil)) (pss_cons (ps_for (passes_of rfl) rfl (ki_any (K := K) rfl (pe_lst (pa_cons pe_non (pa_cons (pe_lst (pa_cons pe_int (pa_cons pe_int pa_nil))) (pa_cons pe_str (pa_cons (pe_tup (pa_cons pe_int (pa_cons pe_int (pa_cons pe_int (pa_cons pe_int (pa_cons pe_int pa_nil)))))) (pa_cons pe_int (pa_cons (pe_tup pa_nil) pa_nil)))))))) (pg_name (i := 3) sc__law_goals_right.nd rfl (Or.inl rfl)) (pss_cons (ps_if (pt_cmpR (ko_ne (K := K) rfl hr) (pe_cX (ok__law_told T) hr (by decide) px_of (by rfl) (pa_cons (pe_lamJ (q := q__law_goals_right) TB rfl rfl hm hu rfl rfl rfl) (pa_cons (pv 3) (pa_cons pe_int pa_nil)))) (pv 1) (nomark _)) (pss_cons (ps_ret pe_bl) pss_nil) pss_nil) pss_nil)) (pss_cons (ps_ret (pe_cX (ok__law_all T) hr (by decide) px_of (by rfl) (pa_cons (C8.pe_gc (by rfl) T.v__law_goal_unfit) (pa_cons (pe_lst (pa_cons pe_int (pa_cons pe_int pa_nil))) (pa_cons (pe_listRg rfl (by rfl) T.n_list (prg_1 (by rfl) T.n_range pe_int)) (pa_cons (pv 1) pa_nil)))))) pss_nil))))))), ?_⟩)

  obtain ⟨F, far, ⟨sm, tt⟩, tb, nf, hv, h0, k⟩ := hsp
  have s := start_v (N := ["_law_far", "_law_due", "_law_jugs", "_law_thing"]) sm tt hv
  simp only [J.cx_K, List.map_cons, List.map_nil, List.length_cons, List.length_nil, List.cons_append, List.nil_append, Nat.reduceAdd, Nat.reduceSub, List.reduceReplicate, List.append_nil] at s ⊢
  refine q_whenF (b := false) s (et_not (et_B (ev_call (R := R_all K C) (ea_cons ev_c (ea_cons (eo_lstN (ss := [iS 0, iS 4]) (ea_consV ev_c (ea_consV ev_c ea_nilV)) (Nat.le_of_ble_eq_true rfl)).v (ea_cons (eo_lstN (ea_six rfl) (Nat.le_of_ble_eq_true rfl)).v (ea_cons (ev_v rfl) ea_nil)))) ⟨_, _, _, C.BadGoal, kG, rfl, ⟨kd_goal T, fun d hd S hS => ?_⟩, rfl⟩))) rfl fun σ F1 H1 s => ?_
  · have hb := six_bad (K := K) (hi := 3) (by decide) h0 S hS
    simp only [List.mem_cons, List.not_mem_nil, or_false] at hd
    rcases hd with rfl | rfl
    · exact ask_goal (d := 0) (.inl ⟨rfl, hb⟩)
    · exact ask_goal (d := 4) (.inr (.inr (.inr (.inr (.inl ⟨rfl, hb⟩)))))
  refine q_whenF (b := false) s (et_not (et_B (ev_call (R := R_all K C) (ea_cons ev_c (ea_cons (eo_lstN (ss := [iS 1, iS 2, iS 3]) (ea_consV ev_c (ea_consV ev_c (ea_consV ev_c ea_nilV))) (Nat.le_of_ble_eq_true rfl)).v (ea_cons (eo_lstN (ea_six rfl) (Nat.le_of_ble_eq_true rfl)).v (ea_cons (ev_v rfl) ea_nil)))) ⟨_, _, _, C.BadGoal, kG, rfl, ⟨kd_goal T, fun d hd S hS => ?_⟩, rfl⟩))) rfl fun σ F1 H1 s => ?_
  · have hb := six_bad (K := K) (hi := 240) (by decide) h0 S hS
    simp only [List.mem_cons, List.not_mem_nil, or_false] at hd
    rcases hd with rfl | rfl | rfl
    · exact ask_goal (d := 1) (.inr (.inl ⟨rfl, hb⟩))
    · exact ask_goal (d := 2) (.inr (.inr (.inl ⟨rfl, hb⟩)))
    · exact ask_goal (d := 3) (.inr (.inr (.inr (.inl ⟨rfl, hb⟩))))
  refine q_whenF (b := false) s (et_not (et_B (ev_call (R := R_all K C) (ea_cons ev_c (ea_cons (eo_lstN (ss := [iS 5]) (ea_consV ev_c ea_nilV) (Nat.le_of_ble_eq_true rfl)).v (ea_cons (eo_lstN (ea_six rfl) (Nat.le_of_ble_eq_true rfl)).v (ea_cons (ev_v rfl) ea_nil)))) ⟨_, _, _, C.BadGoal, kG, rfl, ⟨kd_goal T, fun d hd S hS => ?_⟩, rfl⟩))) rfl fun σ F1 H1 s => ?_
  · have hb := six_bad (K := K) (hi := 60) (by decide) h0 S hS
    simp only [List.mem_cons, List.not_mem_nil, or_false] at hd
    subst hd
    exact ask_goal (d := 5) (.inr (.inr (.inr (.inr (.inr (.inl ⟨rfl, hb⟩))))))
  refine q_whenF (b := false) s (et_not (et_B (ev_call (R := R_all K C) (ea_cons ev_c (ea_cons (eo_lstN (ss := [iS 6]) (ea_consV ev_c ea_nilV) (Nat.le_of_ble_eq_true rfl)).v (ea_cons (eo_lstN (ss := [nS, iS 0, stS [0, 0], sS "some 1"]) (ea_consV ev_c (ea_consV ev_c (ea_consV ev_pr (ea_consV ev_c ea_nilV)))) (Nat.le_of_ble_eq_true rfl)).v (ea_cons (ev_v rfl) ea_nil)))) ⟨_, _, _, C.BadGoal, kG, rfl, ⟨kd_goal T, fun d hd S hS => ?_⟩, rfl⟩))) rfl fun σ F1 H1 s => ?_
  · have hb := nonGl6 T S hS
    simp only [List.mem_cons, List.not_mem_nil, or_false] at hd
    subst hd
    exact ask_goal (d := 6) (.inr (.inr (.inr (.inr (.inr (.inr ⟨rfl, hb⟩))))))
  have ff1 := s.g.ff
  refine q_forLam (L := L_sum) (R := R_told K C) (ss := sumB) (j := 2) s True.intro tb nf hm (EvO.v (eo_lstN (ss := sumB) (ea_consV ev_c (ea_consV (eo_lstN (ss := []) ea_nilV (Nat.le_of_ble_eq_true rfl)).v (ea_consV ev_pr (ea_consV (eo_lstN (ss := [iS 1, iS 1]) (ea_consV ev_c (ea_consV ev_c ea_nilV)) (Nat.le_of_ble_eq_true rfl)).v (ea_consV (eo_lstN (ss := [iS 0, iS 1, iS 0]) (ea_consV ev_c (ea_consV ev_c (ea_consV ev_c ea_nilV))) (Nat.le_of_ble_eq_true rfl)).v (ea_consV ev_c ea_nilV)))))) (Nat.le_of_ble_eq_true rfl))) (by decide) (fun S => True.intro) (fun n S hS => ?_) fun S2 F2 H2 σ ff2 s tb nf => ?_
  · exact ⟨[.v S, .v (iS 0)], lstO (kG.map bS), _, ea_cons (ev_v rfl) (ea_cons ev_c ea_nil), ⟨_, S, iS 0, C.BadGoal, kG, rfl, ⟨.inr (.inr (.inr (.inr (.inr (.inr (.inr (.inl ⟨rfl, S, iS 0, rfl, sumB_bad S (List.mem_of_getElem? hS), rfl⟩))))))), kd_goal T⟩, rfl⟩, ev_v rfl, jv_neSame (dat_bl isR_b) (dat_bl isR_v)⟩
  dsimp only [List.set, J.putS, List.nil_append, List.cons_append] at s
  refine q_forLam (L := L_whole) (R := R_told K C) (ss := whoB) (j := 3) s True.intro tb nf hm (EvO.v (eo_lstN (ss := whoB) (ea_consV ev_c (ea_consV (eo_lstN (ss := [iS 0, iS 0]) (ea_consV ev_c (ea_consV ev_c ea_nilV)) (Nat.le_of_ble_eq_true rfl)).v (ea_consV ev_c (ea_consV (ev_tupN (ss := [iS 0, iS 0, iS 0, iS 0, iS 0]) (ea_consV ev_c (ea_consV ev_c (ea_consV ev_c (ea_consV ev_c (ea_consV ev_c ea_nilV))))) (Nat.le_of_ble_eq_true rfl)) (ea_consV ev_c (ea_consV (ev_tupN (ss := []) ea_nilV (Nat.le_of_ble_eq_true rfl)) ea_nilV)))))) (Nat.le_of_ble_eq_true rfl))) (by decide) (fun S => True.intro) (fun n S hS => ?_) fun S3 F3 H3 σ ff3 s tb nf => ?_
  · exact ⟨[.v S, .v (iS 0)], lstO (kG.map bS), _, ea_cons (ev_v rfl) (ea_cons ev_c ea_nil), ⟨_, S, iS 0, C.BadGoal, kG, rfl, ⟨.inr (.inr (.inr (.inr (.inr (.inr (.inr (.inr ⟨rfl, S, iS 0, rfl, whoB_bad S (List.mem_of_getElem? hS), rfl⟩))))))), kd_goal T⟩, rfl⟩, ev_v rfl, jv_neSame (dat_bl isR_b) (dat_bl isR_v)⟩
  dsimp only [List.set, J.putS, List.nil_append, List.cons_append] at s
  refine q_ret s (ev_call (R := R_all K C) (ea_cons ev_c (ea_cons (eo_lstN (ss := [iS 0, iS 1]) (ea_consV ev_c (ea_consV ev_c ea_nilV)) (Nat.le_of_ble_eq_true rfl)).v (ea_cons (eo_listRg (n := 7) ev_c rfl (by decide)).v (ea_cons (ev_v rfl) ea_nil)))) ⟨_, _, _, C.BadGoal, kG, rfl, ⟨kd_goal T, fun d hd S hS => ?_⟩, rfl⟩) fun v F' H' g hv => ?_
  · obtain ⟨w, hw, rfl⟩ := List.mem_map.mp hS
    have hw := List.mem_range.mp hw
    simp only [List.mem_cons, List.not_mem_nil, or_false] at hd
    rcases hd with rfl | rfl
    · exact .inr (.inr (.inr (.inr (.inr (.inl ⟨rfl, 0, w, rfl, ⟨by decide, hw⟩, rfl⟩)))))
    · exact .inr (.inr (.inr (.inr (.inr (.inl ⟨rfl, 1, w, rfl, ⟨by decide, hw⟩, rfl⟩)))))
  · cases hv
    exact k F' H' (((ff1.trans ff2).trans ff3).trans g.ff) g.fh (g.tt s.tt)

end
end Jug


namespace Jug
open PySem PySem.Spec L2 PyProof.Rows J
section
variable {P : Program} {w : World} {K : PySem.W.Frag} {mg : Str → Option Value} {base : Heap} {C : Cs}
open LamX
def R_cell (K : PySem.W.Frag) : Rel := fun es r => ∃ (ns : List Int) (k : Int), es = [.v (scrS K ns), .v (iS k)] ∧ 0 ≤ k ∧ r = .v (iS (cell ns k))
/-! ### _law_cell_at: slots 0:_law_script 1:_law_k -/
abbrev s__law_cell_at : Stmt := top 46
theorem sc__law_cell_at : FnScope ["_law_script", "_law_k"] ["_law_script", "_law_k"] (defScope s__law_cell_at) := ⟨rfl, rfl, rfl, by decide +kernel, rfl, by decide +kernel, by decide +kernel⟩
theorem ok__law_cell_at (T : Top K mg C) : CalX P w K mg base 1 "_law_cell_at" (SpOf (R_cell K)) := by
  obtain ⟨f, fd, F, hm, hb⟩ := T.d__law_cell_at.ex
  refine ⟨f, fd, _, fn_ok F sc__law_cell_at (by walk_at "len") (fun cdv A outer s H E hr => ⟨_, (pss_cons (ps_if (pt_cmpR op_lt (pv 1) (pe_callB (kc_len (K := K) rfl) (by rfl) T.n_len bt_len (pa_cons (pv 0) pa_nil)) (nomark _)) (pss_cons (ps_ret (ke_ix (K := K) rfl hr (pv 0) (pv 1) (fun _ _ => rfl) (fun _ _ => rfl))) pss_nil) pss_nil) (pss_cons (ps_ret pe_int) pss_nil)), ?_⟩), hm, F.kp, hb⟩

  rintro es r F σ Q ⟨ns, k, rfl, hk, rfl⟩ s kq
  simp only [J.cx_K, List.length_cons, List.length_nil, List.cons_append, List.nil_append, Nat.reduceAdd, Nat.reduceSub, List.reduceReplicate, List.append_nil] at s ⊢
  refine q_when s (et_B (ev_op (ev_v rfl) (ev_cb (by walk_at "args") cb_lenScr) op_I0)) (fun hb σ F H s => ?_) (fun hb σ F H s => ?_)
  · have hb := of_decide_eq_true hb
    exact q_ret s (ev_ix (ev_v rfl) (ev_v rfl) (jx_scr hk hb)) kq
  · have hb := of_decide_eq_false hb
    refine q_ret s (EvE.to ev_c ?_) kq
    unfold cell
    rw [List.getD_eq_getElem?_getD, List.getElem?_eq_none (by omega)]
    rfl
def primesL : List Int := [1000003, 1000033, 1000037, 1000039, 1000081, 1000099, 1000117, 1000121, 1000133, 1000151, 1000159, 1000171, 1000183, 1000187, 1000193, 1000199]

/-! ### the law -/
section
variable {lo hi n m far : Int}
abbrev kH : List Bool := [true, false, false, false, false, true]
abbrev kS' : List Bool := [false, true, false, false, false, true]
abbrev kM : List Bool := [false, false, true, false, false, true]
def dueL (m : Nat) : List Bool := [decide ((m : Int) = 0), decide ((m : Int) = 1), decide ((m : Int) = 2), decide ((m : Int) = 3), false, true]
def dueSl (m : Nat) : Slot := dueS (dueL m)
theorem ev_due {δ : List Ent} {i : Nat} (h : δ[i]? = some (.v (lstS ((List.range 4).map dueSl)))) {j : Nat} (hj : j < 4) {S : Slot} (e : dueSl j = S) : EvE (tIx K (tVar i) (tC (.int (j : Int)))) δ (.v S) :=
  EvE.to (ev_ix (ev_v h) ev_c (jv_ixl (n := j) isR_v (by rw [List.getElem?_map, List.getElem?_range hj]; rfl))) (congrArg Ent.v e)
def szs (far : Int) : List Slot := [nS, lstS [], stS [3, 5], sS "35", intsS [0], intsS [61], intsS [61 + far], intsS [-1 - far], lstS [bS true], lstS [sS "3"], lstS [nS], intsS [1, 1, 1, 1, 1]]
def szs2 : List Slot := [intsS [60, 60], intsS [44, 44], intsS [60, 32], intsS [2, 22, 28]]
theorem one_badH {S : Slot} (h : W8 K S 1 60 false) : badHouse K (lstS [S]) (bS true) := .inr (.inr (.inr (.inl ⟨S, true, rfl, rfl, h⟩)))
theorem szs_bad (h0 : 0 ≤ far) : ∀ S ∈ szs far ++ szs2, badHouse K S (bS true) := by
  intro S hS
  simp only [szs, szs2, List.cons_append, List.nil_append, List.mem_cons, List.not_mem_nil, or_false] at hS
  rcases hS with rfl | rfl | rfl | rfl | rfl | rfl | rfl | rfl | rfl | rfl | rfl | rfl | rfl | rfl | rfl | rfl
  · exact .inl ⟨_, ty_non, kt_Nl⟩
  · exact .inr (.inl ⟨[], rfl, by decide⟩)
  · exact .inl ⟨_, ty_tup isR_v, kt_tl⟩
  · exact .inl ⟨_, ty_str, kt_sl⟩
  · exact one_badH (w8_lo (by decide))
  · exact one_badH (w8_hi (by decide))
  · exact one_badH (w8_hi (by omega))
  · exact one_badH (w8_lo (by omega))
  · exact one_badH w8_bl
  · exact one_badH w8_s
  · exact one_badH w8_N
  · exact .inr (.inl ⟨_, rfl, by decide⟩)
  · exact .inr (.inr (.inr (.inr ⟨_, true, rfl, rfl, by decide, by decide, by decide⟩)))
  · exact .inr (.inr (.inr (.inr ⟨_, true, rfl, rfl, by decide, by decide, by decide⟩)))
  · exact .inr (.inr (.inr (.inr ⟨_, true, rfl, rfl, by decide, by decide, by decide⟩)))
  · exact .inr (.inr (.inr (.inr ⟨_, true, rfl, rfl, by decide, by decide, by decide⟩)))
def taps : List Slot := [iS 0, iS 1, nS, sS "tap", lstS [bS true]]
theorem taps_bad : ∀ S ∈ taps, badHouse K (intsS [3]) S := by
  intro S hS
  simp only [taps, List.mem_cons, List.not_mem_nil, or_false] at hS
  rcases hS with rfl | rfl | rfl | rfl | rfl
  · exact .inr (.inr (.inl ⟨_, _, rfl, by decide, ty_int, kt_ib⟩))
  · exact .inr (.inr (.inl ⟨_, _, rfl, by decide, ty_int, kt_ib⟩))
  · exact .inr (.inr (.inl ⟨_, _, rfl, by decide, ty_non, kt_Nb⟩))
  · exact .inr (.inr (.inl ⟨_, _, rfl, by decide, ty_str, kt_sb⟩))
  · exact .inr (.inr (.inl ⟨_, _, rfl, by decide, ty_lst isR_v, kt_lb⟩))
def sts (far : Int) : List Slot := [nS, stS [], intsS [0, 0], stS [0], stS [0, 0, 0], stS [4, 0], stS [0, 6], stS [0, -1 - far], stS [6 + far, 0], tupS [bS true, iS 0], sS "00"]
def sts2 : List Slot := [tupS [sS "0", iS 0], tupS [iS 0, nS]]
theorem bs0 {S U : Slot} (h : W8 K S 0 3 false) : badSt K [3, 5] (tupS [S, U]) := .inr (.inr ⟨[S, U], 0, rfl, rfl, by decide, ⟨S, rfl, h⟩, fun m hm => by omega⟩)
theorem bs1 {S U : Slot} (h1 : W8 K S 0 3 true) (h : W8 K U 0 5 false) : badSt K [3, 5] (tupS [S, U]) := .inr (.inr ⟨[S, U], 1, rfl, rfl, by decide, ⟨U, rfl, h⟩, fun m hm => by
  have : m = 0 := by omega
  subst this
  exact ⟨S, rfl, h1⟩⟩)
theorem sts_bad (h0 : 0 ≤ far) : ∀ S ∈ sts far ++ sts2, badSt K [3, 5] S := by
  intro S hS
  simp only [sts, sts2, List.cons_append, List.nil_append, List.mem_cons, List.not_mem_nil, or_false] at hS
  rcases hS with rfl | rfl | rfl | rfl | rfl | rfl | rfl | rfl | rfl | rfl | rfl | rfl | rfl
  · exact .inl ⟨_, ty_non, kt_Nt⟩
  · exact .inr (.inl ⟨_, rfl, by decide⟩)
  · exact .inl ⟨_, ty_lst isR_v, kt_lt⟩
  · exact .inr (.inl ⟨_, rfl, by decide⟩)
  · exact .inr (.inl ⟨_, rfl, by decide⟩)
  · exact bs0 (w8_hi (by decide))
  · exact bs1 (w8_of (by decide)) (w8_hi (by decide))
  · exact bs1 (w8_of (by decide)) (w8_lo (by omega))
  · exact bs0 (w8_hi (by omega))
  · exact bs0 w8_bl
  · exact .inl ⟨_, ty_str, kt_st⟩
  · exact bs0 w8_s
  · exact bs1 (w8_of (by decide)) w8_N
def bmv (far : Int) : List Slot := six 4 far ++ [intsS [0]]
theorem bmv_bad (T : Top K mg C) (h0 : 0 ≤ far) : ∀ S ∈ bmv far, badMvS K C S := by
  intro S hS
  simp only [bmv, six, List.cons_append, List.nil_append, List.mem_cons, List.not_mem_nil, or_false] at hS
  rcases hS with rfl | rfl | rfl | rfl | rfl | rfl | rfl
  · exact ⟨w8_hi (by decide), ⟨_, ty_int, T.isb_int_Move⟩, .inl nl_i⟩
  · exact ⟨w8_hi (by omega), ⟨_, ty_int, T.isb_int_Move⟩, .inl nl_i⟩
  · exact ⟨w8_lo (by omega), ⟨_, ty_int, T.isb_int_Move⟩, .inl nl_i⟩
  · exact ⟨w8_bl, ⟨_, ty_bl, T.isb_bool_Move⟩, .inl nl_b⟩
  · exact ⟨w8_N, ⟨_, ty_non, T.isb_NoneType_Move⟩, .inl nl_N⟩
  · exact ⟨w8_s, ⟨_, ty_str, T.isb_str_Move⟩, .inl nl_s⟩
  · exact ⟨w8_l, ⟨_, ty_lst isR_v, T.isb_list_Move⟩, .inr ⟨[], iS 0, rfl, ⟨_, ty_int, T.isb_int_Move⟩⟩⟩
def rtB (C : Cs) : List Slot := [nS, stS [], sS "fill 0", tupS [moveS C (.fill 0)], iS 5]
theorem rtB_bad : ∀ S ∈ rtB C, badMoves K C S := by
  intro S hS
  simp only [rtB, List.mem_cons, List.not_mem_nil, or_false] at hS
  rcases hS with rfl | rfl | rfl | rfl | rfl
  · exact .inl nl_N
  · exact .inl nl_t
  · exact .inl nl_s
  · exact .inl nl_t
  · exact .inl nl_i
end
def SpL (K : PySem.W.Frag) (Ts : List (Addr × Str)) : Sp := fun vs H Q _ => ∃ (F : Hp) (ns : List Int), (Same F H ∧ TupIn F H) ∧ Tabs Ts H ∧ (∀ p ∈ Ts, F p.1 = none) ∧ PairS F vs [scrS K ns] ∧ ∀ H', Q (.bl true) H'
theorem len_law {K : PySem.W.Frag} {Ts : List (Addr × Str)} : ∀ vs H Q E, SpL K Ts vs H Q E → vs.length = ["_law_script"].length := fun vs H Q E ⟨F, far, _, _, _, h, _⟩ => h.length
theorem ev_l1 {te : TE} {δ : List Ent} {S : Slot} (h : EvE te δ (.v S)) : EvE (tLst (tCons te tNil)) δ (.v (lstS [S])) := (eo_lstN (ss := [S]) (ea_consV h ea_nilV) (Nat.le_of_ble_eq_true rfl)).v
theorem ev_l2 {te tf : TE} {δ : List Ent} {S U : Slot} (h : EvE te δ (.v S)) (h2 : EvE tf δ (.v U)) : EvE (tLst (tCons te (tCons tf tNil))) δ (.v (lstS [S, U])) := (eo_lstN (ss := [S, U]) (ea_consV h (ea_consV h2 ea_nilV)) (Nat.le_of_ble_eq_true rfl)).v
theorem ev_p1 {te : TE} {δ : List Ent} {S : Slot} (h : EvE te δ (.v S)) : EvE (tTup (tCons te tNil)) δ (.v (tupS [S])) := ev_tupN (ss := [S]) (ea_consV h ea_nilV) (Nat.le_of_ble_eq_true rfl)
theorem ev_p2 {te tf : TE} {δ : List Ent} {S U : Slot} (h : EvE te δ (.v S)) (h2 : EvE tf δ (.v U)) : EvE (tTup (tCons te (tCons tf tNil))) δ (.v (tupS [S, U])) := ev_tupN (ss := [S, U]) (ea_consV h (ea_consV h2 ea_nilV)) (Nat.le_of_ble_eq_true rfl)
theorem ev_p3 {te tf tg : TE} {δ : List Ent} {S U V' : Slot} (h : EvE te δ (.v S)) (h2 : EvE tf δ (.v U)) (h3 : EvE tg δ (.v V')) : EvE (tTup (tCons te (tCons tf (tCons tg tNil)))) δ (.v (tupS [S, U, V'])) := ev_tupN (ss := [S, U, V']) (ea_consV h (ea_consV h2 (ea_consV h3 ea_nilV))) (Nat.le_of_ble_eq_true rfl)
theorem ev_p0 {δ : List Ent} : EvE (tTup tNil) δ (.v (tupS [])) := ev_tupN (ss := []) ea_nilV (Nat.le_of_ble_eq_true rfl)
theorem ev_l0 {δ : List Ent} : EvE (tLst tNil) δ (.v (lstS [])) := (eo_lstN (ss := []) ea_nilV (Nat.le_of_ble_eq_true rfl)).v
/-! ### law: slots 0:_law_script 1:_law_far 2:_law_due 3:_law_k 4:_law_sizes 5:_law_states 6:_law_bad 7:_law_thing -/
abbrev s_law : Stmt := top 58
theorem sc_law : FnScope ["_law_script", "_law_far", "_law_due", "_law_k", "_law_sizes", "_law_states", "_law_bad", "_law_thing"] ["_law_script"] (defScope s_law) := ⟨rfl, rfl, rfl, by decide +kernel, rfl, by decide +kernel, by decide +kernel⟩
theorem ok_law_at (T : Top K mg C) {f c Pt : Addr} {fd : FuncData} {Ts : List (Addr × Str)} (F : Fun K "law" "law" s_law f fd) (hc : fd.code = .ref c) (TB : TabB base mg c Pt) (hm : (Pt, q_law) ∈ Ts) (hu : ∀ p ∈ Ts, p.1 = Pt → p.2 = q_law) (okGR : CalX P w K mg base 12 "_law_goals_right" (SpG Ts)) : FnOk P w K mg base (CXJ P w) 13 f fd ["_law_script"] (SpL K Ts) := by
  refine okAnyC F hc sc_law (len_law) (fun A outer s H vs Q E hr hsp => ⟨_, (pss_cons (ps_set (i := 1) sc_law.nd rfl (Or.inl rfl) (pe_op op_mod (pe_cX (ok__law_cell_at T) hr (by decide) px_of (by rfl) (pa_cons (pv 0) (pa_cons pe_int pa_nil))) (pe_op op_pow pe_int pe_int))) (pss_cons (ps_set (i := 2) sc_law.nd rfl (Or.inl rfl) (pe_lst pa_nil)) (pss_cons (ps_for (passes_of rfl) rfl (pi_range1 (by rfl) T.n_range (pa_cons pe_int pa_nil)) (pg_name (i := 3) sc_law.nd rfl (Or.inl rfl)) (pss_cons (ps_expr (pe_bm PySem.F.plainAttrs_list PySem.F.slot_list_append PySem.F.type_list_append mt_append (pv 2) (pa_cons (pe_lst (pa_cons (pe_cmpR (ko_eq (K := K) rfl hr) (pv 3) pe_int (nomark _)) (pa_cons (pe_cmpR (ko_eq (K := K) rfl hr) (pv 3) pe_int (nomark _)) (pa_cons (pe_cmpR (ko_eq (K := K) rfl hr) (pv 3) pe_int (nomark _)) (pa_cons (pe_cmpR (ko_eq (K := K) rfl hr) (pv 3) pe_int (nomark _)) (pa_cons pe_bl (pa_cons pe_bl pa_nil))))))) pa_nil))) pss_nil)) (pss_cons (ps_set (i := 4) sc_law.nd rfl (Or.inl rfl) (pe_lst (pa_cons pe_non (pa_cons (pe_lst pa_nil) (pa_cons (pe_tup (pa_cons pe_int (pa_cons pe_int pa_nil))) (pa_cons pe_str (pa_cons (pe_lst (pa_cons pe_int pa_nil)) (pa_cons (pe_lst (pa_cons pe_int pa_nil)) (pa_cons (pe_lst (pa_cons (pe_op (ko_add (K := K) rfl) pe_int (pv 1)) pa_nil)) (pa_cons (pe_lst (pa_cons (pe_op op_sub (pe_un un_neg pe_int) (pv 1)) pa_nil)) (pa_cons (pe_lst (pa_cons pe_bl pa_nil)) (pa_cons (pe_lst (pa_cons pe_str pa_nil)) (pa_cons (pe_lst (pa_cons pe_non pa_nil)) (pa_cons (pe_lst (pa_cons pe_int (pa_cons pe_int (pa_cons pe_int (pa_cons pe_int (pa_cons pe_int pa_nil)))))) pa_nil)))))))))))))) (pss_cons (ps_if (pt_not (pt_val (pe_cX (ok__law_all T) hr (by decide) px_of (by rfl) (pa_cons (C8.pe_gc (by rfl) T.v__law_house) (pa_cons (pe_lst (pa_cons pe_int pa_nil)) (pa_cons (pe_op (ko_add (K := K) rfl) (pv 4) (pe_lst (pa_cons (pe_lst (pa_cons pe_int (pa_cons pe_int pa_nil))) (pa_cons (pe_lst (pa_cons pe_int (pa_cons pe_int pa_nil))) (pa_cons (pe_lst (pa_cons pe_int (pa_cons pe_int pa_nil))) (pa_cons (pe_lst (pa_cons pe_int (pa_cons pe_int (pa_cons pe_int pa_nil)))) pa_nil)))))) (pa_cons (ke_ix (K := K) rfl hr (pv 2) pe_int (fun _ _ => rfl) (fun _ _ => rfl)) pa_nil))))))) (pss_cons (ps_ret pe_bl) pss_nil) pss_nil) (pss_cons (ps_if (pt_not (pt_val (pe_cX (ok__law_all T) hr (by decide) px_of (by rfl) (pa_cons (C8.pe_gc (by rfl) T.v__law_house) (pa_cons (pe_lst (pa_cons pe_int pa_nil)) (pa_cons (pe_lst (pa_cons pe_int (pa_cons pe_int (pa_cons pe_non (pa_cons pe_str (pa_cons (pe_lst (pa_cons pe_bl pa_nil)) pa_nil)))))) (pa_cons (ke_ix (K := K) rfl hr (pv 2) pe_int (fun _ _ => rfl) (fun _ _ => rfl)) pa_nil))))))) (pss_cons (ps_ret pe_bl) pss_nil) pss_nil) (pss_cons (ps_set (i := 5) sc_law.nd rfl (Or.inl rfl) (pe_lst (pa_cons pe_non (pa_cons (pe_tup pa_nil) (pa_cons (pe_lst (pa_cons pe_int (pa_cons pe_int pa_nil))) (pa_cons (pe_tup (pa_cons pe_int pa_nil)) (pa_cons (pe_tup (pa_cons pe_int (pa_cons pe_int (pa_cons pe_int pa_nil)))) (pa_cons (pe_tup (pa_cons pe_int (pa_cons pe_int pa_nil))) (pa_cons (pe_tup (pa_cons pe_int (pa_cons pe_int pa_nil))) (pa_cons (pe_tup (pa_cons pe_int (pa_cons (pe_op op_sub (pe_un un_neg pe_int) (pv 1)) pa_nil))) (pa_cons (pe_tup (pa_cons (pe_op (ko_add (K := K) rfl) pe_int (pv 1)) (pa_cons pe_int pa_nil))) (pa_cons (pe_tup (pa_cons pe_bl (pa_cons pe_int pa_nil))) (pa_cons pe_str pa_nil))))))))))))) (pss_cons (ps_if (pt_not (pt_val (pe_cX (ok__law_all T) hr (by decide) px_of (by rfl) (pa_cons (C8.pe_gc (by rfl) T.v__law_with_state) (pa_cons (pe_listRg rfl (by rfl) T.n_list (prg_1 (by rfl) T.n_range pe_int)) (pa_cons (pe_op (ko_add (K := K) rfl) (pv 5) (pe_lst (pa_cons (pe_tup (pa_cons pe_str (pa_cons pe_int pa_nil))) (pa_cons (pe_tup (pa_cons pe_int (pa_cons pe_non pa_nil))) pa_nil)))) (pa_cons (ke_ix (K := K) rfl hr (pv 2) pe_int (fun _ _ => rfl) (fun _ _ => rfl)) pa_nil))))))) (pss_cons (ps_ret pe_bl) pss_nil) pss_nil) (pss_cons (ps_set (i := 6) sc_law.nd rfl (Or.inl rfl) (pe_lst (pa_cons pe_int (pa_cons (pe_op (ko_add (K := K) rfl) pe_int (pv 1)) (pa_cons (pe_op op_sub (pe_un un_neg pe_int) (pv 1)) (pa_cons pe_bl (pa_cons pe_non (pa_cons pe_str (pa_cons (pe_lst (pa_cons pe_int pa_nil)) pa_nil))))))))) (pss_cons (ps_if (pt_not (pt_val (pe_cX (ok__law_all T) hr (by decide) px_of (by rfl) (pa_cons (C8.pe_gc (by rfl) T.v__law_with_move) (pa_cons (pe_listRg rfl (by rfl) T.n_list (prg_1 (by rfl) T.n_range pe_int)) (pa_cons (pv 6) (pa_cons (ke_ix (K := K) rfl hr (pv 2) pe_int (fun _ _ => rfl) (fun _ _ => rfl)) pa_nil))))))) (pss_cons (ps_ret pe_bl) pss_nil) pss_nil) (pss_cons (ps_if (PW.pt (pw_or (pt_cmpR (ko_ne (K := K) rfl hr) (pe_cX (ok__law_told T) hr (by decide) px_of (by rfl) (pa_cons (C8.pe_gc (by rfl) T.v__law_with_move) (pa_cons pe_int (pa_cons pe_int pa_nil)))) (ke_ix (K := K) rfl hr (pv 2) pe_int (fun _ _ => rfl) (fun _ _ => rfl)) (nomark _)) (pw_or1 (pt_cmpR (ko_ne (K := K) rfl hr) (pe_cX (ok__law_told T) hr (by decide) px_of (by rfl) (pa_cons (C8.pe_gc (by rfl) T.v__law_with_move) (pa_cons pe_int (pa_cons pe_int pa_nil)))) (ke_ix (K := K) rfl hr (pv 2) pe_int (fun _ _ => rfl) (fun _ _ => rfl)) (nomark _))))) (pss_cons (ps_ret pe_bl) pss_nil) pss_nil) (pss_cons (ps_for (passes_of rfl) rfl (ki_any (K := K) rfl (pe_lst (pa_cons pe_non (pa_cons (pe_tup pa_nil) (pa_cons pe_str (pa_cons (pe_tup (pa_cons (pe_mkX (ok_Fill___init__ T) hr (by decide) px_of (by rfl) (pa_cons pe_int pa_nil)) pa_nil)) (pa_cons pe_int pa_nil))))))) (pg_name (i := 7) sc_law.nd rfl (Or.inl rfl)) (pss_cons (ps_if (pt_cmpR (ko_ne (K := K) rfl hr) (pe_cX (ok__law_told T) hr (by decide) px_of (by rfl) (pa_cons (pe_lamJ (q := q_law) TB rfl rfl hm hu rfl rfl rfl) (pa_cons (pv 7) (pa_cons pe_int pa_nil)))) (ke_ix (K := K) rfl hr (pv 2) pe_int (fun _ _ => rfl) (fun _ _ => rfl)) (nomark _)) (pss_cons (ps_ret pe_bl) pss_nil) pss_nil) pss_nil)) (pss_cons (ps_if (pt_not (pt_val (pe_cX (ok__law_all T) hr (by decide) px_of (by rfl) (pa_cons (C8.pe_gc (by rfl) T.v__law_unfit) (pa_cons (pe_lst (pa_cons pe_int (pa_cons pe_int pa_nil))) (pa_cons (pe_listRg rfl (by rfl) T.n_list (prg_1 (by rfl) T.n_range pe_int)) (pa_cons (ke_ix (K := K) rfl hr (pv 2) pe_int (fun _ _ => rfl) (fun _ _ => rfl)) pa_nil))))))) (pss_cons (ps_ret pe_bl) pss_nil) pss_nil) (pss_cons (ps_ret (pe_and (pe_cX okGR hr (by decide) px_of (by rfl) (pa_cons (pv 1) (pa_cons (ke_ix (K := K) rfl hr (pv 2) pe_int (fun _ _ => rfl) (fun _ _ => rfl)) pa_nil))) (pe_one (pe_cX0 (ok__law_good T) hr (by decide) px_of (by rfl))))) pss_nil)))))))))))))), ?_⟩)

  obtain ⟨F, ns, ⟨sm, tt⟩, tb, nf, hv, k⟩ := hsp
  have s := start_v (N := ["_law_script", "_law_far", "_law_due", "_law_k", "_law_sizes", "_law_states", "_law_bad", "_law_thing"]) sm tt hv
  simp only [J.cx_K, List.map_cons, List.map_nil, List.length_cons, List.length_nil, List.cons_append, List.nil_append, Nat.reduceAdd, Nat.reduceSub, List.reduceReplicate, List.append_nil] at s ⊢
  refine q_set s (ev_op (ev_call (R := R_cell K) (ea_cons (ev_v rfl) (ea_cons ev_c ea_nil)) ⟨ns, 0, rfl, by decide, rfl⟩) (ev_op ev_c ev_c (op_I ⟨by decide, by decide, by decide⟩)) (op_I (by decide))) fun σ F1 H1 s => ?_
  have h0 : 0 ≤ cell ns 0 % (10 : Int) ^ (6 : Int).toNat := Int.emod_nonneg _ (by decide)
  generalize cell ns 0 % (10 : Int) ^ (6 : Int).toNat = far at s h0
  dsimp only [List.set, J.putS, List.nil_append, List.cons_append] at s
  refine q_setO s (o := lstO []) (eo_lstN (ss := []) ea_nilV (Nat.le_of_ble_eq_true rfl)) fun σ F1 H1 s => ?_
  dsimp only [List.set, J.putS, List.nil_append, List.cons_append] at s
  refine q_forR (n := 4) s (ea_cons ev_c ea_nil) rfl (by decide) (fun n d => ∃ e, (n ≠ 0 → ∃ S, e = .v S) ∧ d = [.v (scrS K ns), .v (iS far), .ow (lstO ((List.range n).map dueSl)), e, .un, .un, .un, .un]) ⟨.un, (fun h => absurd rfl h), rfl⟩ ?_ ?_
  · rintro m δ' σ F1 H1 hm ⟨e, _, rfl⟩ s
    dsimp only [List.set, J.putS, List.nil_append, List.cons_append] at s
    refine q_app s rfl (S := dueSl m) (eo_lstN (ss := (dueL m).map bS) (ea_consV (ev_op (ev_v rfl) ev_c jv_eqi) (ea_consV (ev_op (ev_v rfl) ev_c jv_eqi) (ea_consV (ev_op (ev_v rfl) ev_c jv_eqi) (ea_consV (ev_op (ev_v rfl) ev_c jv_eqi) (ea_consV ev_c (ea_consV ev_c ea_nilV)))))) (Nat.le_of_ble_eq_true rfl)).v (by rw [List.length_map, List.length_range]; omega) fun σ F1 H1 s => ?_
    dsimp only [List.set, J.putS, List.nil_append, List.cons_append] at s
    exact q_nx s ⟨_, fun _ => ⟨_, rfl⟩, by rw [List.range_succ, List.map_append]; rfl⟩
  rintro δ' σ F1 H1 ⟨e, he, rfl⟩ s
  obtain ⟨Sk, rfl⟩ := he (by decide)
  refine q_freeze s 2 rfl fun F1 s => ?_
  dsimp only [List.set, J.putS, List.nil_append, List.cons_append] at s
  refine q_setO s (o := lstO (szs far)) (eo_lstN (ss := szs far) (ea_consV ev_c (ea_consV ev_l0 (ea_consV (ev_p2 ev_c ev_c) (ea_consV ev_c (ea_consV (ev_l1 ev_c) (ea_consV (ev_l1 ev_c) (ea_consV (ev_l1 (ev_op ev_c (ev_v rfl) jv_add)) (ea_consV (ev_l1 (ev_op (ev_un ev_c un_I) (ev_v rfl) op_I0)) (ea_consV (ev_l1 ev_c) (ea_consV (ev_l1 ev_c) (ea_consV (ev_l1 ev_c) (ea_consV (eo_lstN (ss := [iS 1, iS 1, iS 1, iS 1, iS 1]) (ea_consV ev_c (ea_consV ev_c (ea_consV ev_c (ea_consV ev_c (ea_consV ev_c ea_nilV))))) (Nat.le_of_ble_eq_true rfl)).v ea_nilV)))))))))))) (Nat.le_of_ble_eq_true rfl)) fun σ F1 H1 s => ?_
  dsimp only [List.set, J.putS, List.nil_append, List.cons_append] at s
  refine q_freeze s 4 rfl fun F1 s => ?_
  dsimp only [List.set, J.putS, List.nil_append, List.cons_append] at s
  refine q_whenF (b := false) s (et_not (et_B (ev_call (R := R_all K C) (ea_cons ev_c (ea_cons (ev_l1 ev_c) (ea_cons (eo_op (ev_v rfl) (EvO.b (eo_lstN (ss := szs2) (ea_consV (ev_l2 ev_c ev_c) (ea_consV (ev_l2 ev_c ev_c) (ea_consV (ev_l2 ev_c ev_c) (ea_consV (eo_lstN (ss := [iS 2, iS 22, iS 28]) (ea_consV ev_c (ea_consV ev_c (ea_consV ev_c ea_nilV))) (Nat.le_of_ble_eq_true rfl)).v ea_nilV)))) (Nat.le_of_ble_eq_true rfl))) (jo_addl (ss := szs far) (ts := szs2) isR_v isR_b (Nat.le_of_ble_eq_true rfl))).v (ea_cons (ev_due (j := 0) (S := dueS kH) rfl (by decide) rfl) ea_nil)))) ⟨_, _, _, C.BadHouse, kH, rfl, ⟨kd_house T, fun d hd S hS => ?_⟩, rfl⟩))) rfl fun σ F1 H1 s => ?_
  · have hb := szs_bad (K := K) h0 S hS
    simp only [List.mem_cons, List.not_mem_nil, or_false] at hd
    subst hd
    exact .inl ⟨rfl, 0, S, rfl, .inl ⟨rfl, hb⟩, rfl⟩
  refine q_whenF (b := false) s (et_not (et_B (ev_call (R := R_all K C) (ea_cons ev_c (ea_cons (ev_l1 ev_c) (ea_cons (eo_lstN (ss := taps) (ea_consV ev_c (ea_consV ev_c (ea_consV ev_c (ea_consV ev_c (ea_consV (ev_l1 ev_c) ea_nilV))))) (Nat.le_of_ble_eq_true rfl)).v (ea_cons (ev_due (j := 0) (S := dueS kH) rfl (by decide) rfl) ea_nil)))) ⟨_, _, _, C.BadHouse, kH, rfl, ⟨kd_house T, fun d hd S hS => ?_⟩, rfl⟩))) rfl fun σ F1 H1 s => ?_
  · have hb := taps_bad (K := K) S hS
    simp only [List.mem_cons, List.not_mem_nil, or_false] at hd
    subst hd
    exact .inl ⟨rfl, 1, S, rfl, .inr ⟨rfl, hb⟩, rfl⟩
  refine q_setO s (o := lstO (sts far)) (eo_lstN (ss := sts far) (ea_consV ev_c (ea_consV ev_p0 (ea_consV (ev_l2 ev_c ev_c) (ea_consV (ev_p1 ev_c) (ea_consV (ev_p3 ev_c ev_c ev_c) (ea_consV (ev_p2 ev_c ev_c) (ea_consV (ev_p2 ev_c ev_c) (ea_consV (ev_p2 ev_c (ev_op (ev_un ev_c un_I) (ev_v rfl) op_I0)) (ea_consV (ev_p2 (ev_op ev_c (ev_v rfl) jv_add) ev_c) (ea_consV (ev_p2 ev_c ev_c) (ea_consV ev_c ea_nilV))))))))))) (Nat.le_of_ble_eq_true rfl)) fun σ F1 H1 s => ?_
  dsimp only [List.set, J.putS, List.nil_append, List.cons_append] at s
  refine q_freeze s 5 rfl fun F1 s => ?_
  dsimp only [List.set, J.putS, List.nil_append, List.cons_append] at s
  refine q_whenF (b := false) s (et_not (et_B (ev_call (R := R_all K C) (ea_cons ev_c (ea_cons (eo_listRg (n := 9) ev_c rfl (by decide)).v (ea_cons (eo_op (ev_v rfl) (EvO.b (eo_lstN (ss := sts2) (ea_consV (ev_p2 ev_c ev_c) (ea_consV (ev_p2 ev_c ev_c) ea_nilV)) (Nat.le_of_ble_eq_true rfl))) (jo_addl (ss := sts far) (ts := sts2) isR_v isR_b (Nat.le_of_ble_eq_true rfl))).v (ea_cons (ev_due (j := 1) (S := dueS kS') rfl (by decide) rfl) ea_nil)))) ⟨_, _, _, C.BadState, kS', rfl, ⟨kd_state T, fun d hd S hS => ?_⟩, rfl⟩))) rfl fun σ F1 H1 s => ?_
  · have hb := sts_bad (K := K) h0 S hS
    obtain ⟨w, hw, rfl⟩ := List.mem_map.mp hd
    have hw := List.mem_range.mp hw
    exact .inr (.inl ⟨rfl, w, S, rfl, ⟨by omega, hb⟩, rfl⟩)
  refine q_setO s (o := lstO (bmv far)) (eo_lstN (ss := bmv far) (ea_consV ev_c (ea_consV (ev_op ev_c (ev_v rfl) jv_add) (ea_consV (ev_op (ev_un ev_c un_I) (ev_v rfl) op_I0) (ea_consV ev_c (ea_consV ev_c (ea_consV ev_c (ea_consV (ev_l1 ev_c) ea_nilV))))))) (Nat.le_of_ble_eq_true rfl)) fun σ F1 H1 s => ?_
  dsimp only [List.set, J.putS, List.nil_append, List.cons_append] at s
  refine q_freeze s 6 rfl fun F1 s => ?_
  dsimp only [List.set, J.putS, List.nil_append, List.cons_append] at s
  refine q_whenF (b := false) s (et_not (et_B (ev_call (R := R_all K C) (ea_cons ev_c (ea_cons (eo_listRg (n := 7) ev_c rfl (by decide)).v (ea_cons (ev_v rfl) (ea_cons (ev_due (j := 2) (S := dueS kM) rfl (by decide) rfl) ea_nil)))) ⟨_, _, bmv far, C.BadMove, kM, rfl, ⟨kd_move T, fun d hd S hS => ?_⟩, rfl⟩))) rfl fun σ F1 H1 s => ?_
  · have hb := bmv_bad T h0 S hS
    obtain ⟨w, hw, rfl⟩ := List.mem_map.mp hd
    have hw := List.mem_range.mp hw
    exact .inr (.inr (.inl ⟨rfl, w, S, rfl, .inl ⟨by omega, hb⟩, rfl⟩))
  refine q_whenF (b := false) s (EvT.to (et_or (et_Test (ev_op (EvO.b (eo_call (R := R_told K C) (ea_cons ev_c (ea_cons ev_c (ea_cons ev_c ea_nil))) ⟨_, iS 0, iS 1, C.BadMove, kM, rfl, ⟨.inr (.inr (.inl ⟨rfl, 0, _, rfl, .inr (.inl ⟨rfl, rfl⟩), rfl⟩)), kd_move T⟩, rfl⟩)) (ev_due (j := 2) (S := dueS kM) rfl (by decide) rfl) (jv_neSame (dat_bl isR_b) (dat_bl isR_v))))
    fun _ => et_Test (ev_op (EvO.b (eo_call (R := R_told K C) (ea_cons ev_c (ea_cons ev_c (ea_cons ev_c ea_nil))) ⟨_, iS 1, iS 0, C.BadMove, kM, rfl, ⟨.inr (.inr (.inl ⟨rfl, 1, _, rfl, .inr (.inr ⟨rfl, rfl⟩), rfl⟩)), kd_move T⟩, rfl⟩)) (ev_due (j := 2) (S := dueS kM) rfl (by decide) rfl) (jv_neSame (dat_bl isR_b) (dat_bl isR_v)))) rfl) rfl fun σ F1 H1 s => ?_
  refine q_forLam (L := L_rt) (R := R_told K C) (ss := rtB C) (j := 7) s True.intro tb nf hm (EvO.v (eo_lstN (ss := rtB C) (ea_consV ev_c (ea_consV ev_p0 (ea_consV ev_c (ea_consV (ev_p1 (ev_mkF (i := 0) (by decide))) (ea_consV ev_c ea_nilV))))) (Nat.le_of_ble_eq_true rfl))) (Nat.le_of_ble_eq_true rfl) (fun S => True.intro) (fun n S hS => ?_) fun S2 F2 H2 σ ff2 s tb nf => ?_
  · exact ⟨[.v S, .v (iS 0)], lstO (kM.map bS), _, ea_cons (ev_v rfl) (ea_cons ev_c ea_nil), ⟨_, S, iS 0, C.BadMove, kM, rfl, ⟨.inr (.inr (.inr (.inr (.inr (.inr (.inl ⟨rfl, S, iS 0, rfl, rtB_bad S (List.mem_of_getElem? hS), rfl⟩)))))), kd_move T⟩, rfl⟩, ev_due (j := 2) (S := dueS kM) rfl (by decide) rfl, jv_neSame (dat_bl isR_b) (dat_bl isR_v)⟩
  dsimp only [List.set, J.putS, List.nil_append, List.cons_append] at s
  refine q_whenF (b := false) s (et_not (et_B (ev_call (R := R_all K C) (ea_cons ev_c (ea_cons (ev_l2 ev_c ev_c) (ea_cons (eo_listRg (n := 10) ev_c rfl (by decide)).v (ea_cons (ev_due (j := 2) (S := dueS kM) rfl (by decide) rfl) ea_nil)))) ⟨_, _, _, C.BadMove, kM, rfl, ⟨kd_move T, fun d hd S hS => ?_⟩, rfl⟩))) rfl fun σ F3 H3 s => ?_
  · obtain ⟨w, hw, rfl⟩ := List.mem_map.mp hS
    have hw := List.mem_range.mp hw
    simp only [List.mem_cons, List.not_mem_nil, or_false] at hd
    rcases hd with rfl | rfl
    · exact .inr (.inr (.inr (.inl ⟨rfl, 0, w, rfl, ⟨by decide, hw⟩, rfl⟩)))
    · exact .inr (.inr (.inr (.inl ⟨rfl, 1, w, rfl, ⟨by decide, hw⟩, rfl⟩)))
  have har : EvAs (tCons (tVar 1) (tCons (tIx K (tVar 2) (tC (.int 3))) tNil)) [Ent.v (scrS K ns), Ent.v (iS far), Ent.v (lstS ((List.range 4).map dueSl)), Ent.v Sk, Ent.v (lstS (szs far)), Ent.v (lstS (sts far)), Ent.v (lstS (bmv far)), Ent.v S2] [.v (iS far), .v (dueS kG)] := ea_cons (ev_v rfl) (ea_cons (ev_due (j := 3) (S := dueS kG) rfl (by decide) rfl) ea_nil)
  show (tCons (tVar 1) (tCons (tIx K (tVar 2) (tC (V.int 3))) tNil)) σ H3 (fun vs H' => SpG Ts (vs ++ []) H' (fun x H'' => ∃ c : Bool, x = .bl c ∧ if c = true then (tCall (SpOf R_good) [] E tNil) σ H'' Q else Q (.bl false) H'') E)
  refine har _ _ _ _ _ s _ fun vs F4 H4 g4 a4 => ⟨F4, far, ⟨g4.fh, g4.tt s.tt⟩, tabs_ext tb (s.grow g4).g.hh, nf_grow tb nf (s.grow g4).g, by rw [List.append_nil]; exact args_v a4, h0, fun F5 H5 ff5 fh5 tt5 => ⟨true, rfl, ?_⟩⟩
  show (tCall (SpOf R_good) [] E tNil) σ H5 _
  exact ⟨F5, [], .v (bS true), fh5, tt5, .nil, ⟨rfl, rfl⟩, fun v F6 H6 g6 hv6 => by
    cases hv6
    exact k H6⟩

end
end Jug
namespace Jug
open PySem PySem.Spec L2 PyProof.Rows J
open LamX
section
theorem all_mk {l : PySem.W.OpenLaw} {w : World} {K : PySem.W.Frag} {h : Heap} {mg : Str → Option Value} {fa : Addr} (X : K.In h) (G : h.Ns mainGlobals mg) (hfa : mg "law" = some (.ref fa))
    {as : List Addr} (t1 : TabAt mg h "law") (t2 : TabAt mg h "_law_goals_right") (hA : as = K.map (·.1))
    {c_Move : Addr}
    {c_Pour : Addr}
    {c_Fill : Addr}
    {c_Empty : Addr}
    {c_Goal : Addr}
    {c_Holds : Addr}
    {c_Some : Addr}
    {c_Sum : Addr}
    {c_Whole : Addr}
    {c_Poured : Addr}
    {c_Barred : Addr}
    {c_House : Addr}
    {f0 : Addr} {od0 an0 : Option Addr} {sl0 : Array (Option Value)} {oc0 kV0 dc0 pm0 cd0 ct0 : Value}
    {f1 : Addr} {od1 an1 : Option Addr} {sl1 : Array (Option Value)} {oc1 kV1 dc1 pm1 cd1 ct1 : Value}
    {f2 : Addr} {od2 an2 : Option Addr} {sl2 : Array (Option Value)} {oc2 kV2 dc2 pm2 cd2 ct2 : Value}
    {f3 : Addr} {od3 an3 : Option Addr} {sl3 : Array (Option Value)} {oc3 kV3 dc3 pm3 cd3 ct3 : Value}
    {f4 : Addr} {od4 an4 : Option Addr} {sl4 : Array (Option Value)} {oc4 kV4 dc4 pm4 cd4 ct4 : Value}
    {f5 : Addr} {od5 an5 : Option Addr} {sl5 : Array (Option Value)} {oc5 kV5 dc5 pm5 cd5 ct5 : Value}
    {f6 : Addr} {od6 an6 : Option Addr} {sl6 : Array (Option Value)} {oc6 kV6 dc6 pm6 cd6 ct6 : Value}
    {f7 : Addr} {od7 an7 : Option Addr} {sl7 : Array (Option Value)} {oc7 kV7 dc7 pm7 cd7 ct7 : Value}
    {f8 : Addr} {od8 an8 : Option Addr} {sl8 : Array (Option Value)} {oc8 kV8 dc8 pm8 cd8 ct8 : Value}
    {f9 : Addr} {od9 an9 : Option Addr} {sl9 : Array (Option Value)} {oc9 kV9 dc9 pm9 cd9 ct9 : Value}
    {f10 : Addr} {od10 an10 : Option Addr} {sl10 : Array (Option Value)} {oc10 kV10 dc10 pm10 cd10 ct10 : Value}
    {f11 : Addr} {od11 an11 : Option Addr} {sl11 : Array (Option Value)} {oc11 kV11 dc11 pm11 cd11 ct11 : Value}
    {f12 : Addr} {od12 an12 : Option Addr} {sl12 : Array (Option Value)} {oc12 kV12 dc12 pm12 cd12 ct12 : Value}
    {f13 : Addr} {od13 an13 : Option Addr} {sl13 : Array (Option Value)} {oc13 kV13 dc13 pm13 cd13 ct13 : Value}
    {f14 : Addr} {od14 an14 : Option Addr} {sl14 : Array (Option Value)} {oc14 kV14 dc14 pm14 cd14 ct14 : Value}
    {f15 : Addr} {od15 an15 : Option Addr} {sl15 : Array (Option Value)} {oc15 kV15 dc15 pm15 cd15 ct15 : Value}
    {f16 : Addr} {od16 an16 : Option Addr} {sl16 : Array (Option Value)} {oc16 kV16 dc16 pm16 cd16 ct16 : Value}
    {f17 : Addr} {od17 an17 : Option Addr} {sl17 : Array (Option Value)} {oc17 kV17 dc17 pm17 cd17 ct17 : Value}
    {f18 : Addr} {od18 an18 : Option Addr} {sl18 : Array (Option Value)} {oc18 kV18 dc18 pm18 cd18 ct18 : Value}
    {f19 : Addr} {od19 an19 : Option Addr} {sl19 : Array (Option Value)} {oc19 kV19 dc19 pm19 cd19 ct19 : Value}
    {f20 : Addr} {od20 an20 : Option Addr} {sl20 : Array (Option Value)} {oc20 kV20 dc20 pm20 cd20 ct20 : Value}
    {f21 : Addr} {od21 an21 : Option Addr} {sl21 : Array (Option Value)} {oc21 kV21 dc21 pm21 cd21 ct21 : Value}
    {f22 : Addr} {od22 an22 : Option Addr} {sl22 : Array (Option Value)} {oc22 kV22 dc22 pm22 cd22 ct22 : Value}
    {f23 : Addr} {od23 an23 : Option Addr} {sl23 : Array (Option Value)} {oc23 kV23 dc23 pm23 cd23 ct23 : Value}
    {f24 : Addr} {od24 an24 : Option Addr} {sl24 : Array (Option Value)} {oc24 kV24 dc24 pm24 cd24 ct24 : Value}
    {f25 : Addr} {od25 an25 : Option Addr} {sl25 : Array (Option Value)} {oc25 kV25 dc25 pm25 cd25 ct25 : Value}
    {f26 : Addr} {od26 an26 : Option Addr} {sl26 : Array (Option Value)} {oc26 kV26 dc26 pm26 cd26 ct26 : Value}
    {f27 : Addr} {od27 an27 : Option Addr} {sl27 : Array (Option Value)} {oc27 kV27 dc27 pm27 cd27 ct27 : Value}
    {f28 : Addr} {od28 an28 : Option Addr} {sl28 : Array (Option Value)} {oc28 kV28 dc28 pm28 cd28 ct28 : Value}
    {f29 : Addr} {od29 an29 : Option Addr} {sl29 : Array (Option Value)} {oc29 kV29 dc29 pm29 cd29 ct29 : Value}
    {c_JugError : Addr}
    {c_BadHouse : Addr}
    {c_BadState : Addr}
    {c_BadMove : Addr}
    {c_BadGoal : Addr}
    {c_BadText : Addr}
    {u_MOST_JUGS : Value}
    {u_GREATEST_goals : Value}
    {u_MOST : Value}
    {u_GREATEST_houses : Value}
    {u_MOST_STATES : Value}
    {f30 : Addr} {od30 an30 : Option Addr} {sl30 : Array (Option Value)} {oc30 kV30 dc30 pm30 cd30 ct30 : Value}
    {f31 : Addr} {od31 an31 : Option Addr} {sl31 : Array (Option Value)} {oc31 kV31 dc31 pm31 cd31 ct31 : Value}
    {f32 : Addr} {od32 an32 : Option Addr} {sl32 : Array (Option Value)} {oc32 kV32 dc32 pm32 cd32 ct32 : Value}
    {f33 : Addr} {od33 an33 : Option Addr} {sl33 : Array (Option Value)} {oc33 kV33 dc33 pm33 cd33 ct33 : Value}
    {f34 : Addr} {od34 an34 : Option Addr} {sl34 : Array (Option Value)} {oc34 kV34 dc34 pm34 cd34 ct34 : Value}
    {f35 : Addr} {od35 an35 : Option Addr} {sl35 : Array (Option Value)} {oc35 kV35 dc35 pm35 cd35 ct35 : Value}
    {f36 : Addr} {od36 an36 : Option Addr} {sl36 : Array (Option Value)} {oc36 kV36 dc36 pm36 cd36 ct36 : Value}
    {f37 : Addr} {od37 an37 : Option Addr} {sl37 : Array (Option Value)} {oc37 kV37 dc37 pm37 cd37 ct37 : Value}
    {f38 : Addr} {od38 an38 : Option Addr} {sl38 : Array (Option Value)} {oc38 kV38 dc38 pm38 cd38 ct38 : Value}
    {f39 : Addr} {od39 an39 : Option Addr} {sl39 : Array (Option Value)} {oc39 kV39 dc39 pm39 cd39 ct39 : Value}
    {f40 : Addr} {od40 an40 : Option Addr} {sl40 : Array (Option Value)} {oc40 kV40 dc40 pm40 cd40 ct40 : Value}
    {f41 : Addr} {od41 an41 : Option Addr} {sl41 : Array (Option Value)} {oc41 kV41 dc41 pm41 cd41 ct41 : Value}
    {f42 : Addr} {od42 an42 : Option Addr} {sl42 : Array (Option Value)} {oc42 kV42 dc42 pm42 cd42 ct42 : Value}
    {f43 : Addr} {od43 an43 : Option Addr} {sl43 : Array (Option Value)} {oc43 kV43 dc43 pm43 cd43 ct43 : Value}
    {f44 : Addr} {od44 an44 : Option Addr} {sl44 : Array (Option Value)} {oc44 kV44 dc44 pm44 cd44 ct44 : Value}
    {f45 : Addr} {od45 an45 : Option Addr} {sl45 : Array (Option Value)} {oc45 kV45 dc45 pm45 cd45 ct45 : Value}
    {f46 : Addr} {od46 an46 : Option Addr} {sl46 : Array (Option Value)} {oc46 kV46 dc46 pm46 cd46 ct46 : Value}
    {f47 : Addr} {od47 an47 : Option Addr} {sl47 : Array (Option Value)} {oc47 kV47 dc47 pm47 cd47 ct47 : Value}
    {f48 : Addr} {od48 an48 : Option Addr} {sl48 : Array (Option Value)} {oc48 kV48 dc48 pm48 cd48 ct48 : Value}
    {f49 : Addr} {od49 an49 : Option Addr} {sl49 : Array (Option Value)} {oc49 kV49 dc49 pm49 cd49 ct49 : Value}
    {f50 : Addr} {od50 an50 : Option Addr} {sl50 : Array (Option Value)} {oc50 kV50 dc50 pm50 cd50 ct50 : Value}
    {f51 : Addr} {od51 an51 : Option Addr} {sl51 : Array (Option Value)} {oc51 kV51 dc51 pm51 cd51 ct51 : Value}
    {f52 : Addr} {od52 an52 : Option Addr} {sl52 : Array (Option Value)} {oc52 kV52 dc52 pm52 cd52 ct52 : Value}
    {f53 : Addr} {od53 an53 : Option Addr} {sl53 : Array (Option Value)} {oc53 kV53 dc53 pm53 cd53 ct53 : Value}
    {f54 cA54 Pt54 : Addr} {od54 an54 dd54 : Option Addr} {sl54 sq54 : Array (Option Value)} {vs54 : Array Value} {oc54 kV54 dc54 pm54 ct54 ec54 : Value}
    {f55 : Addr} {od55 an55 : Option Addr} {sl55 : Array (Option Value)} {oc55 kV55 dc55 pm55 cd55 ct55 : Value}
    {f56 cA56 Pt56 : Addr} {od56 an56 dd56 : Option Addr} {sl56 sq56 : Array (Option Value)} {vs56 : Array Value} {oc56 kV56 dc56 pm56 ct56 ec56 : Value}
    (ac_Move : PySem.W.nsIn K mainGlobals "Move" = some (some (.ref c_Move)))
    (ac_Pour : PySem.W.nsIn K mainGlobals "Pour" = some (some (.ref c_Pour)))
    (ac_Fill : PySem.W.nsIn K mainGlobals "Fill" = some (some (.ref c_Fill)))
    (ac_Empty : PySem.W.nsIn K mainGlobals "Empty" = some (some (.ref c_Empty)))
    (ac_Goal : PySem.W.nsIn K mainGlobals "Goal" = some (some (.ref c_Goal)))
    (ac_Holds : PySem.W.nsIn K mainGlobals "Holds" = some (some (.ref c_Holds)))
    (ac_Some : PySem.W.nsIn K mainGlobals "Some" = some (some (.ref c_Some)))
    (ac_Sum : PySem.W.nsIn K mainGlobals "Sum" = some (some (.ref c_Sum)))
    (ac_Whole : PySem.W.nsIn K mainGlobals "Whole" = some (some (.ref c_Whole)))
    (ac_Poured : PySem.W.nsIn K mainGlobals "Poured" = some (some (.ref c_Poured)))
    (ac_Barred : PySem.W.nsIn K mainGlobals "Barred" = some (some (.ref c_Barred)))
    (ac_House : PySem.W.nsIn K mainGlobals "House" = some (some (.ref c_House)))
    (pg_Pour : PySem.W.plainGet K c_Pour Str.empty = true)
    (hd_Pour : PySem.W.hasDictIn K c_Pour = true)
    (po_Pour : PySem.W.plainOver K c_Pour = true)
    (sa_Pour : PySem.W.findIn K (.ref c_Pour) "__setattr__" = some (some (.builtin "object.__setattr__")))
    (pg_Fill : PySem.W.plainGet K c_Fill Str.empty = true)
    (hd_Fill : PySem.W.hasDictIn K c_Fill = true)
    (po_Fill : PySem.W.plainOver K c_Fill = true)
    (sa_Fill : PySem.W.findIn K (.ref c_Fill) "__setattr__" = some (some (.builtin "object.__setattr__")))
    (pg_Empty : PySem.W.plainGet K c_Empty Str.empty = true)
    (hd_Empty : PySem.W.hasDictIn K c_Empty = true)
    (po_Empty : PySem.W.plainOver K c_Empty = true)
    (sa_Empty : PySem.W.findIn K (.ref c_Empty) "__setattr__" = some (some (.builtin "object.__setattr__")))
    (pg_Holds : PySem.W.plainGet K c_Holds Str.empty = true)
    (hd_Holds : PySem.W.hasDictIn K c_Holds = true)
    (po_Holds : PySem.W.plainOver K c_Holds = true)
    (sa_Holds : PySem.W.findIn K (.ref c_Holds) "__setattr__" = some (some (.builtin "object.__setattr__")))
    (pg_Some : PySem.W.plainGet K c_Some Str.empty = true)
    (hd_Some : PySem.W.hasDictIn K c_Some = true)
    (po_Some : PySem.W.plainOver K c_Some = true)
    (sa_Some : PySem.W.findIn K (.ref c_Some) "__setattr__" = some (some (.builtin "object.__setattr__")))
    (pg_Sum : PySem.W.plainGet K c_Sum Str.empty = true)
    (hd_Sum : PySem.W.hasDictIn K c_Sum = true)
    (po_Sum : PySem.W.plainOver K c_Sum = true)
    (sa_Sum : PySem.W.findIn K (.ref c_Sum) "__setattr__" = some (some (.builtin "object.__setattr__")))
    (pg_Whole : PySem.W.plainGet K c_Whole Str.empty = true)
    (hd_Whole : PySem.W.hasDictIn K c_Whole = true)
    (po_Whole : PySem.W.plainOver K c_Whole = true)
    (sa_Whole : PySem.W.findIn K (.ref c_Whole) "__setattr__" = some (some (.builtin "object.__setattr__")))
    (pg_Poured : PySem.W.plainGet K c_Poured Str.empty = true)
    (hd_Poured : PySem.W.hasDictIn K c_Poured = true)
    (po_Poured : PySem.W.plainOver K c_Poured = true)
    (sa_Poured : PySem.W.findIn K (.ref c_Poured) "__setattr__" = some (some (.builtin "object.__setattr__")))
    (pg_Barred : PySem.W.plainGet K c_Barred Str.empty = true)
    (hd_Barred : PySem.W.hasDictIn K c_Barred = true)
    (po_Barred : PySem.W.plainOver K c_Barred = true)
    (sa_Barred : PySem.W.findIn K (.ref c_Barred) "__setattr__" = some (some (.builtin "object.__setattr__")))
    (pg_House : PySem.W.plainGet K c_House Str.empty = true)
    (hd_House : PySem.W.hasDictIn K c_House = true)
    (po_House : PySem.W.plainOver K c_House = true)
    (sa_House : PySem.W.findIn K (.ref c_House) "__setattr__" = some (some (.builtin "object.__setattr__")))
    (ha_Pour : PySem.W.findIn K (.ref c_Pour) "__class__" = some (some (.builtin "object.__class__")))
    (hm_Pour : PySem.W.mroIn K c_Pour (.type "object") = some true)
    (hn : PySem.W.specialIn K (.builtin "object.__class__") "__get__" = some (some (.builtin "getset_descriptor.__get__")))
    (tk : PySem.W.takesIn K (.builtin "object.__class__") = some true)
    (nf_Pour_one : PySem.W.findIn K (.ref c_Pour) "one" = some none)
    (nf_Pour_other : PySem.W.findIn K (.ref c_Pour) "other" = some none)
    (ai_Pour : PySem.W.findIn K (.ref c_Pour) "__init__" = some (some (.ref f0)))
    (l0 : K.lookup f0 = some ⟨oc0, od0, .func (PySem.W.fnOf "__init__" "Pour.__init__" (defArgs (inClass (top 13) 0)) (defBody (inClass (top 13) 0)) (defScope (inClass (top 13) 0)) .none kV0 dc0 pm0 an0 cd0 ct0), sl0⟩)
    (c0 : PySem.W.codeIn K cd0 "Pour.__init__" = true)
    (k0 : PySem.W.keepIn K (.ref f0) = true)
    (ji_Pour : PySem.W.isFn K (.ref f0) = true)
    (mk_Pour : PySem.W.makesIn K c_Pour = true)
    (kc_Pour : PySem.W.keepIn K (.ref c_Pour) = true)
    (am_Pour_fits : PySem.W.findIn K (.ref c_Pour) "fits" = some (some (.ref f1)))
    (l1 : K.lookup f1 = some ⟨oc1, od1, .func (PySem.W.fnOf "fits" "Pour.fits" (defArgs (inClass (top 13) 1)) (defBody (inClass (top 13) 1)) (defScope (inClass (top 13) 1)) .none kV1 dc1 pm1 an1 cd1 ct1), sl1⟩)
    (c1 : PySem.W.codeIn K cd1 "Pour.fits" = true)
    (k1 : PySem.W.keepIn K (.ref f1) = true)
    (jm_Pour_fits : PySem.W.isFn K (.ref f1) = true)
    (am_Pour_behind : PySem.W.findIn K (.ref c_Pour) "behind" = some (some (.ref f2)))
    (l2 : K.lookup f2 = some ⟨oc2, od2, .func (PySem.W.fnOf "behind" "Pour.behind" (defArgs (inClass (top 13) 2)) (defBody (inClass (top 13) 2)) (defScope (inClass (top 13) 2)) .none kV2 dc2 pm2 an2 cd2 ct2), sl2⟩)
    (c2 : PySem.W.codeIn K cd2 "Pour.behind" = true)
    (k2 : PySem.W.keepIn K (.ref f2) = true)
    (jm_Pour_behind : PySem.W.isFn K (.ref f2) = true)
    (am_Pour_done : PySem.W.findIn K (.ref c_Pour) "done" = some (some (.ref f3)))
    (l3 : K.lookup f3 = some ⟨oc3, od3, .func (PySem.W.fnOf "done" "Move.done" (defArgs (inClass (top 11) 2)) (defBody (inClass (top 11) 2)) (defScope (inClass (top 11) 2)) .none kV3 dc3 pm3 an3 cd3 ct3), sl3⟩)
    (c3 : PySem.W.codeIn K cd3 "Move.done" = true)
    (k3 : PySem.W.keepIn K (.ref f3) = true)
    (jm_Pour_done : PySem.W.isFn K (.ref f3) = true)
    (is_Pour_Move : PySem.W.kitOne K (.ref c_Pour) (.ref c_Move) = some true)
    (ha_Fill : PySem.W.findIn K (.ref c_Fill) "__class__" = some (some (.builtin "object.__class__")))
    (hm_Fill : PySem.W.mroIn K c_Fill (.type "object") = some true)
    (nf_Fill_jug : PySem.W.findIn K (.ref c_Fill) "jug" = some none)
    (ai_Fill : PySem.W.findIn K (.ref c_Fill) "__init__" = some (some (.ref f4)))
    (l4 : K.lookup f4 = some ⟨oc4, od4, .func (PySem.W.fnOf "__init__" "Fill.__init__" (defArgs (inClass (top 14) 0)) (defBody (inClass (top 14) 0)) (defScope (inClass (top 14) 0)) .none kV4 dc4 pm4 an4 cd4 ct4), sl4⟩)
    (c4 : PySem.W.codeIn K cd4 "Fill.__init__" = true)
    (k4 : PySem.W.keepIn K (.ref f4) = true)
    (ji_Fill : PySem.W.isFn K (.ref f4) = true)
    (mk_Fill : PySem.W.makesIn K c_Fill = true)
    (kc_Fill : PySem.W.keepIn K (.ref c_Fill) = true)
    (am_Fill_fits : PySem.W.findIn K (.ref c_Fill) "fits" = some (some (.ref f5)))
    (l5 : K.lookup f5 = some ⟨oc5, od5, .func (PySem.W.fnOf "fits" "Fill.fits" (defArgs (inClass (top 14) 1)) (defBody (inClass (top 14) 1)) (defScope (inClass (top 14) 1)) .none kV5 dc5 pm5 an5 cd5 ct5), sl5⟩)
    (c5 : PySem.W.codeIn K cd5 "Fill.fits" = true)
    (k5 : PySem.W.keepIn K (.ref f5) = true)
    (jm_Fill_fits : PySem.W.isFn K (.ref f5) = true)
    (am_Fill_behind : PySem.W.findIn K (.ref c_Fill) "behind" = some (some (.ref f6)))
    (l6 : K.lookup f6 = some ⟨oc6, od6, .func (PySem.W.fnOf "behind" "Fill.behind" (defArgs (inClass (top 14) 2)) (defBody (inClass (top 14) 2)) (defScope (inClass (top 14) 2)) .none kV6 dc6 pm6 an6 cd6 ct6), sl6⟩)
    (c6 : PySem.W.codeIn K cd6 "Fill.behind" = true)
    (k6 : PySem.W.keepIn K (.ref f6) = true)
    (jm_Fill_behind : PySem.W.isFn K (.ref f6) = true)
    (am_Fill_done : PySem.W.findIn K (.ref c_Fill) "done" = some (some (.ref f3)))
    (jm_Fill_done : PySem.W.isFn K (.ref f3) = true)
    (is_Fill_Move : PySem.W.kitOne K (.ref c_Fill) (.ref c_Move) = some true)
    (ha_Empty : PySem.W.findIn K (.ref c_Empty) "__class__" = some (some (.builtin "object.__class__")))
    (hm_Empty : PySem.W.mroIn K c_Empty (.type "object") = some true)
    (nf_Empty_jug : PySem.W.findIn K (.ref c_Empty) "jug" = some none)
    (ai_Empty : PySem.W.findIn K (.ref c_Empty) "__init__" = some (some (.ref f7)))
    (l7 : K.lookup f7 = some ⟨oc7, od7, .func (PySem.W.fnOf "__init__" "Empty.__init__" (defArgs (inClass (top 15) 0)) (defBody (inClass (top 15) 0)) (defScope (inClass (top 15) 0)) .none kV7 dc7 pm7 an7 cd7 ct7), sl7⟩)
    (c7 : PySem.W.codeIn K cd7 "Empty.__init__" = true)
    (k7 : PySem.W.keepIn K (.ref f7) = true)
    (ji_Empty : PySem.W.isFn K (.ref f7) = true)
    (mk_Empty : PySem.W.makesIn K c_Empty = true)
    (kc_Empty : PySem.W.keepIn K (.ref c_Empty) = true)
    (am_Empty_fits : PySem.W.findIn K (.ref c_Empty) "fits" = some (some (.ref f8)))
    (l8 : K.lookup f8 = some ⟨oc8, od8, .func (PySem.W.fnOf "fits" "Empty.fits" (defArgs (inClass (top 15) 1)) (defBody (inClass (top 15) 1)) (defScope (inClass (top 15) 1)) .none kV8 dc8 pm8 an8 cd8 ct8), sl8⟩)
    (c8 : PySem.W.codeIn K cd8 "Empty.fits" = true)
    (k8 : PySem.W.keepIn K (.ref f8) = true)
    (jm_Empty_fits : PySem.W.isFn K (.ref f8) = true)
    (am_Empty_behind : PySem.W.findIn K (.ref c_Empty) "behind" = some (some (.ref f9)))
    (l9 : K.lookup f9 = some ⟨oc9, od9, .func (PySem.W.fnOf "behind" "Empty.behind" (defArgs (inClass (top 15) 2)) (defBody (inClass (top 15) 2)) (defScope (inClass (top 15) 2)) .none kV9 dc9 pm9 an9 cd9 ct9), sl9⟩)
    (c9 : PySem.W.codeIn K cd9 "Empty.behind" = true)
    (k9 : PySem.W.keepIn K (.ref f9) = true)
    (jm_Empty_behind : PySem.W.isFn K (.ref f9) = true)
    (am_Empty_done : PySem.W.findIn K (.ref c_Empty) "done" = some (some (.ref f3)))
    (jm_Empty_done : PySem.W.isFn K (.ref f3) = true)
    (is_Empty_Move : PySem.W.kitOne K (.ref c_Empty) (.ref c_Move) = some true)
    (ha_Holds : PySem.W.findIn K (.ref c_Holds) "__class__" = some (some (.builtin "object.__class__")))
    (hm_Holds : PySem.W.mroIn K c_Holds (.type "object") = some true)
    (nf_Holds_jug : PySem.W.findIn K (.ref c_Holds) "jug" = some none)
    (nf_Holds_many : PySem.W.findIn K (.ref c_Holds) "many" = some none)
    (ai_Holds : PySem.W.findIn K (.ref c_Holds) "__init__" = some (some (.ref f10)))
    (l10 : K.lookup f10 = some ⟨oc10, od10, .func (PySem.W.fnOf "__init__" "Holds.__init__" (defArgs (inClass (top 23) 0)) (defBody (inClass (top 23) 0)) (defScope (inClass (top 23) 0)) .none kV10 dc10 pm10 an10 cd10 ct10), sl10⟩)
    (c10 : PySem.W.codeIn K cd10 "Holds.__init__" = true)
    (k10 : PySem.W.keepIn K (.ref f10) = true)
    (ji_Holds : PySem.W.isFn K (.ref f10) = true)
    (mk_Holds : PySem.W.makesIn K c_Holds = true)
    (kc_Holds : PySem.W.keepIn K (.ref c_Holds) = true)
    (am_Holds_fits : PySem.W.findIn K (.ref c_Holds) "fits" = some (some (.ref f11)))
    (l11 : K.lookup f11 = some ⟨oc11, od11, .func (PySem.W.fnOf "fits" "Holds.fits" (defArgs (inClass (top 23) 1)) (defBody (inClass (top 23) 1)) (defScope (inClass (top 23) 1)) .none kV11 dc11 pm11 an11 cd11 ct11), sl11⟩)
    (c11 : PySem.W.codeIn K cd11 "Holds.fits" = true)
    (k11 : PySem.W.keepIn K (.ref f11) = true)
    (jm_Holds_fits : PySem.W.isFn K (.ref f11) = true)
    (am_Holds_met : PySem.W.findIn K (.ref c_Holds) "met" = some (some (.ref f12)))
    (l12 : K.lookup f12 = some ⟨oc12, od12, .func (PySem.W.fnOf "met" "Holds.met" (defArgs (inClass (top 23) 2)) (defBody (inClass (top 23) 2)) (defScope (inClass (top 23) 2)) .none kV12 dc12 pm12 an12 cd12 ct12), sl12⟩)
    (c12 : PySem.W.codeIn K cd12 "Holds.met" = true)
    (k12 : PySem.W.keepIn K (.ref f12) = true)
    (jm_Holds_met : PySem.W.isFn K (.ref f12) = true)
    (am_Holds_come : PySem.W.findIn K (.ref c_Holds) "come" = some (some (.ref f13)))
    (l13 : K.lookup f13 = some ⟨oc13, od13, .func (PySem.W.fnOf "come" "Goal.come" (defArgs (inClass (top 22) 2)) (defBody (inClass (top 22) 2)) (defScope (inClass (top 22) 2)) .none kV13 dc13 pm13 an13 cd13 ct13), sl13⟩)
    (c13 : PySem.W.codeIn K cd13 "Goal.come" = true)
    (k13 : PySem.W.keepIn K (.ref f13) = true)
    (jm_Holds_come : PySem.W.isFn K (.ref f13) = true)
    (is_Holds_Goal : PySem.W.kitOne K (.ref c_Holds) (.ref c_Goal) = some true)
    (ha_Some : PySem.W.findIn K (.ref c_Some) "__class__" = some (some (.builtin "object.__class__")))
    (hm_Some : PySem.W.mroIn K c_Some (.type "object") = some true)
    (nf_Some_many : PySem.W.findIn K (.ref c_Some) "many" = some none)
    (ai_Some : PySem.W.findIn K (.ref c_Some) "__init__" = some (some (.ref f14)))
    (l14 : K.lookup f14 = some ⟨oc14, od14, .func (PySem.W.fnOf "__init__" "Some.__init__" (defArgs (inClass (top 24) 0)) (defBody (inClass (top 24) 0)) (defScope (inClass (top 24) 0)) .none kV14 dc14 pm14 an14 cd14 ct14), sl14⟩)
    (c14 : PySem.W.codeIn K cd14 "Some.__init__" = true)
    (k14 : PySem.W.keepIn K (.ref f14) = true)
    (ji_Some : PySem.W.isFn K (.ref f14) = true)
    (mk_Some : PySem.W.makesIn K c_Some = true)
    (kc_Some : PySem.W.keepIn K (.ref c_Some) = true)
    (am_Some_fits : PySem.W.findIn K (.ref c_Some) "fits" = some (some (.ref f15)))
    (l15 : K.lookup f15 = some ⟨oc15, od15, .func (PySem.W.fnOf "fits" "Some.fits" (defArgs (inClass (top 24) 1)) (defBody (inClass (top 24) 1)) (defScope (inClass (top 24) 1)) .none kV15 dc15 pm15 an15 cd15 ct15), sl15⟩)
    (c15 : PySem.W.codeIn K cd15 "Some.fits" = true)
    (k15 : PySem.W.keepIn K (.ref f15) = true)
    (jm_Some_fits : PySem.W.isFn K (.ref f15) = true)
    (am_Some_met : PySem.W.findIn K (.ref c_Some) "met" = some (some (.ref f16)))
    (l16 : K.lookup f16 = some ⟨oc16, od16, .func (PySem.W.fnOf "met" "Some.met" (defArgs (inClass (top 24) 2)) (defBody (inClass (top 24) 2)) (defScope (inClass (top 24) 2)) .none kV16 dc16 pm16 an16 cd16 ct16), sl16⟩)
    (c16 : PySem.W.codeIn K cd16 "Some.met" = true)
    (k16 : PySem.W.keepIn K (.ref f16) = true)
    (jm_Some_met : PySem.W.isFn K (.ref f16) = true)
    (am_Some_come : PySem.W.findIn K (.ref c_Some) "come" = some (some (.ref f13)))
    (jm_Some_come : PySem.W.isFn K (.ref f13) = true)
    (is_Some_Goal : PySem.W.kitOne K (.ref c_Some) (.ref c_Goal) = some true)
    (ha_Sum : PySem.W.findIn K (.ref c_Sum) "__class__" = some (some (.builtin "object.__class__")))
    (hm_Sum : PySem.W.mroIn K c_Sum (.type "object") = some true)
    (nf_Sum_jugs : PySem.W.findIn K (.ref c_Sum) "jugs" = some none)
    (nf_Sum_many : PySem.W.findIn K (.ref c_Sum) "many" = some none)
    (ai_Sum : PySem.W.findIn K (.ref c_Sum) "__init__" = some (some (.ref f17)))
    (l17 : K.lookup f17 = some ⟨oc17, od17, .func (PySem.W.fnOf "__init__" "Sum.__init__" (defArgs (inClass (top 25) 0)) (defBody (inClass (top 25) 0)) (defScope (inClass (top 25) 0)) .none kV17 dc17 pm17 an17 cd17 ct17), sl17⟩)
    (c17 : PySem.W.codeIn K cd17 "Sum.__init__" = true)
    (k17 : PySem.W.keepIn K (.ref f17) = true)
    (ji_Sum : PySem.W.isFn K (.ref f17) = true)
    (mk_Sum : PySem.W.makesIn K c_Sum = true)
    (kc_Sum : PySem.W.keepIn K (.ref c_Sum) = true)
    (am_Sum_fits : PySem.W.findIn K (.ref c_Sum) "fits" = some (some (.ref f18)))
    (l18 : K.lookup f18 = some ⟨oc18, od18, .func (PySem.W.fnOf "fits" "Sum.fits" (defArgs (inClass (top 25) 1)) (defBody (inClass (top 25) 1)) (defScope (inClass (top 25) 1)) .none kV18 dc18 pm18 an18 cd18 ct18), sl18⟩)
    (c18 : PySem.W.codeIn K cd18 "Sum.fits" = true)
    (k18 : PySem.W.keepIn K (.ref f18) = true)
    (jm_Sum_fits : PySem.W.isFn K (.ref f18) = true)
    (am_Sum_met : PySem.W.findIn K (.ref c_Sum) "met" = some (some (.ref f19)))
    (l19 : K.lookup f19 = some ⟨oc19, od19, .func (PySem.W.fnOf "met" "Sum.met" (defArgs (inClass (top 25) 2)) (defBody (inClass (top 25) 2)) (defScope (inClass (top 25) 2)) .none kV19 dc19 pm19 an19 cd19 ct19), sl19⟩)
    (c19 : PySem.W.codeIn K cd19 "Sum.met" = true)
    (k19 : PySem.W.keepIn K (.ref f19) = true)
    (jm_Sum_met : PySem.W.isFn K (.ref f19) = true)
    (am_Sum_come : PySem.W.findIn K (.ref c_Sum) "come" = some (some (.ref f13)))
    (jm_Sum_come : PySem.W.isFn K (.ref f13) = true)
    (is_Sum_Goal : PySem.W.kitOne K (.ref c_Sum) (.ref c_Goal) = some true)
    (ha_Whole : PySem.W.findIn K (.ref c_Whole) "__class__" = some (some (.builtin "object.__class__")))
    (hm_Whole : PySem.W.mroIn K c_Whole (.type "object") = some true)
    (nf_Whole_state : PySem.W.findIn K (.ref c_Whole) "state" = some none)
    (ai_Whole : PySem.W.findIn K (.ref c_Whole) "__init__" = some (some (.ref f20)))
    (l20 : K.lookup f20 = some ⟨oc20, od20, .func (PySem.W.fnOf "__init__" "Whole.__init__" (defArgs (inClass (top 26) 0)) (defBody (inClass (top 26) 0)) (defScope (inClass (top 26) 0)) .none kV20 dc20 pm20 an20 cd20 ct20), sl20⟩)
    (c20 : PySem.W.codeIn K cd20 "Whole.__init__" = true)
    (k20 : PySem.W.keepIn K (.ref f20) = true)
    (ji_Whole : PySem.W.isFn K (.ref f20) = true)
    (mk_Whole : PySem.W.makesIn K c_Whole = true)
    (kc_Whole : PySem.W.keepIn K (.ref c_Whole) = true)
    (am_Whole_fits : PySem.W.findIn K (.ref c_Whole) "fits" = some (some (.ref f21)))
    (l21 : K.lookup f21 = some ⟨oc21, od21, .func (PySem.W.fnOf "fits" "Whole.fits" (defArgs (inClass (top 26) 1)) (defBody (inClass (top 26) 1)) (defScope (inClass (top 26) 1)) .none kV21 dc21 pm21 an21 cd21 ct21), sl21⟩)
    (c21 : PySem.W.codeIn K cd21 "Whole.fits" = true)
    (k21 : PySem.W.keepIn K (.ref f21) = true)
    (jm_Whole_fits : PySem.W.isFn K (.ref f21) = true)
    (am_Whole_met : PySem.W.findIn K (.ref c_Whole) "met" = some (some (.ref f22)))
    (l22 : K.lookup f22 = some ⟨oc22, od22, .func (PySem.W.fnOf "met" "Whole.met" (defArgs (inClass (top 26) 2)) (defBody (inClass (top 26) 2)) (defScope (inClass (top 26) 2)) .none kV22 dc22 pm22 an22 cd22 ct22), sl22⟩)
    (c22 : PySem.W.codeIn K cd22 "Whole.met" = true)
    (k22 : PySem.W.keepIn K (.ref f22) = true)
    (jm_Whole_met : PySem.W.isFn K (.ref f22) = true)
    (am_Whole_come : PySem.W.findIn K (.ref c_Whole) "come" = some (some (.ref f13)))
    (jm_Whole_come : PySem.W.isFn K (.ref f13) = true)
    (is_Whole_Goal : PySem.W.kitOne K (.ref c_Whole) (.ref c_Goal) = some true)
    (nf_Poured_pours : PySem.W.findIn K (.ref c_Poured) "pours" = some none)
    (nf_Poured_heights : PySem.W.findIn K (.ref c_Poured) "heights" = some none)
    (ai_Poured : PySem.W.findIn K (.ref c_Poured) "__init__" = some (some (.ref f23)))
    (l23 : K.lookup f23 = some ⟨oc23, od23, .func (PySem.W.fnOf "__init__" "Poured.__init__" (defArgs (inClass (top 34) 0)) (defBody (inClass (top 34) 0)) (defScope (inClass (top 34) 0)) .none kV23 dc23 pm23 an23 cd23 ct23), sl23⟩)
    (c23 : PySem.W.codeIn K cd23 "Poured.__init__" = true)
    (k23 : PySem.W.keepIn K (.ref f23) = true)
    (ji_Poured : PySem.W.isFn K (.ref f23) = true)
    (mk_Poured : PySem.W.makesIn K c_Poured = true)
    (kc_Poured : PySem.W.keepIn K (.ref c_Poured) = true)
    (nf_Barred_among : PySem.W.findIn K (.ref c_Barred) "among" = some none)
    (ai_Barred : PySem.W.findIn K (.ref c_Barred) "__init__" = some (some (.ref f24)))
    (l24 : K.lookup f24 = some ⟨oc24, od24, .func (PySem.W.fnOf "__init__" "Barred.__init__" (defArgs (inClass (top 35) 0)) (defBody (inClass (top 35) 0)) (defScope (inClass (top 35) 0)) .none kV24 dc24 pm24 an24 cd24 ct24), sl24⟩)
    (c24 : PySem.W.codeIn K cd24 "Barred.__init__" = true)
    (k24 : PySem.W.keepIn K (.ref f24) = true)
    (ji_Barred : PySem.W.isFn K (.ref f24) = true)
    (mk_Barred : PySem.W.makesIn K c_Barred = true)
    (kc_Barred : PySem.W.keepIn K (.ref c_Barred) = true)
    (nf_House_told : PySem.W.findIn K (.ref c_House) "told" = some none)
    (nf_House_tap : PySem.W.findIn K (.ref c_House) "tap" = some none)
    (ai_House : PySem.W.findIn K (.ref c_House) "__init__" = some (some (.ref f25)))
    (l25 : K.lookup f25 = some ⟨oc25, od25, .func (PySem.W.fnOf "__init__" "House.__init__" (defArgs (inClass (top 41) 0)) (defBody (inClass (top 41) 0)) (defScope (inClass (top 41) 0)) .none kV25 dc25 pm25 an25 cd25 ct25), sl25⟩)
    (c25 : PySem.W.codeIn K cd25 "House.__init__" = true)
    (k25 : PySem.W.keepIn K (.ref f25) = true)
    (ji_House : PySem.W.isFn K (.ref f25) = true)
    (mk_House : PySem.W.makesIn K c_House = true)
    (kc_House : PySem.W.keepIn K (.ref c_House) = true)
    (am_House_sizes : PySem.W.findIn K (.ref c_House) "sizes" = some (some (.ref f26)))
    (l26 : K.lookup f26 = some ⟨oc26, od26, .func (PySem.W.fnOf "sizes" "House.sizes" (defArgs (inClass (top 41) 1)) (defBody (inClass (top 41) 1)) (defScope (inClass (top 41) 1)) .none kV26 dc26 pm26 an26 cd26 ct26), sl26⟩)
    (c26 : PySem.W.codeIn K cd26 "House.sizes" = true)
    (k26 : PySem.W.keepIn K (.ref f26) = true)
    (jm_House_sizes : PySem.W.isFn K (.ref f26) = true)
    (am_House_check : PySem.W.findIn K (.ref c_House) "check" = some (some (.ref f27)))
    (l27 : K.lookup f27 = some ⟨oc27, od27, .func (PySem.W.fnOf "check" "House.check" (defArgs (inClass (top 41) 2)) (defBody (inClass (top 41) 2)) (defScope (inClass (top 41) 2)) .none kV27 dc27 pm27 an27 cd27 ct27), sl27⟩)
    (c27 : PySem.W.codeIn K cd27 "House.check" = true)
    (k27 : PySem.W.keepIn K (.ref f27) = true)
    (jm_House_check : PySem.W.isFn K (.ref f27) = true)
    (am_House_moves : PySem.W.findIn K (.ref c_House) "moves" = some (some (.ref f28)))
    (l28 : K.lookup f28 = some ⟨oc28, od28, .func (PySem.W.fnOf "moves" "House.moves" (defArgs (inClass (top 41) 3)) (defBody (inClass (top 41) 3)) (defScope (inClass (top 41) 3)) .none kV28 dc28 pm28 an28 cd28 ct28), sl28⟩)
    (c28 : PySem.W.codeIn K cd28 "House.moves" = true)
    (k28 : PySem.W.keepIn K (.ref f28) = true)
    (jm_House_moves : PySem.W.isFn K (.ref f28) = true)
    (am_House_states : PySem.W.findIn K (.ref c_House) "states" = some (some (.ref f29)))
    (l29 : K.lookup f29 = some ⟨oc29, od29, .func (PySem.W.fnOf "states" "House.states" (defArgs (inClass (top 41) 4)) (defBody (inClass (top 41) 4)) (defScope (inClass (top 41) 4)) .none kV29 dc29 pm29 an29 cd29 ct29), sl29⟩)
    (c29 : PySem.W.codeIn K cd29 "House.states" = true)
    (k29 : PySem.W.keepIn K (.ref f29) = true)
    (jm_House_states : PySem.W.isFn K (.ref f29) = true)
    (isb_int_Move : PySem.W.kitOne K (.type "int") (.ref c_Move) = some false)
    (isb_int_Goal : PySem.W.kitOne K (.type "int") (.ref c_Goal) = some false)
    (isb_bool_Move : PySem.W.kitOne K (.type "bool") (.ref c_Move) = some false)
    (isb_str_Move : PySem.W.kitOne K (.type "str") (.ref c_Move) = some false)
    (isb_str_Goal : PySem.W.kitOne K (.type "str") (.ref c_Goal) = some false)
    (isb_NoneType_Move : PySem.W.kitOne K (.type "NoneType") (.ref c_Move) = some false)
    (isb_NoneType_Goal : PySem.W.kitOne K (.type "NoneType") (.ref c_Goal) = some false)
    (isb_list_Move : PySem.W.kitOne K (.type "list") (.ref c_Move) = some false)
    (isb_tuple_Goal : PySem.W.kitOne K (.type "tuple") (.ref c_Goal) = some false)
    (ax_JugError : PySem.W.nsIn K mainGlobals "JugError" = some (some (.ref c_JugError)))
    (xi_JugError : PySem.W.excIn K c_JugError [.type "ValueError", .type "Exception", .type "BaseException", .type "object"] "ValueError.__new__" = true)
    (xk_JugError : PySem.W.keepIn K (.ref c_JugError) = true)
    (xb_JugError : PySem.W.subIn K (.ref c_JugError) (.type "BaseException") = some true)
    (xt_JugError : PySem.W.typeIn K (.ref c_JugError) = some (.type "type"))
    (ax_BadHouse : PySem.W.nsIn K mainGlobals "BadHouse" = some (some (.ref c_BadHouse)))
    (xi_BadHouse : PySem.W.excIn K c_BadHouse [.type "ValueError", .type "Exception", .type "BaseException", .type "object"] "ValueError.__new__" = true)
    (xk_BadHouse : PySem.W.keepIn K (.ref c_BadHouse) = true)
    (xb_BadHouse : PySem.W.subIn K (.ref c_BadHouse) (.type "BaseException") = some true)
    (xt_BadHouse : PySem.W.typeIn K (.ref c_BadHouse) = some (.type "type"))
    (ax_BadState : PySem.W.nsIn K mainGlobals "BadState" = some (some (.ref c_BadState)))
    (xi_BadState : PySem.W.excIn K c_BadState [.type "ValueError", .type "Exception", .type "BaseException", .type "object"] "ValueError.__new__" = true)
    (xk_BadState : PySem.W.keepIn K (.ref c_BadState) = true)
    (xb_BadState : PySem.W.subIn K (.ref c_BadState) (.type "BaseException") = some true)
    (xt_BadState : PySem.W.typeIn K (.ref c_BadState) = some (.type "type"))
    (ax_BadMove : PySem.W.nsIn K mainGlobals "BadMove" = some (some (.ref c_BadMove)))
    (xi_BadMove : PySem.W.excIn K c_BadMove [.type "ValueError", .type "Exception", .type "BaseException", .type "object"] "ValueError.__new__" = true)
    (xk_BadMove : PySem.W.keepIn K (.ref c_BadMove) = true)
    (xb_BadMove : PySem.W.subIn K (.ref c_BadMove) (.type "BaseException") = some true)
    (xt_BadMove : PySem.W.typeIn K (.ref c_BadMove) = some (.type "type"))
    (ax_BadGoal : PySem.W.nsIn K mainGlobals "BadGoal" = some (some (.ref c_BadGoal)))
    (xi_BadGoal : PySem.W.excIn K c_BadGoal [.type "ValueError", .type "Exception", .type "BaseException", .type "object"] "ValueError.__new__" = true)
    (xk_BadGoal : PySem.W.keepIn K (.ref c_BadGoal) = true)
    (xb_BadGoal : PySem.W.subIn K (.ref c_BadGoal) (.type "BaseException") = some true)
    (xt_BadGoal : PySem.W.typeIn K (.ref c_BadGoal) = some (.type "type"))
    (ax_BadText : PySem.W.nsIn K mainGlobals "BadText" = some (some (.ref c_BadText)))
    (xi_BadText : PySem.W.excIn K c_BadText [.type "ValueError", .type "Exception", .type "BaseException", .type "object"] "ValueError.__new__" = true)
    (xk_BadText : PySem.W.keepIn K (.ref c_BadText) = true)
    (xb_BadText : PySem.W.subIn K (.ref c_BadText) (.type "BaseException") = some true)
    (xt_BadText : PySem.W.typeIn K (.ref c_BadText) = some (.type "type"))
    (eg_BadHouse : PySem.W.findIn K (.ref c_BadHouse) "__getattribute__" = some (some (.builtin "BaseException.__getattribute__")))
    (ek_BadHouse : PySem.W.findIn K (.ref c_BadHouse) "__getattr__" = some none)
    (ed_BadHouse : PySem.W.hasDictIn K c_BadHouse = true)
    (ea_BadHouse : PySem.W.findIn K (.ref c_BadHouse) "__class__" = some (some (.builtin "object.__class__")))
    (em0_BadHouse : PySem.W.mroIn K c_BadHouse (.type "object") = some true)
    (ed_JugError : PySem.W.hasDictIn K c_JugError = true)
    (es_BadHouse_JugError : PySem.W.subIn K (.ref c_BadHouse) (.ref c_JugError) = some true)
    (isx_BadHouse_BadHouse : PySem.W.kitOne K (.ref c_BadHouse) (.ref c_BadHouse) = some true)
    (isx_BadHouse_BadState : PySem.W.kitOne K (.ref c_BadHouse) (.ref c_BadState) = some false)
    (isx_BadHouse_BadMove : PySem.W.kitOne K (.ref c_BadHouse) (.ref c_BadMove) = some false)
    (isx_BadHouse_BadGoal : PySem.W.kitOne K (.ref c_BadHouse) (.ref c_BadGoal) = some false)
    (isx_BadHouse_BadText : PySem.W.kitOne K (.ref c_BadHouse) (.ref c_BadText) = some false)
    (isxv_BadHouse : PySem.W.kitOne K (.ref c_BadHouse) (.type "ValueError") = some true)
    (eg_BadState : PySem.W.findIn K (.ref c_BadState) "__getattribute__" = some (some (.builtin "BaseException.__getattribute__")))
    (ek_BadState : PySem.W.findIn K (.ref c_BadState) "__getattr__" = some none)
    (ed_BadState : PySem.W.hasDictIn K c_BadState = true)
    (ea_BadState : PySem.W.findIn K (.ref c_BadState) "__class__" = some (some (.builtin "object.__class__")))
    (em0_BadState : PySem.W.mroIn K c_BadState (.type "object") = some true)
    (es_BadState_JugError : PySem.W.subIn K (.ref c_BadState) (.ref c_JugError) = some true)
    (isx_BadState_BadHouse : PySem.W.kitOne K (.ref c_BadState) (.ref c_BadHouse) = some false)
    (isx_BadState_BadState : PySem.W.kitOne K (.ref c_BadState) (.ref c_BadState) = some true)
    (isx_BadState_BadMove : PySem.W.kitOne K (.ref c_BadState) (.ref c_BadMove) = some false)
    (isx_BadState_BadGoal : PySem.W.kitOne K (.ref c_BadState) (.ref c_BadGoal) = some false)
    (isx_BadState_BadText : PySem.W.kitOne K (.ref c_BadState) (.ref c_BadText) = some false)
    (isxv_BadState : PySem.W.kitOne K (.ref c_BadState) (.type "ValueError") = some true)
    (eg_BadMove : PySem.W.findIn K (.ref c_BadMove) "__getattribute__" = some (some (.builtin "BaseException.__getattribute__")))
    (ek_BadMove : PySem.W.findIn K (.ref c_BadMove) "__getattr__" = some none)
    (ed_BadMove : PySem.W.hasDictIn K c_BadMove = true)
    (ea_BadMove : PySem.W.findIn K (.ref c_BadMove) "__class__" = some (some (.builtin "object.__class__")))
    (em0_BadMove : PySem.W.mroIn K c_BadMove (.type "object") = some true)
    (es_BadMove_JugError : PySem.W.subIn K (.ref c_BadMove) (.ref c_JugError) = some true)
    (isx_BadMove_BadHouse : PySem.W.kitOne K (.ref c_BadMove) (.ref c_BadHouse) = some false)
    (isx_BadMove_BadState : PySem.W.kitOne K (.ref c_BadMove) (.ref c_BadState) = some false)
    (isx_BadMove_BadMove : PySem.W.kitOne K (.ref c_BadMove) (.ref c_BadMove) = some true)
    (isx_BadMove_BadGoal : PySem.W.kitOne K (.ref c_BadMove) (.ref c_BadGoal) = some false)
    (isx_BadMove_BadText : PySem.W.kitOne K (.ref c_BadMove) (.ref c_BadText) = some false)
    (isxv_BadMove : PySem.W.kitOne K (.ref c_BadMove) (.type "ValueError") = some true)
    (eg_BadGoal : PySem.W.findIn K (.ref c_BadGoal) "__getattribute__" = some (some (.builtin "BaseException.__getattribute__")))
    (ek_BadGoal : PySem.W.findIn K (.ref c_BadGoal) "__getattr__" = some none)
    (ed_BadGoal : PySem.W.hasDictIn K c_BadGoal = true)
    (ea_BadGoal : PySem.W.findIn K (.ref c_BadGoal) "__class__" = some (some (.builtin "object.__class__")))
    (em0_BadGoal : PySem.W.mroIn K c_BadGoal (.type "object") = some true)
    (es_BadGoal_JugError : PySem.W.subIn K (.ref c_BadGoal) (.ref c_JugError) = some true)
    (isx_BadGoal_BadHouse : PySem.W.kitOne K (.ref c_BadGoal) (.ref c_BadHouse) = some false)
    (isx_BadGoal_BadState : PySem.W.kitOne K (.ref c_BadGoal) (.ref c_BadState) = some false)
    (isx_BadGoal_BadMove : PySem.W.kitOne K (.ref c_BadGoal) (.ref c_BadMove) = some false)
    (isx_BadGoal_BadGoal : PySem.W.kitOne K (.ref c_BadGoal) (.ref c_BadGoal) = some true)
    (isx_BadGoal_BadText : PySem.W.kitOne K (.ref c_BadGoal) (.ref c_BadText) = some false)
    (isxv_BadGoal : PySem.W.kitOne K (.ref c_BadGoal) (.type "ValueError") = some true)
    (ag_MOST_JUGS : PySem.W.nsIn K mainGlobals "MOST_JUGS" = some (some u_MOST_JUGS))
    (rg_MOST_JUGS : RelV (.int 4) u_MOST_JUGS)
    (ag_GREATEST_goals : PySem.W.nsIn K mainGlobals "GREATEST_goals" = some (some u_GREATEST_goals))
    (rg_GREATEST_goals : RelV (.int 60) u_GREATEST_goals)
    (ag_MOST : PySem.W.nsIn K mainGlobals "MOST" = some (some u_MOST))
    (rg_MOST : RelV (.int 240) u_MOST)
    (ag_GREATEST_houses : PySem.W.nsIn K mainGlobals "GREATEST_houses" = some (some u_GREATEST_houses))
    (rg_GREATEST_houses : RelV (.int 60) u_GREATEST_houses)
    (ag_MOST_STATES : PySem.W.nsIn K mainGlobals "MOST_STATES" = some (some u_MOST_STATES))
    (rg_MOST_STATES : RelV (.int 2000) u_MOST_STATES)
    (ad_within : PySem.W.nsIn K mainGlobals "within" = some (some (.ref f30)))
    (l30 : K.lookup f30 = some ⟨oc30, od30, .func (PySem.W.fnOf "within" "within" (defArgs (top 9)) (defBody (top 9)) (defScope (top 9)) .none kV30 dc30 pm30 an30 cd30 ct30), sl30⟩)
    (c30 : PySem.W.codeIn K cd30 "within" = true)
    (k30 : PySem.W.keepIn K (.ref f30) = true)
    (ad_check_jug : PySem.W.nsIn K mainGlobals "check_jug" = some (some (.ref f31)))
    (l31 : K.lookup f31 = some ⟨oc31, od31, .func (PySem.W.fnOf "check_jug" "check_jug" (defArgs (top 10)) (defBody (top 10)) (defScope (top 10)) .none kV31 dc31 pm31 an31 cd31 ct31), sl31⟩)
    (c31 : PySem.W.codeIn K cd31 "check_jug" = true)
    (k31 : PySem.W.keepIn K (.ref f31) = true)
    (ad_with_amount : PySem.W.nsIn K mainGlobals "with_amount" = some (some (.ref f32)))
    (l32 : K.lookup f32 = some ⟨oc32, od32, .func (PySem.W.fnOf "with_amount" "with_amount" (defArgs (top 12)) (defBody (top 12)) (defScope (top 12)) .none kV32 dc32 pm32 an32 cd32 ct32), sl32⟩)
    (c32 : PySem.W.codeIn K cd32 "with_amount" = true)
    (k32 : PySem.W.keepIn K (.ref f32) = true)
    (ad_check_moves : PySem.W.nsIn K mainGlobals "check_moves" = some (some (.ref f33)))
    (l33 : K.lookup f33 = some ⟨oc33, od33, .func (PySem.W.fnOf "check_moves" "check_moves" (defArgs (top 16)) (defBody (top 16)) (defScope (top 16)) .none kV33 dc33 pm33 an33 cd33 ct33), sl33⟩)
    (c33 : PySem.W.codeIn K cd33 "check_moves" = true)
    (k33 : PySem.W.keepIn K (.ref f33) = true)
    (ad_done_all : PySem.W.nsIn K mainGlobals "done_all" = some (some (.ref f34)))
    (l34 : K.lookup f34 = some ⟨oc34, od34, .func (PySem.W.fnOf "done_all" "done_all" (defArgs (top 17)) (defBody (top 17)) (defScope (top 17)) .none kV34 dc34 pm34 an34 cd34 ct34), sl34⟩)
    (c34 : PySem.W.codeIn K cd34 "done_all" = true)
    (k34 : PySem.W.keepIn K (.ref f34) = true)
    (ad_check_amount : PySem.W.nsIn K mainGlobals "check_amount" = some (some (.ref f35)))
    (l35 : K.lookup f35 = some ⟨oc35, od35, .func (PySem.W.fnOf "check_amount" "check_amount" (defArgs (top 21)) (defBody (top 21)) (defScope (top 21)) .none kV35 dc35 pm35 an35 cd35 ct35), sl35⟩)
    (c35 : PySem.W.codeIn K cd35 "check_amount" = true)
    (k35 : PySem.W.keepIn K (.ref f35) = true)
    (ad_spread : PySem.W.nsIn K mainGlobals "spread" = some (some (.ref f36)))
    (l36 : K.lookup f36 = some ⟨oc36, od36, .func (PySem.W.fnOf "spread" "spread" (defArgs (top 28)) (defBody (top 28)) (defScope (top 28)) .none kV36 dc36 pm36 an36 cd36 ct36), sl36⟩)
    (c36 : PySem.W.codeIn K cd36 "spread" = true)
    (k36 : PySem.W.keepIn K (.ref f36) = true)
    (ad_reached : PySem.W.nsIn K mainGlobals "reached" = some (some (.ref f37)))
    (l37 : K.lookup f37 = some ⟨oc37, od37, .func (PySem.W.fnOf "reached" "reached" (defArgs (top 29)) (defBody (top 29)) (defScope (top 29)) .none kV37 dc37 pm37 an37 cd37 ct37), sl37⟩)
    (c37 : PySem.W.codeIn K cd37 "reached" = true)
    (k37 : PySem.W.keepIn K (.ref f37) = true)
    (ad_measured : PySem.W.nsIn K mainGlobals "measured" = some (some (.ref f38)))
    (l38 : K.lookup f38 = some ⟨oc38, od38, .func (PySem.W.fnOf "measured" "measured" (defArgs (top 30)) (defBody (top 30)) (defScope (top 30)) .none kV38 dc38 pm38 an38 cd38 ct38), sl38⟩)
    (c38 : PySem.W.codeIn K cd38 "measured" = true)
    (k38 : PySem.W.keepIn K (.ref f38) = true)
    (ad_tied : PySem.W.nsIn K mainGlobals "tied" = some (some (.ref f39)))
    (l39 : K.lookup f39 = some ⟨oc39, od39, .func (PySem.W.fnOf "tied" "tied" (defArgs (top 31)) (defBody (top 31)) (defScope (top 31)) .none kV39 dc39 pm39 an39 cd39 ct39), sl39⟩)
    (c39 : PySem.W.codeIn K cd39 "tied" = true)
    (k39 : PySem.W.keepIn K (.ref f39) = true)
    (ad_way_to : PySem.W.nsIn K mainGlobals "way_to" = some (some (.ref f40)))
    (l40 : K.lookup f40 = some ⟨oc40, od40, .func (PySem.W.fnOf "way_to" "way_to" (defArgs (top 36)) (defBody (top 36)) (defScope (top 36)) .none kV40 dc40 pm40 an40 cd40 ct40), sl40⟩)
    (c40 : PySem.W.codeIn K cd40 "way_to" = true)
    (k40 : PySem.W.keepIn K (.ref f40) = true)
    (ad_fewest : PySem.W.nsIn K mainGlobals "fewest" = some (some (.ref f41)))
    (l41 : K.lookup f41 = some ⟨oc41, od41, .func (PySem.W.fnOf "fewest" "fewest" (defArgs (top 37)) (defBody (top 37)) (defScope (top 37)) .none kV41 dc41 pm41 an41 cd41 ct41), sl41⟩)
    (c41 : PySem.W.codeIn K cd41 "fewest" = true)
    (k41 : PySem.W.keepIn K (.ref f41) = true)
    (ad_move_text : PySem.W.nsIn K mainGlobals "move_text" = some (some (.ref f42)))
    (l42 : K.lookup f42 = some ⟨oc42, od42, .func (PySem.W.fnOf "move_text" "move_text" (defArgs (top 43)) (defBody (top 43)) (defScope (top 43)) .none kV42 dc42 pm42 an42 cd42 ct42), sl42⟩)
    (c42 : PySem.W.codeIn K cd42 "move_text" = true)
    (k42 : PySem.W.keepIn K (.ref f42) = true)
    (ad_routine_text : PySem.W.nsIn K mainGlobals "routine_text" = some (some (.ref f43)))
    (l43 : K.lookup f43 = some ⟨oc43, od43, .func (PySem.W.fnOf "routine_text" "routine_text" (defArgs (top 44)) (defBody (top 44)) (defScope (top 44)) .none kV43 dc43 pm43 an43 cd43 ct43), sl43⟩)
    (c43 : PySem.W.codeIn K cd43 "routine_text" = true)
    (k43 : PySem.W.keepIn K (.ref f43) = true)
    (ad__law_cell_at : PySem.W.nsIn K mainGlobals "_law_cell_at" = some (some (.ref f44)))
    (l44 : K.lookup f44 = some ⟨oc44, od44, .func (PySem.W.fnOf "_law_cell_at" "_law_cell_at" (defArgs (top 46)) (defBody (top 46)) (defScope (top 46)) .none kV44 dc44 pm44 an44 cd44 ct44), sl44⟩)
    (c44 : PySem.W.codeIn K cd44 "_law_cell_at" = true)
    (k44 : PySem.W.keepIn K (.ref f44) = true)
    (ad__law_kinds : PySem.W.nsIn K mainGlobals "_law_kinds" = some (some (.ref f45)))
    (l45 : K.lookup f45 = some ⟨oc45, od45, .func (PySem.W.fnOf "_law_kinds" "_law_kinds" (defArgs (top 47)) (defBody (top 47)) (defScope (top 47)) .none kV45 dc45 pm45 an45 cd45 ct45), sl45⟩)
    (c45 : PySem.W.codeIn K cd45 "_law_kinds" = true)
    (k45 : PySem.W.keepIn K (.ref f45) = true)
    (ad__law_told : PySem.W.nsIn K mainGlobals "_law_told" = some (some (.ref f46)))
    (l46 : K.lookup f46 = some ⟨oc46, od46, .func (PySem.W.fnOf "_law_told" "_law_told" (defArgs (top 48)) (defBody (top 48)) (defScope (top 48)) .none kV46 dc46 pm46 an46 cd46 ct46), sl46⟩)
    (c46 : PySem.W.codeIn K cd46 "_law_told" = true)
    (k46 : PySem.W.keepIn K (.ref f46) = true)
    (ad__law_house : PySem.W.nsIn K mainGlobals "_law_house" = some (some (.ref f47)))
    (l47 : K.lookup f47 = some ⟨oc47, od47, .func (PySem.W.fnOf "_law_house" "_law_house" (defArgs (top 49)) (defBody (top 49)) (defScope (top 49)) .none kV47 dc47 pm47 an47 cd47 ct47), sl47⟩)
    (c47 : PySem.W.codeIn K cd47 "_law_house" = true)
    (k47 : PySem.W.keepIn K (.ref f47) = true)
    (ad__law_with_state : PySem.W.nsIn K mainGlobals "_law_with_state" = some (some (.ref f48)))
    (l48 : K.lookup f48 = some ⟨oc48, od48, .func (PySem.W.fnOf "_law_with_state" "_law_with_state" (defArgs (top 50)) (defBody (top 50)) (defScope (top 50)) .none kV48 dc48 pm48 an48 cd48 ct48), sl48⟩)
    (c48 : PySem.W.codeIn K cd48 "_law_with_state" = true)
    (k48 : PySem.W.keepIn K (.ref f48) = true)
    (ad__law_with_move : PySem.W.nsIn K mainGlobals "_law_with_move" = some (some (.ref f49)))
    (l49 : K.lookup f49 = some ⟨oc49, od49, .func (PySem.W.fnOf "_law_with_move" "_law_with_move" (defArgs (top 51)) (defBody (top 51)) (defScope (top 51)) .none kV49 dc49 pm49 an49 cd49 ct49), sl49⟩)
    (c49 : PySem.W.codeIn K cd49 "_law_with_move" = true)
    (k49 : PySem.W.keepIn K (.ref f49) = true)
    (ad__law_unfit : PySem.W.nsIn K mainGlobals "_law_unfit" = some (some (.ref f50)))
    (l50 : K.lookup f50 = some ⟨oc50, od50, .func (PySem.W.fnOf "_law_unfit" "_law_unfit" (defArgs (top 52)) (defBody (top 52)) (defScope (top 52)) .none kV50 dc50 pm50 an50 cd50 ct50), sl50⟩)
    (c50 : PySem.W.codeIn K cd50 "_law_unfit" = true)
    (k50 : PySem.W.keepIn K (.ref f50) = true)
    (ad__law_with_goal : PySem.W.nsIn K mainGlobals "_law_with_goal" = some (some (.ref f51)))
    (l51 : K.lookup f51 = some ⟨oc51, od51, .func (PySem.W.fnOf "_law_with_goal" "_law_with_goal" (defArgs (top 53)) (defBody (top 53)) (defScope (top 53)) .none kV51 dc51 pm51 an51 cd51 ct51), sl51⟩)
    (c51 : PySem.W.codeIn K cd51 "_law_with_goal" = true)
    (k51 : PySem.W.keepIn K (.ref f51) = true)
    (ad__law_goal_unfit : PySem.W.nsIn K mainGlobals "_law_goal_unfit" = some (some (.ref f52)))
    (l52 : K.lookup f52 = some ⟨oc52, od52, .func (PySem.W.fnOf "_law_goal_unfit" "_law_goal_unfit" (defArgs (top 54)) (defBody (top 54)) (defScope (top 54)) .none kV52 dc52 pm52 an52 cd52 ct52), sl52⟩)
    (c52 : PySem.W.codeIn K cd52 "_law_goal_unfit" = true)
    (k52 : PySem.W.keepIn K (.ref f52) = true)
    (ad__law_all : PySem.W.nsIn K mainGlobals "_law_all" = some (some (.ref f53)))
    (l53 : K.lookup f53 = some ⟨oc53, od53, .func (PySem.W.fnOf "_law_all" "_law_all" (defArgs (top 55)) (defBody (top 55)) (defScope (top 55)) .none kV53 dc53 pm53 an53 cd53 ct53), sl53⟩)
    (c53 : PySem.W.codeIn K cd53 "_law_all" = true)
    (k53 : PySem.W.keepIn K (.ref f53) = true)
    (ad__law_goals_right : PySem.W.nsIn K mainGlobals "_law_goals_right" = some (some (.ref f54)))
    (l54 : K.lookup f54 = some ⟨oc54, od54, .func (PySem.W.fnOf "_law_goals_right" "_law_goals_right" (defArgs (top 56)) (defBody (top 56)) (defScope (top 56)) .none kV54 dc54 pm54 an54 (.ref cA54) ct54), sl54⟩)
    (c54 : PySem.W.codeIn K (.ref cA54) "_law_goals_right" = true)
    (lc54 : K.lookup cA54 = some ⟨ec54, dd54, .fields vs54, sq54⟩)
    (lp54 : vs54[11]? = some (.ref Pt54))
    (na54 : Pt54 ∉ as)
    (k54 : PySem.W.keepIn K (.ref f54) = true)
    (ad__law_good : PySem.W.nsIn K mainGlobals "_law_good" = some (some (.ref f55)))
    (l55 : K.lookup f55 = some ⟨oc55, od55, .func (PySem.W.fnOf "_law_good" "_law_good" (defArgs (top 57)) (defBody (top 57)) (defScope (top 57)) .none kV55 dc55 pm55 an55 cd55 ct55), sl55⟩)
    (c55 : PySem.W.codeIn K cd55 "_law_good" = true)
    (k55 : PySem.W.keepIn K (.ref f55) = true)
    (ad_law : PySem.W.nsIn K mainGlobals "law" = some (some (.ref f56)))
    (l56 : K.lookup f56 = some ⟨oc56, od56, .func (PySem.W.fnOf "law" "law" (defArgs (top 58)) (defBody (top 58)) (defScope (top 58)) .none kV56 dc56 pm56 an56 (.ref cA56) ct56), sl56⟩)
    (c56 : PySem.W.codeIn K (.ref cA56) "law" = true)
    (lc56 : K.lookup cA56 = some ⟨ec56, dd56, .fields vs56, sq56⟩)
    (lp56 : vs56[11]? = some (.ref Pt56))
    (na56 : Pt56 ∉ as)
    (k56 : PySem.W.keepIn K (.ref f56) = true)
    (zn_ValueError : PySem.W.nsIn K mainGlobals "ValueError" = some none)
    (zn_all : PySem.W.nsIn K mainGlobals "all" = some none)
    (zn_bool : PySem.W.nsIn K mainGlobals "bool" = some none)
    (zn_int : PySem.W.nsIn K mainGlobals "int" = some none)
    (zn_isinstance : PySem.W.nsIn K mainGlobals "isinstance" = some none)
    (zn_len : PySem.W.nsIn K mainGlobals "len" = some none)
    (zn_list : PySem.W.nsIn K mainGlobals "list" = some none)
    (zn_max : PySem.W.nsIn K mainGlobals "max" = some none)
    (zn_min : PySem.W.nsIn K mainGlobals "min" = some none)
    (zn_range : PySem.W.nsIn K mainGlobals "range" = some none)
    (zn_sorted : PySem.W.nsIn K mainGlobals "sorted" = some none)
    (zn_sum : PySem.W.nsIn K mainGlobals "sum" = some none)
    (zn_tuple : PySem.W.nsIn K mainGlobals "tuple" = some none)
    (npp : Pt56 ≠ Pt54)
    : LamX.LawAtS l w K (CXJ l.prog w) 13 63 "_law_script" mg fa h := by
  cases hfa.symm.trans (PySem.W.mg_of X G ad_law)
  have F0 := fun_mk (st := inClass (top 13) 0) l0 c0 k0
  have b0 := F0.binds (ps := ["self", "one", "other"]) fun _ _ _ _ _ _ us hl => match us, hl with | [_, _, _], _ => rfl
  have F1 := fun_mk (st := inClass (top 13) 1) l1 c1 k1
  have b1 := F1.binds (ps := ["self", "sizes", "tap"]) fun _ _ _ _ _ _ us hl => match us, hl with | [_, _, _], _ => rfl
  have F2 := fun_mk (st := inClass (top 13) 2) l2 c2 k2
  have b2 := F2.binds (ps := ["self", "sizes", "state"]) fun _ _ _ _ _ _ us hl => match us, hl with | [_, _, _], _ => rfl
  have F3 := fun_mk (st := inClass (top 11) 2) l3 c3 k3
  have b3 := F3.binds (ps := ["self", "house", "state"]) fun _ _ _ _ _ _ us hl => match us, hl with | [_, _, _], _ => rfl
  have F4 := fun_mk (st := inClass (top 14) 0) l4 c4 k4
  have b4 := F4.binds (ps := ["self", "jug"]) fun _ _ _ _ _ _ us hl => match us, hl with | [_, _], _ => rfl
  have F5 := fun_mk (st := inClass (top 14) 1) l5 c5 k5
  have b5 := F5.binds (ps := ["self", "sizes", "tap"]) fun _ _ _ _ _ _ us hl => match us, hl with | [_, _, _], _ => rfl
  have F6 := fun_mk (st := inClass (top 14) 2) l6 c6 k6
  have b6 := F6.binds (ps := ["self", "sizes", "state"]) fun _ _ _ _ _ _ us hl => match us, hl with | [_, _, _], _ => rfl
  have F7 := fun_mk (st := inClass (top 15) 0) l7 c7 k7
  have b7 := F7.binds (ps := ["self", "jug"]) fun _ _ _ _ _ _ us hl => match us, hl with | [_, _], _ => rfl
  have F8 := fun_mk (st := inClass (top 15) 1) l8 c8 k8
  have b8 := F8.binds (ps := ["self", "sizes", "tap"]) fun _ _ _ _ _ _ us hl => match us, hl with | [_, _, _], _ => rfl
  have F9 := fun_mk (st := inClass (top 15) 2) l9 c9 k9
  have b9 := F9.binds (ps := ["self", "sizes", "state"]) fun _ _ _ _ _ _ us hl => match us, hl with | [_, _, _], _ => rfl
  have F10 := fun_mk (st := inClass (top 23) 0) l10 c10 k10
  have b10 := F10.binds (ps := ["self", "jug", "many"]) fun _ _ _ _ _ _ us hl => match us, hl with | [_, _, _], _ => rfl
  have F11 := fun_mk (st := inClass (top 23) 1) l11 c11 k11
  have b11 := F11.binds (ps := ["self", "house"]) fun _ _ _ _ _ _ us hl => match us, hl with | [_, _], _ => rfl
  have F12 := fun_mk (st := inClass (top 23) 2) l12 c12 k12
  have b12 := F12.binds (ps := ["self", "state"]) fun _ _ _ _ _ _ us hl => match us, hl with | [_, _], _ => rfl
  have F13 := fun_mk (st := inClass (top 22) 2) l13 c13 k13
  have b13 := F13.binds (ps := ["self", "house", "state"]) fun _ _ _ _ _ _ us hl => match us, hl with | [_, _, _], _ => rfl
  have F14 := fun_mk (st := inClass (top 24) 0) l14 c14 k14
  have b14 := F14.binds (ps := ["self", "many"]) fun _ _ _ _ _ _ us hl => match us, hl with | [_, _], _ => rfl
  have F15 := fun_mk (st := inClass (top 24) 1) l15 c15 k15
  have b15 := F15.binds (ps := ["self", "house"]) fun _ _ _ _ _ _ us hl => match us, hl with | [_, _], _ => rfl
  have F16 := fun_mk (st := inClass (top 24) 2) l16 c16 k16
  have b16 := F16.binds (ps := ["self", "state"]) fun _ _ _ _ _ _ us hl => match us, hl with | [_, _], _ => rfl
  have F17 := fun_mk (st := inClass (top 25) 0) l17 c17 k17
  have b17 := F17.binds (ps := ["self", "jugs", "many"]) fun _ _ _ _ _ _ us hl => match us, hl with | [_, _, _], _ => rfl
  have F18 := fun_mk (st := inClass (top 25) 1) l18 c18 k18
  have b18 := F18.binds (ps := ["self", "house"]) fun _ _ _ _ _ _ us hl => match us, hl with | [_, _], _ => rfl
  have F19 := fun_mk (st := inClass (top 25) 2) l19 c19 k19
  have b19 := F19.binds (ps := ["self", "state"]) fun _ _ _ _ _ _ us hl => match us, hl with | [_, _], _ => rfl
  have F20 := fun_mk (st := inClass (top 26) 0) l20 c20 k20
  have b20 := F20.binds (ps := ["self", "state"]) fun _ _ _ _ _ _ us hl => match us, hl with | [_, _], _ => rfl
  have F21 := fun_mk (st := inClass (top 26) 1) l21 c21 k21
  have b21 := F21.binds (ps := ["self", "house"]) fun _ _ _ _ _ _ us hl => match us, hl with | [_, _], _ => rfl
  have F22 := fun_mk (st := inClass (top 26) 2) l22 c22 k22
  have b22 := F22.binds (ps := ["self", "state"]) fun _ _ _ _ _ _ us hl => match us, hl with | [_, _], _ => rfl
  have F23 := fun_mk (st := inClass (top 34) 0) l23 c23 k23
  have b23 := F23.binds (ps := ["self", "pours", "heights"]) fun _ _ _ _ _ _ us hl => match us, hl with | [_, _, _], _ => rfl
  have F24 := fun_mk (st := inClass (top 35) 0) l24 c24 k24
  have b24 := F24.binds (ps := ["self", "among"]) fun _ _ _ _ _ _ us hl => match us, hl with | [_, _], _ => rfl
  have F25 := fun_mk (st := inClass (top 41) 0) l25 c25 k25
  have b25 := F25.binds (ps := ["self", "sizes", "tap"]) fun _ _ _ _ _ _ us hl => match us, hl with | [_, _, _], _ => rfl
  have F26 := fun_mk (st := inClass (top 41) 1) l26 c26 k26
  have b26 := F26.binds (ps := ["self"]) fun _ _ _ _ _ _ us hl => match us, hl with | [_], _ => rfl
  have F27 := fun_mk (st := inClass (top 41) 2) l27 c27 k27
  have b27 := F27.binds (ps := ["self", "state"]) fun _ _ _ _ _ _ us hl => match us, hl with | [_, _], _ => rfl
  have F28 := fun_mk (st := inClass (top 41) 3) l28 c28 k28
  have b28 := F28.binds (ps := ["self"]) fun _ _ _ _ _ _ us hl => match us, hl with | [_], _ => rfl
  have F29 := fun_mk (st := inClass (top 41) 4) l29 c29 k29
  have b29 := F29.binds (ps := ["self"]) fun _ _ _ _ _ _ us hl => match us, hl with | [_], _ => rfl
  have F30 := fun_mk (st := top 9) l30 c30 k30
  have b30 := F30.binds (ps := ["number", "low", "high"]) fun _ _ _ _ _ _ us hl => match us, hl with | [_, _, _], _ => rfl
  have F31 := fun_mk (st := top 10) l31 c31 k31
  have b31 := F31.binds (ps := ["jug"]) fun _ _ _ _ _ _ us hl => match us, hl with | [_], _ => rfl
  have F32 := fun_mk (st := top 12) l32 c32 k32
  have b32 := F32.binds (ps := ["state", "jug", "many"]) fun _ _ _ _ _ _ us hl => match us, hl with | [_, _, _], _ => rfl
  have F33 := fun_mk (st := top 16) l33 c33 k33
  have b33 := F33.binds (ps := ["moves"]) fun _ _ _ _ _ _ us hl => match us, hl with | [_], _ => rfl
  have F34 := fun_mk (st := top 17) l34 c34 k34
  have b34 := F34.binds (ps := ["moves", "house", "state"]) fun _ _ _ _ _ _ us hl => match us, hl with | [_, _, _], _ => rfl
  have F35 := fun_mk (st := top 21) l35 c35 k35
  have b35 := F35.binds (ps := ["many"]) fun _ _ _ _ _ _ us hl => match us, hl with | [_], _ => rfl
  have F36 := fun_mk (st := top 28) l36 c36 k36
  have b36 := F36.binds (ps := ["house", "state"]) fun _ _ _ _ _ _ us hl => match us, hl with | [_, _], _ => rfl
  have F37 := fun_mk (st := top 29) l37 c37 k37
  have b37 := F37.binds (ps := ["house", "state"]) fun _ _ _ _ _ _ us hl => match us, hl with | [_, _], _ => rfl
  have F38 := fun_mk (st := top 30) l38 c38 k38
  have b38 := F38.binds (ps := ["house", "state"]) fun _ _ _ _ _ _ us hl => match us, hl with | [_, _], _ => rfl
  have F39 := fun_mk (st := top 31) l39 c39 k39
  have b39 := F39.binds (ps := ["house", "one", "other"]) fun _ _ _ _ _ _ us hl => match us, hl with | [_, _, _], _ => rfl
  have F40 := fun_mk (st := top 36) l40 c40 k40
  have b40 := F40.binds (ps := ["ahead", "state"]) fun _ _ _ _ _ _ us hl => match us, hl with | [_, _], _ => rfl
  have F41 := fun_mk (st := top 37) l41 c41 k41
  have b41 := F41.binds (ps := ["house", "state", "goal"]) fun _ _ _ _ _ _ us hl => match us, hl with | [_, _, _], _ => rfl
  have F42 := fun_mk (st := top 43) l42 c42 k42
  have b42 := F42.binds (ps := ["move"]) fun _ _ _ _ _ _ us hl => match us, hl with | [_], _ => rfl
  have F43 := fun_mk (st := top 44) l43 c43 k43
  have b43 := F43.binds (ps := ["moves"]) fun _ _ _ _ _ _ us hl => match us, hl with | [_], _ => rfl
  have F44 := fun_mk (st := top 46) l44 c44 k44
  have b44 := F44.binds (ps := ["_law_script", "_law_k"]) fun _ _ _ _ _ _ us hl => match us, hl with | [_, _], _ => rfl
  have F45 := fun_mk (st := top 47) l45 c45 k45
  have b45 := F45.binds (ps := ["_law_error"]) fun _ _ _ _ _ _ us hl => match us, hl with | [_], _ => rfl
  have F46 := fun_mk (st := top 48) l46 c46 k46
  have b46 := F46.binds (ps := ["_law_ask", "_law_one", "_law_other"]) fun _ _ _ _ _ _ us hl => match us, hl with | [_, _, _], _ => rfl
  have F47 := fun_mk (st := top 49) l47 c47 k47
  have b47 := F47.binds (ps := ["_law_door", "_law_bad"]) fun _ _ _ _ _ _ us hl => match us, hl with | [_, _], _ => rfl
  have F48 := fun_mk (st := top 50) l48 c48 k48
  have b48 := F48.binds (ps := ["_law_door", "_law_bad"]) fun _ _ _ _ _ _ us hl => match us, hl with | [_, _], _ => rfl
  have F49 := fun_mk (st := top 51) l49 c49 k49
  have b49 := F49.binds (ps := ["_law_door", "_law_bad"]) fun _ _ _ _ _ _ us hl => match us, hl with | [_, _], _ => rfl
  have F50 := fun_mk (st := top 52) l50 c50 k50
  have b50 := F50.binds (ps := ["_law_door", "_law_way"]) fun _ _ _ _ _ _ us hl => match us, hl with | [_, _], _ => rfl
  have F51 := fun_mk (st := top 53) l51 c51 k51
  have b51 := F51.binds (ps := ["_law_door", "_law_bad"]) fun _ _ _ _ _ _ us hl => match us, hl with | [_, _], _ => rfl
  have F52 := fun_mk (st := top 54) l52 c52 k52
  have b52 := F52.binds (ps := ["_law_door", "_law_way"]) fun _ _ _ _ _ _ us hl => match us, hl with | [_, _], _ => rfl
  have F53 := fun_mk (st := top 55) l53 c53 k53
  have b53 := F53.binds (ps := ["_law_ask", "_law_doors", "_law_things", "_law_due"]) fun _ _ _ _ _ _ us hl => match us, hl with | [_, _, _, _], _ => rfl
  have F54 := fun_mk (st := top 56) l54 c54 k54
  have b54 := F54.binds (ps := ["_law_far", "_law_due"]) fun _ _ _ _ _ _ us hl => match us, hl with | [_, _], _ => rfl
  have F55 := fun_mk (st := top 57) l55 c55 k55
  have b55 := F55.binds (ps := []) fun _ _ _ _ _ _ us hl => match us, hl with | [], _ => rfl
  have F56 := fun_mk (st := top 58) l56 c56 k56
  have b56 := F56.binds (ps := ["_law_script"]) fun _ _ _ _ _ _ us hl => match us, hl with | [_], _ => rfl
  have T : Top K mg ⟨c_Move, c_Pour, c_Fill, c_Empty, c_Goal, c_Holds, c_Some, c_Sum, c_Whole, 0, c_Poured, c_Barred, c_House, c_JugError, c_BadHouse, c_BadState, c_BadMove, c_BadGoal, c_BadText, f52, f47, f50, f51, f49, f48⟩ := {
    k_Move := ⟨_, PySem.W.mg_of X G ac_Move, rfl⟩
    ik_Pour := ⟨⟨pg_Pour, hd_Pour, po_Pour, sa_Pour⟩, ha_Pour, hn, tk, hm_Pour⟩
    f_Pour_one := ⟨⟨pg_Pour, hd_Pour, po_Pour, sa_Pour⟩, nf_Pour_one⟩
    f_Pour_other := ⟨⟨pg_Pour, hd_Pour, po_Pour, sa_Pour⟩, nf_Pour_other⟩
    i_Pour := ⟨_, _, F0, ⟨mk_Pour, ai_Pour, ji_Pour, kc_Pour⟩, PySem.W.mg_of X G ac_Pour, b0⟩
    m_Pour_fits := ⟨_, _, F1, ⟨pg_Pour, hd_Pour, po_Pour, sa_Pour⟩, ⟨am_Pour_fits, jm_Pour_fits, k1⟩, b1⟩
    m_Pour_behind := ⟨_, _, F2, ⟨pg_Pour, hd_Pour, po_Pour, sa_Pour⟩, ⟨am_Pour_behind, jm_Pour_behind, k2⟩, b2⟩
    m_Pour_done := ⟨_, _, F3, ⟨pg_Pour, hd_Pour, po_Pour, sa_Pour⟩, ⟨am_Pour_done, jm_Pour_done, k3⟩, b3⟩
    is_Pour_Move := is_Pour_Move
    ik_Fill := ⟨⟨pg_Fill, hd_Fill, po_Fill, sa_Fill⟩, ha_Fill, hn, tk, hm_Fill⟩
    f_Fill_jug := ⟨⟨pg_Fill, hd_Fill, po_Fill, sa_Fill⟩, nf_Fill_jug⟩
    i_Fill := ⟨_, _, F4, ⟨mk_Fill, ai_Fill, ji_Fill, kc_Fill⟩, PySem.W.mg_of X G ac_Fill, b4⟩
    m_Fill_fits := ⟨_, _, F5, ⟨pg_Fill, hd_Fill, po_Fill, sa_Fill⟩, ⟨am_Fill_fits, jm_Fill_fits, k5⟩, b5⟩
    m_Fill_behind := ⟨_, _, F6, ⟨pg_Fill, hd_Fill, po_Fill, sa_Fill⟩, ⟨am_Fill_behind, jm_Fill_behind, k6⟩, b6⟩
    m_Fill_done := ⟨_, _, F3, ⟨pg_Fill, hd_Fill, po_Fill, sa_Fill⟩, ⟨am_Fill_done, jm_Fill_done, k3⟩, b3⟩
    is_Fill_Move := is_Fill_Move
    ik_Empty := ⟨⟨pg_Empty, hd_Empty, po_Empty, sa_Empty⟩, ha_Empty, hn, tk, hm_Empty⟩
    f_Empty_jug := ⟨⟨pg_Empty, hd_Empty, po_Empty, sa_Empty⟩, nf_Empty_jug⟩
    i_Empty := ⟨_, _, F7, ⟨mk_Empty, ai_Empty, ji_Empty, kc_Empty⟩, PySem.W.mg_of X G ac_Empty, b7⟩
    m_Empty_fits := ⟨_, _, F8, ⟨pg_Empty, hd_Empty, po_Empty, sa_Empty⟩, ⟨am_Empty_fits, jm_Empty_fits, k8⟩, b8⟩
    m_Empty_behind := ⟨_, _, F9, ⟨pg_Empty, hd_Empty, po_Empty, sa_Empty⟩, ⟨am_Empty_behind, jm_Empty_behind, k9⟩, b9⟩
    m_Empty_done := ⟨_, _, F3, ⟨pg_Empty, hd_Empty, po_Empty, sa_Empty⟩, ⟨am_Empty_done, jm_Empty_done, k3⟩, b3⟩
    is_Empty_Move := is_Empty_Move
    k_Goal := ⟨_, PySem.W.mg_of X G ac_Goal, rfl⟩
    ik_Holds := ⟨⟨pg_Holds, hd_Holds, po_Holds, sa_Holds⟩, ha_Holds, hn, tk, hm_Holds⟩
    f_Holds_jug := ⟨⟨pg_Holds, hd_Holds, po_Holds, sa_Holds⟩, nf_Holds_jug⟩
    f_Holds_many := ⟨⟨pg_Holds, hd_Holds, po_Holds, sa_Holds⟩, nf_Holds_many⟩
    i_Holds := ⟨_, _, F10, ⟨mk_Holds, ai_Holds, ji_Holds, kc_Holds⟩, PySem.W.mg_of X G ac_Holds, b10⟩
    m_Holds_fits := ⟨_, _, F11, ⟨pg_Holds, hd_Holds, po_Holds, sa_Holds⟩, ⟨am_Holds_fits, jm_Holds_fits, k11⟩, b11⟩
    m_Holds_met := ⟨_, _, F12, ⟨pg_Holds, hd_Holds, po_Holds, sa_Holds⟩, ⟨am_Holds_met, jm_Holds_met, k12⟩, b12⟩
    m_Holds_come := ⟨_, _, F13, ⟨pg_Holds, hd_Holds, po_Holds, sa_Holds⟩, ⟨am_Holds_come, jm_Holds_come, k13⟩, b13⟩
    is_Holds_Goal := is_Holds_Goal
    ik_Some := ⟨⟨pg_Some, hd_Some, po_Some, sa_Some⟩, ha_Some, hn, tk, hm_Some⟩
    f_Some_many := ⟨⟨pg_Some, hd_Some, po_Some, sa_Some⟩, nf_Some_many⟩
    i_Some := ⟨_, _, F14, ⟨mk_Some, ai_Some, ji_Some, kc_Some⟩, PySem.W.mg_of X G ac_Some, b14⟩
    m_Some_fits := ⟨_, _, F15, ⟨pg_Some, hd_Some, po_Some, sa_Some⟩, ⟨am_Some_fits, jm_Some_fits, k15⟩, b15⟩
    m_Some_met := ⟨_, _, F16, ⟨pg_Some, hd_Some, po_Some, sa_Some⟩, ⟨am_Some_met, jm_Some_met, k16⟩, b16⟩
    m_Some_come := ⟨_, _, F13, ⟨pg_Some, hd_Some, po_Some, sa_Some⟩, ⟨am_Some_come, jm_Some_come, k13⟩, b13⟩
    is_Some_Goal := is_Some_Goal
    ik_Sum := ⟨⟨pg_Sum, hd_Sum, po_Sum, sa_Sum⟩, ha_Sum, hn, tk, hm_Sum⟩
    f_Sum_jugs := ⟨⟨pg_Sum, hd_Sum, po_Sum, sa_Sum⟩, nf_Sum_jugs⟩
    f_Sum_many := ⟨⟨pg_Sum, hd_Sum, po_Sum, sa_Sum⟩, nf_Sum_many⟩
    i_Sum := ⟨_, _, F17, ⟨mk_Sum, ai_Sum, ji_Sum, kc_Sum⟩, PySem.W.mg_of X G ac_Sum, b17⟩
    m_Sum_fits := ⟨_, _, F18, ⟨pg_Sum, hd_Sum, po_Sum, sa_Sum⟩, ⟨am_Sum_fits, jm_Sum_fits, k18⟩, b18⟩
    m_Sum_met := ⟨_, _, F19, ⟨pg_Sum, hd_Sum, po_Sum, sa_Sum⟩, ⟨am_Sum_met, jm_Sum_met, k19⟩, b19⟩
    m_Sum_come := ⟨_, _, F13, ⟨pg_Sum, hd_Sum, po_Sum, sa_Sum⟩, ⟨am_Sum_come, jm_Sum_come, k13⟩, b13⟩
    is_Sum_Goal := is_Sum_Goal
    ik_Whole := ⟨⟨pg_Whole, hd_Whole, po_Whole, sa_Whole⟩, ha_Whole, hn, tk, hm_Whole⟩
    f_Whole_state := ⟨⟨pg_Whole, hd_Whole, po_Whole, sa_Whole⟩, nf_Whole_state⟩
    i_Whole := ⟨_, _, F20, ⟨mk_Whole, ai_Whole, ji_Whole, kc_Whole⟩, PySem.W.mg_of X G ac_Whole, b20⟩
    m_Whole_fits := ⟨_, _, F21, ⟨pg_Whole, hd_Whole, po_Whole, sa_Whole⟩, ⟨am_Whole_fits, jm_Whole_fits, k21⟩, b21⟩
    m_Whole_met := ⟨_, _, F22, ⟨pg_Whole, hd_Whole, po_Whole, sa_Whole⟩, ⟨am_Whole_met, jm_Whole_met, k22⟩, b22⟩
    m_Whole_come := ⟨_, _, F13, ⟨pg_Whole, hd_Whole, po_Whole, sa_Whole⟩, ⟨am_Whole_come, jm_Whole_come, k13⟩, b13⟩
    is_Whole_Goal := is_Whole_Goal
    f_Poured_pours := ⟨⟨pg_Poured, hd_Poured, po_Poured, sa_Poured⟩, nf_Poured_pours⟩
    f_Poured_heights := ⟨⟨pg_Poured, hd_Poured, po_Poured, sa_Poured⟩, nf_Poured_heights⟩
    i_Poured := ⟨_, _, F23, ⟨mk_Poured, ai_Poured, ji_Poured, kc_Poured⟩, PySem.W.mg_of X G ac_Poured, b23⟩
    f_Barred_among := ⟨⟨pg_Barred, hd_Barred, po_Barred, sa_Barred⟩, nf_Barred_among⟩
    i_Barred := ⟨_, _, F24, ⟨mk_Barred, ai_Barred, ji_Barred, kc_Barred⟩, PySem.W.mg_of X G ac_Barred, b24⟩
    f_House_told := ⟨⟨pg_House, hd_House, po_House, sa_House⟩, nf_House_told⟩
    f_House_tap := ⟨⟨pg_House, hd_House, po_House, sa_House⟩, nf_House_tap⟩
    i_House := ⟨_, _, F25, ⟨mk_House, ai_House, ji_House, kc_House⟩, PySem.W.mg_of X G ac_House, b25⟩
    m_House_sizes := ⟨_, _, F26, ⟨pg_House, hd_House, po_House, sa_House⟩, ⟨am_House_sizes, jm_House_sizes, k26⟩, b26⟩
    m_House_check := ⟨_, _, F27, ⟨pg_House, hd_House, po_House, sa_House⟩, ⟨am_House_check, jm_House_check, k27⟩, b27⟩
    m_House_moves := ⟨_, _, F28, ⟨pg_House, hd_House, po_House, sa_House⟩, ⟨am_House_moves, jm_House_moves, k28⟩, b28⟩
    m_House_states := ⟨_, _, F29, ⟨pg_House, hd_House, po_House, sa_House⟩, ⟨am_House_states, jm_House_states, k29⟩, b29⟩
    isb_int_Move := isb_int_Move
    isb_int_Goal := isb_int_Goal
    isb_bool_Move := isb_bool_Move
    isb_str_Move := isb_str_Move
    isb_str_Goal := isb_str_Goal
    isb_NoneType_Move := isb_NoneType_Move
    isb_NoneType_Goal := isb_NoneType_Goal
    isb_list_Move := isb_list_Move
    isb_tuple_Goal := isb_tuple_Goal
    x_JugError := ⟨xi_JugError, PySem.W.mg_of X G ax_JugError, xk_JugError, xb_JugError, xt_JugError⟩
    x_BadHouse := ⟨xi_BadHouse, PySem.W.mg_of X G ax_BadHouse, xk_BadHouse, xb_BadHouse, xt_BadHouse⟩
    x_BadState := ⟨xi_BadState, PySem.W.mg_of X G ax_BadState, xk_BadState, xb_BadState, xt_BadState⟩
    x_BadMove := ⟨xi_BadMove, PySem.W.mg_of X G ax_BadMove, xk_BadMove, xb_BadMove, xt_BadMove⟩
    x_BadGoal := ⟨xi_BadGoal, PySem.W.mg_of X G ax_BadGoal, xk_BadGoal, xb_BadGoal, xt_BadGoal⟩
    x_BadText := ⟨xi_BadText, PySem.W.mg_of X G ax_BadText, xk_BadText, xb_BadText, xt_BadText⟩
    ec_BadHouse := ⟨eg_BadHouse, ek_BadHouse, xb_BadHouse, ed_BadHouse, ea_BadHouse, hn, tk, em0_BadHouse⟩
    em_BadHouse_JugError := PySem.W.exm_ref xb_JugError ed_JugError xt_JugError es_BadHouse_JugError
    isx_BadHouse_BadHouse := isx_BadHouse_BadHouse
    isx_BadHouse_BadState := isx_BadHouse_BadState
    isx_BadHouse_BadMove := isx_BadHouse_BadMove
    isx_BadHouse_BadGoal := isx_BadHouse_BadGoal
    isx_BadHouse_BadText := isx_BadHouse_BadText
    isxv_BadHouse := isxv_BadHouse
    ec_BadState := ⟨eg_BadState, ek_BadState, xb_BadState, ed_BadState, ea_BadState, hn, tk, em0_BadState⟩
    em_BadState_JugError := PySem.W.exm_ref xb_JugError ed_JugError xt_JugError es_BadState_JugError
    isx_BadState_BadHouse := isx_BadState_BadHouse
    isx_BadState_BadState := isx_BadState_BadState
    isx_BadState_BadMove := isx_BadState_BadMove
    isx_BadState_BadGoal := isx_BadState_BadGoal
    isx_BadState_BadText := isx_BadState_BadText
    isxv_BadState := isxv_BadState
    ec_BadMove := ⟨eg_BadMove, ek_BadMove, xb_BadMove, ed_BadMove, ea_BadMove, hn, tk, em0_BadMove⟩
    em_BadMove_JugError := PySem.W.exm_ref xb_JugError ed_JugError xt_JugError es_BadMove_JugError
    isx_BadMove_BadHouse := isx_BadMove_BadHouse
    isx_BadMove_BadState := isx_BadMove_BadState
    isx_BadMove_BadMove := isx_BadMove_BadMove
    isx_BadMove_BadGoal := isx_BadMove_BadGoal
    isx_BadMove_BadText := isx_BadMove_BadText
    isxv_BadMove := isxv_BadMove
    ec_BadGoal := ⟨eg_BadGoal, ek_BadGoal, xb_BadGoal, ed_BadGoal, ea_BadGoal, hn, tk, em0_BadGoal⟩
    em_BadGoal_JugError := PySem.W.exm_ref xb_JugError ed_JugError xt_JugError es_BadGoal_JugError
    isx_BadGoal_BadHouse := isx_BadGoal_BadHouse
    isx_BadGoal_BadState := isx_BadGoal_BadState
    isx_BadGoal_BadMove := isx_BadGoal_BadMove
    isx_BadGoal_BadGoal := isx_BadGoal_BadGoal
    isx_BadGoal_BadText := isx_BadGoal_BadText
    isxv_BadGoal := isxv_BadGoal
    g_MOST_JUGS := ⟨_, PySem.W.mg_of X G ag_MOST_JUGS, rg_MOST_JUGS⟩
    g_GREATEST_goals := ⟨_, PySem.W.mg_of X G ag_GREATEST_goals, rg_GREATEST_goals⟩
    g_MOST := ⟨_, PySem.W.mg_of X G ag_MOST, rg_MOST⟩
    g_GREATEST_houses := ⟨_, PySem.W.mg_of X G ag_GREATEST_houses, rg_GREATEST_houses⟩
    g_MOST_STATES := ⟨_, PySem.W.mg_of X G ag_MOST_STATES, rg_MOST_STATES⟩
    d_within := ⟨_, _, F30, PySem.W.mg_of X G ad_within, b30⟩
    d_check_jug := ⟨_, _, F31, PySem.W.mg_of X G ad_check_jug, b31⟩
    d_with_amount := ⟨_, _, F32, PySem.W.mg_of X G ad_with_amount, b32⟩
    d_check_moves := ⟨_, _, F33, PySem.W.mg_of X G ad_check_moves, b33⟩
    d_done_all := ⟨_, _, F34, PySem.W.mg_of X G ad_done_all, b34⟩
    d_check_amount := ⟨_, _, F35, PySem.W.mg_of X G ad_check_amount, b35⟩
    d_spread := ⟨_, _, F36, PySem.W.mg_of X G ad_spread, b36⟩
    d_reached := ⟨_, _, F37, PySem.W.mg_of X G ad_reached, b37⟩
    d_measured := ⟨_, _, F38, PySem.W.mg_of X G ad_measured, b38⟩
    d_tied := ⟨_, _, F39, PySem.W.mg_of X G ad_tied, b39⟩
    d_way_to := ⟨_, _, F40, PySem.W.mg_of X G ad_way_to, b40⟩
    d_fewest := ⟨_, _, F41, PySem.W.mg_of X G ad_fewest, b41⟩
    d_move_text := ⟨_, _, F42, PySem.W.mg_of X G ad_move_text, b42⟩
    d_routine_text := ⟨_, _, F43, PySem.W.mg_of X G ad_routine_text, b43⟩
    d__law_cell_at := ⟨_, _, F44, PySem.W.mg_of X G ad__law_cell_at, b44⟩
    d__law_kinds := ⟨_, _, F45, PySem.W.mg_of X G ad__law_kinds, b45⟩
    d__law_told := ⟨_, _, F46, PySem.W.mg_of X G ad__law_told, b46⟩
    d__law_house := ⟨_, _, F47, PySem.W.mg_of X G ad__law_house, b47⟩
    d__law_with_state := ⟨_, _, F48, PySem.W.mg_of X G ad__law_with_state, b48⟩
    d__law_with_move := ⟨_, _, F49, PySem.W.mg_of X G ad__law_with_move, b49⟩
    d__law_unfit := ⟨_, _, F50, PySem.W.mg_of X G ad__law_unfit, b50⟩
    d__law_with_goal := ⟨_, _, F51, PySem.W.mg_of X G ad__law_with_goal, b51⟩
    d__law_goal_unfit := ⟨_, _, F52, PySem.W.mg_of X G ad__law_goal_unfit, b52⟩
    d__law_all := ⟨_, _, F53, PySem.W.mg_of X G ad__law_all, b53⟩
    d__law_goals_right := ⟨_, _, F54, PySem.W.mg_of X G ad__law_goals_right, b54⟩
    d__law_good := ⟨_, _, F55, PySem.W.mg_of X G ad__law_good, b55⟩
    d_law := ⟨_, _, F56, PySem.W.mg_of X G ad_law, b56⟩
    v__law_house := ⟨_, PySem.W.mg_of X G ad__law_house, rfl⟩
    v__law_with_state := ⟨_, PySem.W.mg_of X G ad__law_with_state, rfl⟩
    v__law_with_move := ⟨_, PySem.W.mg_of X G ad__law_with_move, rfl⟩
    v__law_unfit := ⟨_, PySem.W.mg_of X G ad__law_unfit, rfl⟩
    v__law_with_goal := ⟨_, PySem.W.mg_of X G ad__law_with_goal, rfl⟩
    v__law_goal_unfit := ⟨_, PySem.W.mg_of X G ad__law_goal_unfit, rfl⟩
    n_ValueError := PySem.W.mg_none_of X G zn_ValueError
    n_all := PySem.W.mg_none_of X G zn_all
    n_bool := PySem.W.mg_none_of X G zn_bool
    n_int := PySem.W.mg_none_of X G zn_int
    n_isinstance := PySem.W.mg_none_of X G zn_isinstance
    n_len := PySem.W.mg_none_of X G zn_len
    n_list := PySem.W.mg_none_of X G zn_list
    n_max := PySem.W.mg_none_of X G zn_max
    n_min := PySem.W.mg_none_of X G zn_min
    n_range := PySem.W.mg_none_of X G zn_range
    n_sorted := PySem.W.mg_none_of X G zn_sorted
    n_sum := PySem.W.mg_none_of X G zn_sum
    n_tuple := PySem.W.mg_none_of X G zn_tuple
  }
  have a1 := t1.at X (PySem.W.mg_of X G ad_law) l56 rfl lc56 lp56
  have a2 := t2.at X (PySem.W.mg_of X G ad__law_goals_right) l54 rfl lc54 lp54
  have m1 : (Pt56, q_law) ∈ [(Pt56, q_law), (Pt54, q__law_goals_right)] := List.mem_cons_self
  have m2 : (Pt54, q__law_goals_right) ∈ [(Pt56, q_law), (Pt54, q__law_goals_right)] := List.mem_cons_of_mem _ List.mem_cons_self
  have u1 : ∀ p ∈ [(Pt56, q_law), (Pt54, q__law_goals_right)], p.1 = Pt56 → p.2 = q_law := by
    intro p hp he
    rcases List.mem_cons.mp hp with rfl | hp
    · rfl
    · rw [List.mem_singleton.mp hp] at he
      exact absurd he.symm npp
  have u2 : ∀ p ∈ [(Pt56, q_law), (Pt54, q__law_goals_right)], p.1 = Pt54 → p.2 = q__law_goals_right := by
    intro p hp he
    rcases List.mem_cons.mp hp with rfl | hp
    · exact absurd he npp
    · rw [List.mem_singleton.mp hp]
  have two : ∀ {Z : Addr × Addr → Prop}, Z (cA56, Pt56) → Z (cA54, Pt54) → ∀ p ∈ [(cA56, Pt56), (cA54, Pt54)], Z p := fun {Z} z1 z2 p hp => by
    rcases List.mem_cons.mp hp with rfl | hp
    · exact z1
    · rw [List.mem_singleton.mp hp]
      exact z2
  have key : ∀ {fd : FuncData}, Fun K "law" "law" s_law fa fd → fd.code = .ref cA56 → (∀ (s : Shared) (u : Value), BindsTo s fd ⟨[u], []⟩ [("_law_script", u)]) → LamX.LawAtS l w K (CXJ l.prog w) 13 63 "_law_script" mg fa h := fun {fd} FL hcd hbd =>
    ⟨fd, [(cA56, Pt56), (cA54, Pt54)], SpL K [(Pt56, q_law), (Pt54, q__law_goals_right)], two a1.1 a2.1, two (look_none hA na56) (look_none hA na54), two a1.2 a2.2, hbd, fun H a ns _ _ hH hS => by
      have tb : LamX.Tabs [(Pt56, q_law), (Pt54, q__law_goals_right)] H := tabs_start hH fun p hp => by
        rcases List.mem_cons.mp hp with rfl | hp
        · exact ⟨_, List.mem_cons_self⟩
        · rw [List.mem_singleton.mp hp]
          exact ⟨_, List.mem_cons_of_mem _ List.mem_cons_self⟩
      exact ⟨_, ns, ⟨noTab_same, noTab_tt tb⟩, tb, noTab_nf, .cons ⟨a, rfl, seq_noTab tb hS⟩ .nil, fun H' => rfl⟩,
    fun base KB GB TB => ok_law_at T FL hcd (TB (cA56, Pt56) List.mem_cons_self) m1 u1 ⟨_, _, ["_law_far", "_law_due"], ok__law_goals_right_at T F54 rfl (TB (cA54, Pt54) (List.mem_cons_of_mem _ List.mem_cons_self)) m2 u2, PySem.W.mg_of X G ad__law_goals_right, k54, b54⟩⟩
  exact key F56 rfl fun s v => .of_eq rfl
theorem walk {l : PySem.W.OpenLaw} {q : Program} {loose : List Str} {XP : (Str → Option Value) → Heap → Prop} {K : Params → PySem.W.Frag} {as ts : List Addr} {e : ∀ P, as = (K P).map (·.1)} {d : DefRec} (hn : l.most = some 63) (hdf : d.params.defaults = [])
    (h1 : ((recsOf q).any fun e => e.name == d.name) = true) (h2 : ((recsOf q).any fun e => e.name == ("_law_goals_right" : Str)) = true)
    (F : ∀ (w : World) (mg : Str → Option Value) (fa : Addr) (h : Heap), (K w.params).In h → h.Ns mainGlobals mg → mg d.name = some (.ref fa) → TabAt mg h d.name → TabAt mg h "_law_goals_right" → as = (K w.params).map (·.1) → LamX.LawAtS l w (K w.params) (CXJ l.prog w) 13 63 "_law_script" mg fa h) :
    PySem.W.WalkO q loose XP (PySem.W.kmHook K as e ts).says l.row.toRowW d [] (fun f vs => PySem.call f vs) :=
  walk_tabs (n := 63) (k := 13) (x := "_law_script") (CX := fun w => CXJ l.prog w) "_law_goals_right" hn (by decide) hdf ⟨rfl, by decide, by decide⟩ h1 h2 F fun _ _ _ _ _ ⟨_, _, _, _, _, _, _, _, _, _, _, _, z⟩ => z
end
end Jug

open PySem PySem.W PyProof.Rows in
set_option maxRecDepth 100000 in
set_option maxHeartbeats 0 in
theorem PySem.Challenge.cw_jughouse_k08_refused_holds : PySem.Challenge.rw_jughouse_k08_refused.Holds := by
  w_on; o_law; k_head; (case hw => w_witness2)
  k_fill
  refine Jug.walk (l := PySem.Challenge.rw_jughouse_k08_refused) rfl rfl (by decide +kernel) (by decide +kernel) ?F
  case F =>
    intro w mg fa h KX G hmg t1 t2 hA
    refine' Jug.all_mk KX G hmg t1 t2 hA ?ac_Move ?ac_Pour ?ac_Fill ?ac_Empty ?ac_Goal ?ac_Holds ?ac_Some ?ac_Sum ?ac_Whole ?ac_Poured ?ac_Barred ?ac_House ?pg_Pour ?hd_Pour ?po_Pour ?sa_Pour ?pg_Fill ?hd_Fill ?po_Fill ?sa_Fill ?pg_Empty ?hd_Empty ?po_Empty ?sa_Empty ?pg_Holds ?hd_Holds ?po_Holds ?sa_Holds ?pg_Some ?hd_Some ?po_Some ?sa_Some ?pg_Sum ?hd_Sum ?po_Sum ?sa_Sum ?pg_Whole ?hd_Whole ?po_Whole ?sa_Whole ?pg_Poured ?hd_Poured ?po_Poured ?sa_Poured ?pg_Barred ?hd_Barred ?po_Barred ?sa_Barred ?pg_House ?hd_House ?po_House ?sa_House ?ha_Pour ?hm_Pour ?hn ?tk ?nf_Pour_one ?nf_Pour_other ?ai_Pour ?l0 ?c0 ?k0 ?ji_Pour ?mk_Pour ?kc_Pour ?am_Pour_fits ?l1 ?c1 ?k1 ?jm_Pour_fits ?am_Pour_behind ?l2 ?c2 ?k2 ?jm_Pour_behind ?am_Pour_done ?l3 ?c3 ?k3 ?jm_Pour_done ?is_Pour_Move ?ha_Fill ?hm_Fill ?nf_Fill_jug ?ai_Fill ?l4 ?c4 ?k4 ?ji_Fill ?mk_Fill ?kc_Fill ?am_Fill_fits ?l5 ?c5 ?k5 ?jm_Fill_fits ?am_Fill_behind ?l6 ?c6 ?k6 ?jm_Fill_behind ?am_Fill_done ?jm_Fill_done ?is_Fill_Move ?ha_Empty ?hm_Empty ?nf_Empty_jug ?ai_Empty ?l7 ?c7 ?k7 ?ji_Empty ?mk_Empty ?kc_Empty ?am_Empty_fits ?l8 ?c8 ?k8 ?jm_Empty_fits ?am_Empty_behind ?l9 ?c9 ?k9 ?jm_Empty_behind ?am_Empty_done ?jm_Empty_done ?is_Empty_Move ?ha_Holds ?hm_Holds ?nf_Holds_jug ?nf_Holds_many ?ai_Holds ?l10 ?c10 ?k10 ?ji_Holds ?mk_Holds ?kc_Holds ?am_Holds_fits ?l11 ?c11 ?k11 ?jm_Holds_fits ?am_Holds_met ?l12 ?c12 ?k12 ?jm_Holds_met ?am_Holds_come ?l13 ?c13 ?k13 ?jm_Holds_come ?is_Holds_Goal ?ha_Some ?hm_Some ?nf_Some_many ?ai_Some ?l14 ?c14 ?k14 ?ji_Some ?mk_Some ?kc_Some ?am_Some_fits ?l15 ?c15 ?k15 ?jm_Some_fits ?am_Some_met ?l16 ?c16 ?k16 ?jm_Some_met ?am_Some_come ?jm_Some_come ?is_Some_Goal ?ha_Sum ?hm_Sum ?nf_Sum_jugs ?nf_Sum_many ?ai_Sum ?l17 ?c17 ?k17 ?ji_Sum ?mk_Sum ?kc_Sum ?am_Sum_fits ?l18 ?c18 ?k18 ?jm_Sum_fits ?am_Sum_met ?l19 ?c19 ?k19 ?jm_Sum_met ?am_Sum_come ?jm_Sum_come ?is_Sum_Goal ?ha_Whole ?hm_Whole ?nf_Whole_state ?ai_Whole ?l20 ?c20 ?k20 ?ji_Whole ?mk_Whole ?kc_Whole ?am_Whole_fits ?l21 ?c21 ?k21 ?jm_Whole_fits ?am_Whole_met ?l22 ?c22 ?k22 ?jm_Whole_met ?am_Whole_come ?jm_Whole_come ?is_Whole_Goal ?nf_Poured_pours ?nf_Poured_heights ?ai_Poured ?l23 ?c23 ?k23 ?ji_Poured ?mk_Poured ?kc_Poured ?nf_Barred_among ?ai_Barred ?l24 ?c24 ?k24 ?ji_Barred ?mk_Barred ?kc_Barred ?nf_House_told ?nf_House_tap ?ai_House ?l25 ?c25 ?k25 ?ji_House ?mk_House ?kc_House ?am_House_sizes ?l26 ?c26 ?k26 ?jm_House_sizes ?am_House_check ?l27 ?c27 ?k27 ?jm_House_check ?am_House_moves ?l28 ?c28 ?k28 ?jm_House_moves ?am_House_states ?l29 ?c29 ?k29 ?jm_House_states ?isb_int_Move ?isb_int_Goal ?isb_bool_Move ?isb_str_Move ?isb_str_Goal ?isb_NoneType_Move ?isb_NoneType_Goal ?isb_list_Move ?isb_tuple_Goal ?ax_JugError ?xi_JugError ?xk_JugError ?xb_JugError ?xt_JugError ?ax_BadHouse ?xi_BadHouse ?xk_BadHouse ?xb_BadHouse ?xt_BadHouse ?ax_BadState ?xi_BadState ?xk_BadState ?xb_BadState ?xt_BadState ?ax_BadMove ?xi_BadMove ?xk_BadMove ?xb_BadMove ?xt_BadMove ?ax_BadGoal ?xi_BadGoal ?xk_BadGoal ?xb_BadGoal ?xt_BadGoal ?ax_BadText ?xi_BadText ?xk_BadText ?xb_BadText ?xt_BadText ?eg_BadHouse ?ek_BadHouse ?ed_BadHouse ?ea_BadHouse ?em0_BadHouse ?ed_JugError ?es_BadHouse_JugError ?isx_BadHouse_BadHouse ?isx_BadHouse_BadState ?isx_BadHouse_BadMove ?isx_BadHouse_BadGoal ?isx_BadHouse_BadText ?isxv_BadHouse ?eg_BadState ?ek_BadState ?ed_BadState ?ea_BadState ?em0_BadState ?es_BadState_JugError ?isx_BadState_BadHouse ?isx_BadState_BadState ?isx_BadState_BadMove ?isx_BadState_BadGoal ?isx_BadState_BadText ?isxv_BadState ?eg_BadMove ?ek_BadMove ?ed_BadMove ?ea_BadMove ?em0_BadMove ?es_BadMove_JugError ?isx_BadMove_BadHouse ?isx_BadMove_BadState ?isx_BadMove_BadMove ?isx_BadMove_BadGoal ?isx_BadMove_BadText ?isxv_BadMove ?eg_BadGoal ?ek_BadGoal ?ed_BadGoal ?ea_BadGoal ?em0_BadGoal ?es_BadGoal_JugError ?isx_BadGoal_BadHouse ?isx_BadGoal_BadState ?isx_BadGoal_BadMove ?isx_BadGoal_BadGoal ?isx_BadGoal_BadText ?isxv_BadGoal ?ag_MOST_JUGS ?rg_MOST_JUGS ?ag_GREATEST_goals ?rg_GREATEST_goals ?ag_MOST ?rg_MOST ?ag_GREATEST_houses ?rg_GREATEST_houses ?ag_MOST_STATES ?rg_MOST_STATES ?ad_within ?l30 ?c30 ?k30 ?ad_check_jug ?l31 ?c31 ?k31 ?ad_with_amount ?l32 ?c32 ?k32 ?ad_check_moves ?l33 ?c33 ?k33 ?ad_done_all ?l34 ?c34 ?k34 ?ad_check_amount ?l35 ?c35 ?k35 ?ad_spread ?l36 ?c36 ?k36 ?ad_reached ?l37 ?c37 ?k37 ?ad_measured ?l38 ?c38 ?k38 ?ad_tied ?l39 ?c39 ?k39 ?ad_way_to ?l40 ?c40 ?k40 ?ad_fewest ?l41 ?c41 ?k41 ?ad_move_text ?l42 ?c42 ?k42 ?ad_routine_text ?l43 ?c43 ?k43 ?ad__law_cell_at ?l44 ?c44 ?k44 ?ad__law_kinds ?l45 ?c45 ?k45 ?ad__law_told ?l46 ?c46 ?k46 ?ad__law_house ?l47 ?c47 ?k47 ?ad__law_with_state ?l48 ?c48 ?k48 ?ad__law_with_move ?l49 ?c49 ?k49 ?ad__law_unfit ?l50 ?c50 ?k50 ?ad__law_with_goal ?l51 ?c51 ?k51 ?ad__law_goal_unfit ?l52 ?c52 ?k52 ?ad__law_all ?l53 ?c53 ?k53 ?ad__law_goals_right ?l54 ?c54 ?lc54 ?lp54 ?na54 ?k54 ?ad__law_good ?l55 ?c55 ?k55 ?ad_law ?l56 ?c56 ?lc56 ?lp56 ?na56 ?k56 ?zn_ValueError ?zn_all ?zn_bool ?zn_int ?zn_isinstance ?zn_len ?zn_list ?zn_max ?zn_min ?zn_range ?zn_sorted ?zn_sum ?zn_tuple ?npp
    (case ac_Move => k_is)
    (case ac_Pour => k_is)
    (case ac_Fill => k_is)
    (case ac_Empty => k_is)
    (case ac_Goal => k_is)
    (case ac_Holds => k_is)
    (case ac_Some => k_is)
    (case ac_Sum => k_is)
    (case ac_Whole => k_is)
    (case ac_Poured => k_is)
    (case ac_Barred => k_is)
    (case ac_House => k_is)
    (case pg_Pour => k_is)
    (case hd_Pour => k_is)
    (case po_Pour => k_is)
    (case sa_Pour => k_is)
    (case pg_Fill => k_is)
    (case hd_Fill => k_is)
    (case po_Fill => k_is)
    (case sa_Fill => k_is)
    (case pg_Empty => k_is)
    (case hd_Empty => k_is)
    (case po_Empty => k_is)
    (case sa_Empty => k_is)
    (case pg_Holds => k_is)
    (case hd_Holds => k_is)
    (case po_Holds => k_is)
    (case sa_Holds => k_is)
    (case pg_Some => k_is)
    (case hd_Some => k_is)
    (case po_Some => k_is)
    (case sa_Some => k_is)
    (case pg_Sum => k_is)
    (case hd_Sum => k_is)
    (case po_Sum => k_is)
    (case sa_Sum => k_is)
    (case pg_Whole => k_is)
    (case hd_Whole => k_is)
    (case po_Whole => k_is)
    (case sa_Whole => k_is)
    (case pg_Poured => k_is)
    (case hd_Poured => k_is)
    (case po_Poured => k_is)
    (case sa_Poured => k_is)
    (case pg_Barred => k_is)
    (case hd_Barred => k_is)
    (case po_Barred => k_is)
    (case sa_Barred => k_is)
    (case pg_House => k_is)
    (case hd_House => k_is)
    (case po_House => k_is)
    (case sa_House => k_is)
    (case ha_Pour => k_is)
    (case hm_Pour => k_is)
    (case hn => k_is)
    (case tk => k_is)
    (case nf_Pour_one => k_is)
    (case nf_Pour_other => k_is)
    (case ai_Pour => k_is)
    (case l0 => k_is)
    (case c0 => k_is)
    (case k0 => k_is)
    (case ji_Pour => k_is)
    (case mk_Pour => k_is)
    (case kc_Pour => k_is)
    (case am_Pour_fits => k_is)
    (case l1 => k_is)
    (case c1 => k_is)
    (case k1 => k_is)
    (case jm_Pour_fits => k_is)
    (case am_Pour_behind => k_is)
    (case l2 => k_is)
    (case c2 => k_is)
    (case k2 => k_is)
    (case jm_Pour_behind => k_is)
    (case am_Pour_done => k_is)
    (case l3 => k_is)
    (case c3 => k_is)
    (case k3 => k_is)
    (case jm_Pour_done => k_is)
    (case is_Pour_Move => kit_is)
    (case ha_Fill => k_is)
    (case hm_Fill => k_is)
    (case nf_Fill_jug => k_is)
    (case ai_Fill => k_is)
    (case l4 => k_is)
    (case c4 => k_is)
    (case k4 => k_is)
    (case ji_Fill => k_is)
    (case mk_Fill => k_is)
    (case kc_Fill => k_is)
    (case am_Fill_fits => k_is)
    (case l5 => k_is)
    (case c5 => k_is)
    (case k5 => k_is)
    (case jm_Fill_fits => k_is)
    (case am_Fill_behind => k_is)
    (case l6 => k_is)
    (case c6 => k_is)
    (case k6 => k_is)
    (case jm_Fill_behind => k_is)
    (case am_Fill_done => k_is)
    (case jm_Fill_done => k_is)
    (case is_Fill_Move => kit_is)
    (case ha_Empty => k_is)
    (case hm_Empty => k_is)
    (case nf_Empty_jug => k_is)
    (case ai_Empty => k_is)
    (case l7 => k_is)
    (case c7 => k_is)
    (case k7 => k_is)
    (case ji_Empty => k_is)
    (case mk_Empty => k_is)
    (case kc_Empty => k_is)
    (case am_Empty_fits => k_is)
    (case l8 => k_is)
    (case c8 => k_is)
    (case k8 => k_is)
    (case jm_Empty_fits => k_is)
    (case am_Empty_behind => k_is)
    (case l9 => k_is)
    (case c9 => k_is)
    (case k9 => k_is)
    (case jm_Empty_behind => k_is)
    (case am_Empty_done => k_is)
    (case jm_Empty_done => k_is)
    (case is_Empty_Move => kit_is)
    (case ha_Holds => k_is)
    (case hm_Holds => k_is)
    (case nf_Holds_jug => k_is)
    (case nf_Holds_many => k_is)
    (case ai_Holds => k_is)
    (case l10 => k_is)
    (case c10 => k_is)
    (case k10 => k_is)
    (case ji_Holds => k_is)
    (case mk_Holds => k_is)
    (case kc_Holds => k_is)
    (case am_Holds_fits => k_is)
    (case l11 => k_is)
    (case c11 => k_is)
    (case k11 => k_is)
    (case jm_Holds_fits => k_is)
    (case am_Holds_met => k_is)
    (case l12 => k_is)
    (case c12 => k_is)
    (case k12 => k_is)
    (case jm_Holds_met => k_is)
    (case am_Holds_come => k_is)
    (case l13 => k_is)
    (case c13 => k_is)
    (case k13 => k_is)
    (case jm_Holds_come => k_is)
    (case is_Holds_Goal => kit_is)
    (case ha_Some => k_is)
    (case hm_Some => k_is)
    (case nf_Some_many => k_is)
    (case ai_Some => k_is)
    (case l14 => k_is)
    (case c14 => k_is)
    (case k14 => k_is)
    (case ji_Some => k_is)
    (case mk_Some => k_is)
    (case kc_Some => k_is)
    (case am_Some_fits => k_is)
    (case l15 => k_is)
    (case c15 => k_is)
    (case k15 => k_is)
    (case jm_Some_fits => k_is)
    (case am_Some_met => k_is)
    (case l16 => k_is)
    (case c16 => k_is)
    (case k16 => k_is)
    (case jm_Some_met => k_is)
    (case am_Some_come => k_is)
    (case jm_Some_come => k_is)
    (case is_Some_Goal => kit_is)
    (case ha_Sum => k_is)
    (case hm_Sum => k_is)
    (case nf_Sum_jugs => k_is)
    (case nf_Sum_many => k_is)
    (case ai_Sum => k_is)
    (case l17 => k_is)
    (case c17 => k_is)
    (case k17 => k_is)
    (case ji_Sum => k_is)
    (case mk_Sum => k_is)
    (case kc_Sum => k_is)
    (case am_Sum_fits => k_is)
    (case l18 => k_is)
    (case c18 => k_is)
    (case k18 => k_is)
    (case jm_Sum_fits => k_is)
    (case am_Sum_met => k_is)
    (case l19 => k_is)
    (case c19 => k_is)
    (case k19 => k_is)
    (case jm_Sum_met => k_is)
    (case am_Sum_come => k_is)
    (case jm_Sum_come => k_is)
    (case is_Sum_Goal => kit_is)
    (case ha_Whole => k_is)
    (case hm_Whole => k_is)
    (case nf_Whole_state => k_is)
    (case ai_Whole => k_is)
    (case l20 => k_is)
    (case c20 => k_is)
    (case k20 => k_is)
    (case ji_Whole => k_is)
    (case mk_Whole => k_is)
    (case kc_Whole => k_is)
    (case am_Whole_fits => k_is)
    (case l21 => k_is)
    (case c21 => k_is)
    (case k21 => k_is)
    (case jm_Whole_fits => k_is)
    (case am_Whole_met => k_is)
    (case l22 => k_is)
    (case c22 => k_is)
    (case k22 => k_is)
    (case jm_Whole_met => k_is)
    (case am_Whole_come => k_is)
    (case jm_Whole_come => k_is)
    (case is_Whole_Goal => kit_is)
    (case nf_Poured_pours => k_is)
    (case nf_Poured_heights => k_is)
    (case ai_Poured => k_is)
    (case l23 => k_is)
    (case c23 => k_is)
    (case k23 => k_is)
    (case ji_Poured => k_is)
    (case mk_Poured => k_is)
    (case kc_Poured => k_is)
    (case nf_Barred_among => k_is)
    (case ai_Barred => k_is)
    (case l24 => k_is)
    (case c24 => k_is)
    (case k24 => k_is)
    (case ji_Barred => k_is)
    (case mk_Barred => k_is)
    (case kc_Barred => k_is)
    (case nf_House_told => k_is)
    (case nf_House_tap => k_is)
    (case ai_House => k_is)
    (case l25 => k_is)
    (case c25 => k_is)
    (case k25 => k_is)
    (case ji_House => k_is)
    (case mk_House => k_is)
    (case kc_House => k_is)
    (case am_House_sizes => k_is)
    (case l26 => k_is)
    (case c26 => k_is)
    (case k26 => k_is)
    (case jm_House_sizes => k_is)
    (case am_House_check => k_is)
    (case l27 => k_is)
    (case c27 => k_is)
    (case k27 => k_is)
    (case jm_House_check => k_is)
    (case am_House_moves => k_is)
    (case l28 => k_is)
    (case c28 => k_is)
    (case k28 => k_is)
    (case jm_House_moves => k_is)
    (case am_House_states => k_is)
    (case l29 => k_is)
    (case c29 => k_is)
    (case k29 => k_is)
    (case jm_House_states => k_is)
    (case isb_int_Move => kit_is)
    (case isb_int_Goal => kit_is)
    (case isb_bool_Move => kit_is)
    (case isb_str_Move => kit_is)
    (case isb_str_Goal => kit_is)
    (case isb_NoneType_Move => kit_is)
    (case isb_NoneType_Goal => kit_is)
    (case isb_list_Move => kit_is)
    (case isb_tuple_Goal => kit_is)
    (case ax_JugError => k_is)
    (case xi_JugError => k_exc)
    (case xk_JugError => k_is)
    (case xb_JugError => k_is)
    (case xt_JugError => k_is)
    (case ax_BadHouse => k_is)
    (case xi_BadHouse => k_exc)
    (case xk_BadHouse => k_is)
    (case xb_BadHouse => k_is)
    (case xt_BadHouse => k_is)
    (case ax_BadState => k_is)
    (case xi_BadState => k_exc)
    (case xk_BadState => k_is)
    (case xb_BadState => k_is)
    (case xt_BadState => k_is)
    (case ax_BadMove => k_is)
    (case xi_BadMove => k_exc)
    (case xk_BadMove => k_is)
    (case xb_BadMove => k_is)
    (case xt_BadMove => k_is)
    (case ax_BadGoal => k_is)
    (case xi_BadGoal => k_exc)
    (case xk_BadGoal => k_is)
    (case xb_BadGoal => k_is)
    (case xt_BadGoal => k_is)
    (case ax_BadText => k_is)
    (case xi_BadText => k_exc)
    (case xk_BadText => k_is)
    (case xb_BadText => k_is)
    (case xt_BadText => k_is)
    (case eg_BadHouse => k_is)
    (case ek_BadHouse => k_is)
    (case ed_BadHouse => k_is)
    (case ea_BadHouse => k_is)
    (case em0_BadHouse => k_is)
    (case ed_JugError => k_is)
    (case es_BadHouse_JugError => k_is)
    (case isx_BadHouse_BadHouse => kit_is)
    (case isx_BadHouse_BadState => kit_is)
    (case isx_BadHouse_BadMove => kit_is)
    (case isx_BadHouse_BadGoal => kit_is)
    (case isx_BadHouse_BadText => kit_is)
    (case isxv_BadHouse => kit_is)
    (case eg_BadState => k_is)
    (case ek_BadState => k_is)
    (case ed_BadState => k_is)
    (case ea_BadState => k_is)
    (case em0_BadState => k_is)
    (case es_BadState_JugError => k_is)
    (case isx_BadState_BadHouse => kit_is)
    (case isx_BadState_BadState => kit_is)
    (case isx_BadState_BadMove => kit_is)
    (case isx_BadState_BadGoal => kit_is)
    (case isx_BadState_BadText => kit_is)
    (case isxv_BadState => kit_is)
    (case eg_BadMove => k_is)
    (case ek_BadMove => k_is)
    (case ed_BadMove => k_is)
    (case ea_BadMove => k_is)
    (case em0_BadMove => k_is)
    (case es_BadMove_JugError => k_is)
    (case isx_BadMove_BadHouse => kit_is)
    (case isx_BadMove_BadState => kit_is)
    (case isx_BadMove_BadMove => kit_is)
    (case isx_BadMove_BadGoal => kit_is)
    (case isx_BadMove_BadText => kit_is)
    (case isxv_BadMove => kit_is)
    (case eg_BadGoal => k_is)
    (case ek_BadGoal => k_is)
    (case ed_BadGoal => k_is)
    (case ea_BadGoal => k_is)
    (case em0_BadGoal => k_is)
    (case es_BadGoal_JugError => k_is)
    (case isx_BadGoal_BadHouse => kit_is)
    (case isx_BadGoal_BadState => kit_is)
    (case isx_BadGoal_BadMove => kit_is)
    (case isx_BadGoal_BadGoal => kit_is)
    (case isx_BadGoal_BadText => kit_is)
    (case isxv_BadGoal => kit_is)
    (case ag_MOST_JUGS => k_is)
    (case rg_MOST_JUGS => exact ⟨_, rfl⟩)
    (case ag_GREATEST_goals => k_is)
    (case rg_GREATEST_goals => exact ⟨_, rfl⟩)
    (case ag_MOST => k_is)
    (case rg_MOST => exact ⟨_, rfl⟩)
    (case ag_GREATEST_houses => k_is)
    (case rg_GREATEST_houses => exact ⟨_, rfl⟩)
    (case ag_MOST_STATES => k_is)
    (case rg_MOST_STATES => exact ⟨_, rfl⟩)
    (case ad_within => k_is)
    (case l30 => k_is)
    (case c30 => k_is)
    (case k30 => k_is)
    (case ad_check_jug => k_is)
    (case l31 => k_is)
    (case c31 => k_is)
    (case k31 => k_is)
    (case ad_with_amount => k_is)
    (case l32 => k_is)
    (case c32 => k_is)
    (case k32 => k_is)
    (case ad_check_moves => k_is)
    (case l33 => k_is)
    (case c33 => k_is)
    (case k33 => k_is)
    (case ad_done_all => k_is)
    (case l34 => k_is)
    (case c34 => k_is)
    (case k34 => k_is)
    (case ad_check_amount => k_is)
    (case l35 => k_is)
    (case c35 => k_is)
    (case k35 => k_is)
    (case ad_spread => k_is)
    (case l36 => k_is)
    (case c36 => k_is)
    (case k36 => k_is)
    (case ad_reached => k_is)
    (case l37 => k_is)
    (case c37 => k_is)
    (case k37 => k_is)
    (case ad_measured => k_is)
    (case l38 => k_is)
    (case c38 => k_is)
    (case k38 => k_is)
    (case ad_tied => k_is)
    (case l39 => k_is)
    (case c39 => k_is)
    (case k39 => k_is)
    (case ad_way_to => k_is)
    (case l40 => k_is)
    (case c40 => k_is)
    (case k40 => k_is)
    (case ad_fewest => k_is)
    (case l41 => k_is)
    (case c41 => k_is)
    (case k41 => k_is)
    (case ad_move_text => k_is)
    (case l42 => k_is)
    (case c42 => k_is)
    (case k42 => k_is)
    (case ad_routine_text => k_is)
    (case l43 => k_is)
    (case c43 => k_is)
    (case k43 => k_is)
    (case ad__law_cell_at => k_is)
    (case l44 => k_is)
    (case c44 => k_is)
    (case k44 => k_is)
    (case ad__law_kinds => k_is)
    (case l45 => k_is)
    (case c45 => k_is)
    (case k45 => k_is)
    (case ad__law_told => k_is)
    (case l46 => k_is)
    (case c46 => k_is)
    (case k46 => k_is)
    (case ad__law_house => k_is)
    (case l47 => k_is)
    (case c47 => k_is)
    (case k47 => k_is)
    (case ad__law_with_state => k_is)
    (case l48 => k_is)
    (case c48 => k_is)
    (case k48 => k_is)
    (case ad__law_with_move => k_is)
    (case l49 => k_is)
    (case c49 => k_is)
    (case k49 => k_is)
    (case ad__law_unfit => k_is)
    (case l50 => k_is)
    (case c50 => k_is)
    (case k50 => k_is)
    (case ad__law_with_goal => k_is)
    (case l51 => k_is)
    (case c51 => k_is)
    (case k51 => k_is)
    (case ad__law_goal_unfit => k_is)
    (case l52 => k_is)
    (case c52 => k_is)
    (case k52 => k_is)
    (case ad__law_all => k_is)
    (case l53 => k_is)
    (case c53 => k_is)
    (case k53 => k_is)
    (case ad__law_goals_right => k_is)
    (case l54 => k_is)
    (case c54 => k_is)
    (case lc54 => k_is)
    (case lp54 => exact rfl)
    (case na54 => decide +kernel)
    (case k54 => k_is)
    (case ad__law_good => k_is)
    (case l55 => k_is)
    (case c55 => k_is)
    (case k55 => k_is)
    (case ad_law => k_is)
    (case l56 => k_is)
    (case c56 => k_is)
    (case lc56 => k_is)
    (case lp56 => exact rfl)
    (case na56 => decide +kernel)
    (case k56 => k_is)
    (case zn_ValueError => k_is)
    (case zn_all => k_is)
    (case zn_bool => k_is)
    (case zn_int => k_is)
    (case zn_isinstance => k_is)
    (case zn_len => k_is)
    (case zn_list => k_is)
    (case zn_max => k_is)
    (case zn_min => k_is)
    (case zn_range => k_is)
    (case zn_sorted => k_is)
    (case zn_sum => k_is)
    (case zn_tuple => k_is)
    (case npp => decide)


