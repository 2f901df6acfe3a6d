import PyProof.Rows.All
import Wide.All
import OpenK.AllK
import Wide.FinOn
import HandS.ForMost
import HandS.Wide
import HandS.WideBits
import HandS.IsInst
import HandS.Deep
import HandS.Zip
import HandS.Flow
import HandS.TupAny
import HandS.Conv
import HandS.Star
import HandS.Style
import HandS.RaiseMore
import PyProof.ReprRoads
import KE.KDictKeyed
import KE.GoesEnum
import HandS.TryOnly
import KE.KDictZip
import HandS.TupLen
import HandS.DictComp
import KE.IntBitsLaws
import PyProof.ReprBulk
import PyProof.FitsInt
import PySem.Challenge.RW_crossingstold_k46_whole_plans_of_looks_a
set_option Elab.async false
set_option linter.all false
set_option maxRecDepth 100000
section
/-! Z1: pure values D over the hand layer: tuples and lists that stand still are plain data, lists that change are tracked by address. -/
namespace Zz
open PySem PySem.Spec PyProof.Rows L2

inductive D where
  | non
  | bl (b : Bool)
  | int (i : Int)
  | str (x : Str)
  | tup (xs : List D)
  | lst (xs : List D)
  | ref (a : Addr)

/-- what changes -/
inductive MO where
  | lst (xs : List D)
abbrev Mh := Addr → Option MO
abbrev Sl := List (Option D)
abbrev KD := D → Mh → Prop
abbrev ZE := Sl → Mh → KD → Prop
abbrev ZT := Sl → Mh → (Bool → Mh → Prop) → Prop
abbrev ZA := Sl → Mh → (List D → Mh → Prop) → Prop

def hp0 : Hp := fun _ => none
def mh0 : Mh := fun _ => none

/-- a tuple that stands; a list that stands still -/
def StT (K : PySem.W.Frag) (H : Hp) (M : Mh) (p : Addr) (vs : List V) : Prop := (SqT K H p vs ∧ M p = none ∧ H p ≠ none) ∨ SqT K hp0 p vs
def StL (K : PySem.W.Frag) (H : Hp) (M : Mh) (p : Addr) (vs : List V) : Prop := (SqL K H p vs ∧ M p = none ∧ H p ≠ none) ∨ SqL K hp0 p vs

mutual
def Rep (K : PySem.W.Frag) (H : Hp) (M : Mh) : D → V → Prop
  | .non, v => v = .non
  | .bl b, v => v = .bl b
  | .int i, v => v = .int i
  | .str x, v => v = .str x
  | .tup ds, v => ∃ p vs, v = .ref p ∧ StT K H M p vs ∧ Reps K H M ds vs
  | .lst ds, v => ∃ p vs, v = .ref p ∧ StL K H M p vs ∧ Reps K H M ds vs
  | .ref a, v => v = .ref a
def Reps (K : PySem.W.Frag) (H : Hp) (M : Mh) : List D → List V → Prop
  | [], vs => vs = []
  | d :: ds, vs => ∃ v r, vs = v :: r ∧ Rep K H M d v ∧ Reps K H M ds r
end

structure Ext (M : Mh) (H : Hp) (M2 : Mh) (H2 : Hp) : Prop where
  keep : ∀ p o, H p = some o → M p = none → H2 p = some o
  dom : ∀ p, M p = none → H p ≠ none → M2 p = none

def HRel (K : PySem.W.Frag) (M : Mh) (H : Hp) : Prop := ∀ a ds, M a = some (.lst ds) → ∃ vs, H a = some (.lst vs) ∧ Reps K H M ds vs

structure Rel (K : PySem.W.Frag) (s : Sl) (M : Mh) (σ : L2.St) (H : Hp) : Prop where
  len : s.length = σ.length
  at' : ∀ (i : Nat) (d : D), s[i]? = some (some d) → ∃ v, σ[i]? = some (some v) ∧ Rep K H M d v
  heap : HRel K M H

section
variable {K : PySem.W.Frag} {H H1 H2 : Hp} {M M1 M2 : Mh} {p : Addr} {vs : List V}

theorem SqT.k0 (h : SqT K hp0 p vs) : SqT K H p vs := by
  rcases h with h | h
  · rcases h with h | ⟨o, h⟩ <;> cases h
  · exact .inr h
theorem SqL.k0 (h : SqL K hp0 p vs) : SqL K H p vs := by
  rcases h with h | h
  · rcases h with h | ⟨o, h⟩ <;> cases h
  · exact .inr h
theorem StT.sq (h : StT K H M p vs) : SqT K H p vs := h.elim (fun z => z.1) SqT.k0
theorem StL.sq (h : StL K H M p vs) : SqL K H p vs := h.elim (fun z => z.1) SqL.k0
theorem Ext.refl : Ext M H M H := ⟨fun _ _ h _ => h, fun _ h _ => h⟩
theorem Ext.trans (a : Ext M H M1 H1) (b : Ext M1 H1 M2 H2) : Ext M H M2 H2 :=
  ⟨fun q o h n => b.keep q o (a.keep q o h n) (a.dom q n (by rw [h]; simp)), fun q n h => b.dom q (a.dom q n h) (by
    cases e : H q with
    | none => exact absurd e h
    | some o => rw [a.keep q o e n]; simp)⟩
theorem StT.ext (e : Ext M H M2 H2) (h : StT K H M p vs) : StT K H2 M2 p vs := by
  rcases h with ⟨h, n, d⟩ | h
  · rcases h with h | h
    · refine .inl ⟨?_, e.dom p n d, ?_⟩
      · rcases h with h | ⟨o, h⟩
        · exact .inl (.inl (e.keep _ _ h n))
        · exact .inl (.inr ⟨o, e.keep _ _ h n⟩)
      · rcases h with h | ⟨o, h⟩
        · rw [e.keep _ _ h n]; simp
        · rw [e.keep _ _ h n]; simp
    · exact .inr (.inr h)
  · exact .inr h
theorem StL.ext (e : Ext M H M2 H2) (h : StL K H M p vs) : StL K H2 M2 p vs := by
  rcases h with ⟨h, n, d⟩ | h
  · rcases h with h | h
    · refine .inl ⟨?_, e.dom p n d, ?_⟩
      · rcases h with h | ⟨o, h⟩
        · exact .inl (.inl (e.keep _ _ h n))
        · exact .inl (.inr ⟨o, e.keep _ _ h n⟩)
      · rcases h with h | ⟨o, h⟩
        · rw [e.keep _ _ h n]; simp
        · rw [e.keep _ _ h n]; simp
    · exact .inr (.inr h)
  · exact .inr h
mutual
theorem Rep.ext (e : Ext M H M2 H2) : ∀ (d : D) (v : V), Rep K H M d v → Rep K H2 M2 d v
  | .non, _, h => h
  | .bl _, _, h => h
  | .int _, _, h => h
  | .str _, _, h => h
  | .tup ds, v, h => by
    unfold Rep at h ⊢
    obtain ⟨p, vs, h1, h2, h3⟩ := h
    exact ⟨p, vs, h1, h2.ext e, Reps.ext e ds vs h3⟩
  | .lst ds, v, h => by
    unfold Rep at h ⊢
    obtain ⟨p, vs, h1, h2, h3⟩ := h
    exact ⟨p, vs, h1, h2.ext e, Reps.ext e ds vs h3⟩
  | .ref _, _, h => h
theorem Reps.ext (e : Ext M H M2 H2) : ∀ (ds : List D) (vs : List V), Reps K H M ds vs → Reps K H2 M2 ds vs
  | [], _, h => h
  | d :: ds, vs, h => by
    unfold Reps at h ⊢
    obtain ⟨v, r, h1, h2, h3⟩ := h
    exact ⟨v, r, h1, Rep.ext e d v h2, Reps.ext e ds r h3⟩
end
theorem Rel.ext {s : Sl} {σ : L2.St} (R : Rel K s M σ H) (e : Ext M H M2 H2) (h : HRel K M2 H2) : Rel K s M2 σ H2 :=
  ⟨R.len, fun i d hd => by obtain ⟨v, h1, h2⟩ := R.at' i d hd; exact ⟨v, h1, Rep.ext e d v h2⟩, h⟩

theorem Reps.nil_iff {vs : List V} : Reps K H M [] vs ↔ vs = [] := by unfold Reps; exact Iff.rfl
theorem Reps.cons {d : D} {ds : List D} {v : V} {vs : List V} (h : Rep K H M d v) (t : Reps K H M ds vs) : Reps K H M (d :: ds) (v :: vs) := by
  unfold Reps; exact ⟨v, vs, rfl, h, t⟩
theorem Reps.nil : Reps K H M [] [] := by unfold Reps; rfl
theorem Reps.uncons {d : D} {ds : List D} {vs : List V} (h : Reps K H M (d :: ds) vs) : ∃ v r, vs = v :: r ∧ Rep K H M d v ∧ Reps K H M ds r := by
  unfold Reps at h; exact h
theorem Reps.length : ∀ {ds : List D} {vs : List V}, Reps K H M ds vs → vs.length = ds.length
  | [], vs, h => by rw [Reps.nil_iff.mp h]; rfl
  | d :: ds, vs, h => by
    obtain ⟨v, r, rfl, _, h⟩ := h.uncons
    rw [List.length_cons, List.length_cons, Reps.length h]
theorem Reps.get : ∀ {ds : List D} {vs : List V} {i : Nat} {d : D}, Reps K H M ds vs → ds[i]? = some d → ∃ v, vs[i]? = some v ∧ Rep K H M d v
  | [], _, _, _, _, e => by simp at e
  | c :: ds, vs, 0, d, h, e => by
    obtain ⟨v, r, rfl, h1, _⟩ := h.uncons
    simp at e; subst e
    exact ⟨v, rfl, h1⟩
  | c :: ds, vs, i + 1, d, h, e => by
    obtain ⟨v, r, rfl, _, h2⟩ := h.uncons
    obtain ⟨w, e1, e2⟩ := Reps.get (i := i) h2 (by simpa using e)
    exact ⟨w, by simpa using e1, e2⟩
theorem Reps.getV : ∀ {ds : List D} {vs : List V} {i : Nat} {v : V}, Reps K H M ds vs → vs[i]? = some v → ∃ d, ds[i]? = some d ∧ Rep K H M d v
  | [], vs, _, _, h, e => by rw [Reps.nil_iff.mp h] at e; simp at e
  | c :: ds, vs, 0, v, h, e => by
    obtain ⟨w, r, rfl, h1, _⟩ := h.uncons
    simp at e; subst e
    exact ⟨c, rfl, h1⟩
  | c :: ds, vs, i + 1, v, h, e => by
    obtain ⟨w, r, rfl, _, h2⟩ := h.uncons
    obtain ⟨d, e1, e2⟩ := Reps.getV (i := i) h2 (by simpa using e)
    exact ⟨d, by simpa using e1, e2⟩
theorem Reps.append : ∀ {ds es : List D} {vs ws : List V}, Reps K H M ds vs → Reps K H M es ws → Reps K H M (ds ++ es) (vs ++ ws)
  | [], _, vs, _, h, t => by rw [Reps.nil_iff.mp h]; exact t
  | d :: ds, _, vs, _, h, t => by
    obtain ⟨v, r, rfl, h1, h2⟩ := h.uncons
    exact Reps.cons h1 (Reps.append h2 t)
theorem Reps.drop : ∀ {ds : List D} {vs : List V} (n : Nat), Reps K H M ds vs → Reps K H M (ds.drop n) (vs.drop n)
  | ds, vs, 0, h => h
  | [], vs, n + 1, h => by rw [Reps.nil_iff.mp h]; exact Reps.nil
  | d :: ds, vs, n + 1, h => by
    obtain ⟨v, r, rfl, h1, h2⟩ := h.uncons
    exact Reps.drop n h2
theorem Reps.take : ∀ {ds : List D} {vs : List V} (n : Nat), Reps K H M ds vs → Reps K H M (ds.take n) (vs.take n)
  | ds, vs, 0, h => by simpa using Reps.nil
  | [], vs, n + 1, h => by rw [Reps.nil_iff.mp h]; exact Reps.nil
  | d :: ds, vs, n + 1, h => by
    obtain ⟨v, r, rfl, h1, h2⟩ := h.uncons
    exact Reps.cons h1 (Reps.take n h2)
theorem Reps.set : ∀ {ds : List D} {vs : List V} (n : Nat) {d : D} {v : V}, Reps K H M ds vs → Rep K H M d v → Reps K H M (ds.set n d) (vs.set n v)
  | [], vs, n, d, v, h, r => by rw [Reps.nil_iff.mp h]; exact Reps.nil
  | c :: ds, vs, 0, d, v, h, r => by
    obtain ⟨w, r', rfl, h1, h2⟩ := h.uncons
    exact Reps.cons r h2
  | c :: ds, vs, n + 1, d, v, h, r => by
    obtain ⟨w, r', rfl, h1, h2⟩ := h.uncons
    exact Reps.cons h1 (Reps.set n h2 r)
end

/-! ### heaps that grow -/
def mup (M : Mh) (a : Addr) (o : MO) : Mh := fun b => if b = a then some o else M b
theorem mup_same {M : Mh} {a : Addr} {o : MO} : mup M a o a = some o := if_pos rfl
theorem mup_ne {M : Mh} {a b : Addr} {o : MO} (h : b ≠ a) : mup M a o b = M b := if_neg h
section
variable {K : PySem.W.Frag} {H : Hp} {M : Mh}
theorem HRel.nil (R : HRel K M H) {p : Addr} (h : H p = Option.none) : M p = Option.none := by
  cases e : M p with
  | none => rfl
  | some o =>
    cases o with
    | lst ds =>
      obtain ⟨vs, h1, _⟩ := R p ds e
      rw [h] at h1; cases h1
theorem Ext.new {p : Addr} {o : HO} (h : H p = none) : Ext M H M (upd H p o) :=
  ⟨fun q o' e _ => by rw [upd_ne (ne_of_none e h)]; exact e, fun _ n _ => n⟩
theorem HRel.ext {H2 : Hp} {M2 : Mh} (e : Ext M H M2 H2) (R : HRel K M H) (h : ∀ a ds, M2 a = some (.lst ds) → (M a = some (.lst ds) ∧ H2 a = H a) ∨ ∃ vs, H2 a = some (.lst vs) ∧ Reps K H2 M2 ds vs) : HRel K M2 H2 := fun a ds ha => by
  rcases h a ds ha with ⟨h1, h2⟩ | h
  · obtain ⟨vs, e1, e2⟩ := R a ds h1
    exact ⟨vs, by rw [h2]; exact e1, Reps.ext e ds vs e2⟩
  · exact h
theorem HRel.new {p : Addr} {o : HO} (h : H p = none) (R : HRel K M H) : HRel K M (upd H p o) :=
  R.ext (Ext.new h) fun a ds ha => .inl ⟨ha, upd_ne fun e => by
    rw [e, HRel.nil R h] at ha; cases ha⟩
theorem StT.new {p : Addr} {vs : List V} (R : HRel K M H) (h : H p = none) : StT K (upd H p (.tup vs)) M p vs :=
  .inl ⟨.inl (.inl upd_same), HRel.nil R h, by rw [upd_same]; simp⟩
theorem StL.new {p : Addr} {vs : List V} (R : HRel K M H) (h : H p = none) : StL K (upd H p (.lst vs)) M p vs :=
  .inl ⟨.inl (.inl upd_same), HRel.nil R h, by rw [upd_same]; simp⟩
theorem Rep.newT {p : Addr} {vs : List V} {ds : List D} (R : HRel K M H) (h : H p = none) (r : Reps K H M ds vs) : Rep K (upd H p (.tup vs)) M (.tup ds) (.ref p) := by
  unfold Rep; exact ⟨p, vs, rfl, StT.new R h, Reps.ext (Ext.new h) ds vs r⟩
theorem Rep.newL {p : Addr} {vs : List V} {ds : List D} (R : HRel K M H) (h : H p = none) (r : Reps K H M ds vs) : Rep K (upd H p (.lst vs)) M (.lst ds) (.ref p) := by
  unfold Rep; exact ⟨p, vs, rfl, StL.new R h, Reps.ext (Ext.new h) ds vs r⟩
/-- a list that will change -/
theorem Ext.newM {p : Addr} {o : HO} {u : MO} (h : H p = none) : Ext M H (mup M p u) (upd H p o) :=
  ⟨fun q o' e _ => by rw [upd_ne (ne_of_none e h)]; exact e, fun q n d => by rw [mup_ne fun e => d (by rw [e]; exact h)]; exact n⟩
theorem HRel.newM {p : Addr} {vs : List V} {ds : List D} (R : HRel K M H) (h : H p = none) (r : Reps K H M ds vs) : HRel K (mup M p (.lst ds)) (upd H p (.lst vs)) :=
  R.ext (Ext.newM h) fun a es ha => by
    by_cases e : a = p
    · subst e
      rw [mup_same] at ha; cases ha
      exact .inr ⟨vs, upd_same, Reps.ext (Ext.newM h) _ _ r⟩
    · rw [mup_ne e] at ha
      exact .inl ⟨ha, upd_ne e⟩
/-- a tracked list is stored to -/
theorem Ext.put {p : Addr} {o : HO} {u w : MO} (h : M p = some w) : Ext M H (mup M p u) (upd H p o) :=
  ⟨fun q o' e n => by rw [upd_ne fun z => by rw [z, h] at n; cases n]; exact e, fun q n d => by rw [mup_ne fun z => by rw [z, h] at n; cases n]; exact n⟩
theorem HRel.put {p : Addr} {vs : List V} {ds es : List D} (R : HRel K M H) (h : M p = some (.lst es)) (r : Reps K H M ds vs) : HRel K (mup M p (.lst ds)) (upd H p (.lst vs)) :=
  R.ext (Ext.put h) fun a es ha => by
    by_cases e : a = p
    · subst e
      rw [mup_same] at ha; cases ha
      exact .inr ⟨vs, upd_same, Reps.ext (Ext.put h) _ _ r⟩
    · rw [mup_ne e] at ha
      exact .inl ⟨ha, upd_ne e⟩
/-- some of what is tracked is forgotten -/
def Sub (M' M : Mh) : Prop := ∀ p o, M' p = some o → M p = some o
theorem Ext.sub {M' : Mh} (h : Sub M' M) : Ext M H M' H :=
  ⟨fun _ _ e _ => e, fun p n _ => by
    cases e : M' p with
    | none => rfl
    | some o => rw [h p o e] at n; cases n⟩
theorem HRel.sub {M' : Mh} (h : Sub M' M) (R : HRel K M H) : HRel K M' H :=
  R.ext (Ext.sub h) fun a ds ha => .inl ⟨h a _ ha, rfl⟩
theorem Sub.refl : Sub M M := fun _ _ h => h
end

/-! ### lifting -/
def QRel (K : PySem.W.Frag) (M : Mh) (H : Hp) (q : KD) (Q : VK) : Prop := ∀ d M2 v H2, Ext M H M2 H2 → HRel K M2 H2 → Rep K H2 M2 d v → q d M2 → Q v H2
def up (K : PySem.W.Frag) (t : ZE) : TE := fun σ H Q => ∃ s M q, Rel K s M σ H ∧ t s M q ∧ QRel K M H q Q
def upT (K : PySem.W.Frag) (t : ZT) : TT := fun σ H Q => ∃ s M q, Rel K s M σ H ∧ t s M q ∧ ∀ b M2 H2, Ext M H M2 H2 → HRel K M2 H2 → q b M2 → Q b H2
def upA (K : PySem.W.Frag) (t : ZA) : TA := fun σ H Q => ∃ s M q, Rel K s M σ H ∧ t s M q ∧ ∀ ds M2 vs H2, Ext M H M2 H2 → HRel K M2 H2 → Reps K H2 M2 ds vs → q ds M2 → Q vs H2

theorem QRel.at {K : PySem.W.Frag} {M M1 : Mh} {H H1 : Hp} {q : KD} {Q : VK} (h : QRel K M H q Q) (e : Ext M H M1 H1) : QRel K M1 H1 q Q :=
  fun d M2 v H2 e2 r => h d M2 v H2 (e.trans e2) r
theorem QRel.use {K : PySem.W.Frag} {M : Mh} {H : Hp} {q : KD} {Q : VK} (h : QRel K M H q Q) {d : D} {v : V} (R : HRel K M H) (r : Rep K H M d v) (z : q d M) : Q v H := h d M v H Ext.refl R r z

/-- go on behind an expression -/
theorem up_then {K : PySem.W.Frag} {t : ZE} {s : Sl} {M : Mh} {σ : L2.St} {H : Hp} {q : KD} {Q : VK} (R : Rel K s M σ H) (h : t s M q)
    (k : ∀ d M2 v H2, Ext M H M2 H2 → Rel K s M2 σ H2 → Rep K H2 M2 d v → q d M2 → Q v H2) : up K t σ H Q :=
  ⟨s, M, q, R, h, fun d M2 v H2 e r p z => k d M2 v H2 e (R.ext e r) p z⟩
theorem upT_then {K : PySem.W.Frag} {t : ZT} {s : Sl} {M : Mh} {σ : L2.St} {H : Hp} {q : Bool → Mh → Prop} {Q : Bool → Hp → Prop} (R : Rel K s M σ H) (h : t s M q)
    (k : ∀ b M2 H2, Ext M H M2 H2 → Rel K s M2 σ H2 → q b M2 → Q b H2) : upT K t σ H Q :=
  ⟨s, M, q, R, h, fun b M2 H2 e r z => k b M2 H2 e (R.ext e r) z⟩
theorem upA_then {K : PySem.W.Frag} {t : ZA} {s : Sl} {M : Mh} {σ : L2.St} {H : Hp} {q : List D → Mh → Prop} {Q : List V → Hp → Prop} (R : Rel K s M σ H) (h : t s M q)
    (k : ∀ ds M2 vs H2, Ext M H M2 H2 → Rel K s M2 σ H2 → Reps K H2 M2 ds vs → q ds M2 → Q vs H2) : upA K t σ H Q :=
  ⟨s, M, q, R, h, fun ds M2 vs H2 e r p z => k ds M2 vs H2 e (R.ext e r) p z⟩

section
variable {X : Cx} {e : Expr}
theorem PE.imp {t t' : TE} (h : PE X e t) (i : ∀ σ H Q, t' σ H Q → t σ H Q) : PE X e t' := ⟨fun pins s σ H Q I w => h.run pins s σ H Q I (i σ H Q w)⟩
theorem PT.imp {t t' : TT} (h : PT X e t) (i : ∀ σ H Q, t' σ H Q → t σ H Q) : PT X e t' := ⟨fun pins s σ H Q I w => h.run pins s σ H Q I (i σ H Q w)⟩
theorem PA.imp {es : List Expr} {t t' : TA} (h : PA X es t) (i : ∀ σ H Q, t' σ H Q → t σ H Q) : PA X es t' := ⟨fun pos pins s σ H Q I w => h.run pos pins s σ H Q I (i σ H Q w)⟩
end
end Zz
end
section
/-! Z2: operators, comparisons, subscripts, slices over D. -/
namespace Zz
open PySem PySem.Spec PyProof.Rows L2

/-! ### plain data and its equality -/
mutual
def toPy : D → PyData
  | .non => .none
  | .bl b => .bool b
  | .int i => .int i
  | .str x => .str x
  | .tup xs => .tuple (toPys xs)
  | .lst xs => .list (toPys xs)
  | .ref _ => .none
def toPys : List D → List PyData
  | [] => []
  | x :: xs => toPy x :: toPys xs
end
mutual
/-- plain data at most n deep -/
def okd : Nat → D → Bool
  | _, .non => true
  | _, .bl _ => true
  | _, .int _ => true
  | _, .str x => PyData.canLay0 (.str x)
  | n + 1, .tup xs => okds n xs
  | n + 1, .lst xs => okds n xs
  | 0, .tup _ => false
  | 0, .lst _ => false
  | _, .ref _ => false
def okds : Nat → List D → Bool
  | _, [] => true
  | n, x :: xs => okd n x && okds n xs
end
mutual
theorem okd_lay : ∀ (n : Nat) (d : D), okd n d = true → (toPy d).canLay0 = true ∧ (toPy d).depth ≤ n
  | n, .non, _ => by simp [toPy, PyData.canLay0, PyData.depth]
  | n, .bl _, _ => by simp [toPy, PyData.canLay0, PyData.depth]
  | n, .int _, _ => by simp [toPy, PyData.canLay0, PyData.depth]
  | n, .str x, h => by
    have h : PyData.canLay0 (.str x) = true := by cases n <;> (unfold okd at h; exact h)
    exact ⟨h, by simp [toPy, PyData.depth]⟩
  | n + 1, .tup xs, h => by
    have h := okds_lay n xs (by unfold okd at h; exact h)
    unfold toPy PyData.canLay0 PyData.depth
    exact ⟨h.1, by omega⟩
  | n + 1, .lst xs, h => by
    have h := okds_lay n xs (by unfold okd at h; exact h)
    unfold toPy PyData.canLay0 PyData.depth
    exact ⟨h.1, by omega⟩
  | 0, .tup xs, h => by unfold okd at h; cases h
  | 0, .lst xs, h => by unfold okd at h; cases h
  | n, .ref _, h => by cases n <;> (unfold okd at h; cases h)
theorem okds_lay : ∀ (n : Nat) (ds : List D), okds n ds = true → PyData.canLayAll0 (toPys ds) = true ∧ PyData.depthAll (toPys ds) ≤ n
  | n, [], _ => by unfold toPys PyData.canLayAll0 PyData.depthAll; simp
  | n, d :: ds, h => by
    unfold okds at h
    rw [Bool.and_eq_true] at h
    have h1 := okd_lay n d h.1
    have h2 := okds_lay n ds h.2
    unfold toPys PyData.canLayAll0 PyData.depthAll
    rw [Bool.and_eq_true]
    exact ⟨⟨h1.1, h2.1⟩, by omega⟩
end
theorem okd_shaped {d : D} (h : okd 60 d = true) : SeqAt.shaped (toPy d) = true := by
  have := okd_lay 60 d h
  unfold SeqAt.shaped
  rw [Bool.and_eq_true]
  exact ⟨this.1, decide_eq_true (by omega)⟩
mutual
theorem Rep.dp {K : PySem.W.Frag} {H : Hp} {M : Mh} : ∀ (n : Nat) (d : D) (v : V), okd n d = true → Rep K H M d v → Dp K H v (toPy d)
  | n, .non, v, _, h => by unfold Rep at h; subst h; unfold toPy; exact .non
  | n, .bl b, v, _, h => by unfold Rep at h; subst h; unfold toPy; exact .bl b
  | n, .int b, v, _, h => by unfold Rep at h; subst h; unfold toPy; exact .int b
  | n, .str b, v, _, h => by unfold Rep at h; subst h; unfold toPy; exact .str b
  | n + 1, .tup ds, v, o, h => by
    unfold Rep at h
    obtain ⟨p, vs, rfl, h2, h3⟩ := h
    unfold toPy; exact .tup h2.sq (Reps.dp n ds vs (by unfold okd at o; exact o) h3)
  | n + 1, .lst ds, v, o, h => by
    unfold Rep at h
    obtain ⟨p, vs, rfl, h2, h3⟩ := h
    unfold toPy; exact .lst h2.sq (Reps.dp n ds vs (by unfold okd at o; exact o) h3)
  | 0, .tup _, _, o, _ => by unfold okd at o; cases o
  | 0, .lst _, _, o, _ => by unfold okd at o; cases o
  | n, .ref _, _, o, _ => by cases n <;> (unfold okd at o; cases o)
theorem Reps.dp {K : PySem.W.Frag} {H : Hp} {M : Mh} : ∀ (n : Nat) (ds : List D) (vs : List V), okds n ds = true → Reps K H M ds vs → DpAll K H vs (toPys ds)
  | n, [], vs, _, h => by rw [Reps.nil_iff.mp h]; unfold toPys; exact .nil
  | n, d :: ds, vs, o, h => by
    obtain ⟨v, r, rfl, h1, h2⟩ := h.uncons
    unfold okds at o
    rw [Bool.and_eq_true] at o
    unfold toPys; exact .cons (Rep.dp n d v o.1 h1) (Reps.dp n ds r o.2 h2)
end
def eqD (a b : D) : Bool := PyData.eqv (toPy a) (toPy b)

/-! ### two-place operations -/
abbrev Z2 := D → D → Mh → KD → Prop
def R2Rep (K : PySem.W.Frag) (z : Z2) (r : R2) : Prop := ∀ d1 d2 v1 v2 M H q Q, HRel K M H → Rep K H M d1 v1 → Rep K H M d2 v2 → QRel K M H q Q → z d1 d2 M q → r v1 v2 H Q

/-- an operation of the text over D: the model's own, by any reading over V -/
def OpZ (X : Cx) (f : Value → Value → Sem Value) (z : Z2) : Prop := ∃ r, OpR X f r ∧ R2Rep X.K z r

theorem R2Rep.or {K : PySem.W.Frag} {z : Z2} {r r' : R2} (h : ∀ d1 d2 v1 v2 M H q Q, HRel K M H → Rep K H M d1 v1 → Rep K H M d2 v2 → QRel K M H q Q → z d1 d2 M q → r v1 v2 H Q ∨ r' v1 v2 H Q) : R2Rep K z (fun x y H Q => r x y H Q ∨ r' x y H Q) :=
  fun d1 d2 v1 v2 M H q Q hr h1 h2 hq w => h d1 d2 v1 v2 M H q Q hr h1 h2 hq w

theorem rep_int {K : PySem.W.Frag} {H : Hp} {M : Mh} {i : Int} {v : V} (h : Rep K H M (.int i) v) : v = .int i := by unfold Rep at h; exact h
theorem rep_bl {K : PySem.W.Frag} {H : Hp} {M : Mh} {i : Bool} {v : V} (h : Rep K H M (.bl i) v) : v = .bl i := by unfold Rep at h; exact h
theorem rep_str {K : PySem.W.Frag} {H : Hp} {M : Mh} {i : Str} {v : V} (h : Rep K H M (.str i) v) : v = .str i := by unfold Rep at h; exact h
theorem rep_non {K : PySem.W.Frag} {H : Hp} {M : Mh} {v : V} (h : Rep K H M .non v) : v = .non := by unfold Rep at h; exact h
theorem rep_ref {K : PySem.W.Frag} {H : Hp} {M : Mh} {a : Addr} {v : V} (h : Rep K H M (.ref a) v) : v = .ref a := by unfold Rep at h; exact h
theorem rep_tup {K : PySem.W.Frag} {H : Hp} {M : Mh} {ds : List D} {v : V} (h : Rep K H M (.tup ds) v) : ∃ p vs, v = .ref p ∧ StT K H M p vs ∧ Reps K H M ds vs := by unfold Rep at h; exact h
theorem rep_lst {K : PySem.W.Frag} {H : Hp} {M : Mh} {ds : List D} {v : V} (h : Rep K H M (.lst ds) v) : ∃ p vs, v = .ref p ∧ StL K H M p vs ∧ Reps K H M ds vs := by unfold Rep at h; exact h
theorem mk_int {K : PySem.W.Frag} {H : Hp} {M : Mh} {i : Int} : Rep K H M (.int i) (.int i) := by unfold Rep; rfl
theorem mk_bl {K : PySem.W.Frag} {H : Hp} {M : Mh} {i : Bool} : Rep K H M (.bl i) (.bl i) := by unfold Rep; rfl
theorem mk_str {K : PySem.W.Frag} {H : Hp} {M : Mh} {i : Str} : Rep K H M (.str i) (.str i) := by unfold Rep; rfl
theorem mk_non {K : PySem.W.Frag} {H : Hp} {M : Mh} : Rep K H M .non .non := by unfold Rep; rfl
theorem mk_ref {K : PySem.W.Frag} {H : Hp} {M : Mh} {a : Addr} : Rep K H M (.ref a) (.ref a) := by unfold Rep; rfl
theorem mk_tup {K : PySem.W.Frag} {H : Hp} {M : Mh} {ds : List D} {p : Addr} {vs : List V} (h : StT K H M p vs) (r : Reps K H M ds vs) : Rep K H M (.tup ds) (.ref p) := by unfold Rep; exact ⟨p, vs, rfl, h, r⟩
theorem mk_lst {K : PySem.W.Frag} {H : Hp} {M : Mh} {ds : List D} {p : Addr} {vs : List V} (h : StL K H M p vs) (r : Reps K H M ds vs) : Rep K H M (.lst ds) (.ref p) := by unfold Rep; exact ⟨p, vs, rfl, h, r⟩

def DivOk (i j : Int) : Prop := j ≠ 0 ∧ Builtin.divisionGoesByPylong i j = false
def PowOk (i n : Int) : Prop := 0 ≤ n ∧ (Builtin.Int.intBits i : Int) * n ≤ 2 ^ 27

inductive Op where
  | add | sub | mul | fdiv | mod | pow | shl
def opOf : Op → Operator
  | .add => .Add | .sub => .Sub | .mul => .Mult | .fdiv => .FloorDiv | .mod => .Mod | .pow => .Pow | .shl => .LShift
def zAdd : Z2
  | .int i, .int j, M, q => q (.int (i + j)) M
  | .str a, .str b, M, q => a.length + b.length ≤ sizeLine ∧ q (.str (a ++ b)) M
  | .tup xs, .tup ys, M, q => xs.length + ys.length ≤ sizeLine ∧ q (.tup (xs ++ ys)) M
  | _, _, _, _ => False
def zSub : Z2
  | .int i, .int j, M, q => q (.int (i - j)) M
  | _, _, _, _ => False
def zMul : Z2
  | .int i, .int j, M, q => IntMulOk i j ∧ q (.int (i * j)) M
  | _, _, _, _ => False
def zFdiv : Z2
  | .int i, .int j, M, q => DivOk i j ∧ q (.int (i.fdiv j)) M
  | _, _, _, _ => False
def zMod : Z2
  | .int i, .int j, M, q => j ≠ 0 ∧ q (.int (i.fmod j)) M
  | _, _, _, _ => False
def zPow : Z2
  | .int i, .int j, M, q => PowOk i j ∧ q (.int (i ^ j.toNat)) M
  | _, _, _, _ => False
def zShl : Z2
  | .int i, .int j, M, q => CShl i j ∧ q (.int (i * 2 ^ j.toNat)) M
  | _, _, _, _ => False
def zOp : Op → Z2
  | .add => zAdd | .sub => zSub | .mul => zMul | .fdiv => zFdiv | .mod => zMod | .pow => zPow | .shl => zShl

section
variable {X : Cx}
theorem Z2.intC {z : Z2} {f : Value → Value → Sem Value} {C : Int → Int → Prop} {g : Int → Int → V} {gd : Int → Int → D} (ho : OpR X f (rI C g)) (hg : ∀ i j K H M, Rep K H M (gd i j) (g i j))
    (hz : ∀ d1 d2 M q, z d1 d2 M q → ∃ i j, d1 = .int i ∧ d2 = .int j ∧ C i j ∧ q (gd i j) M) : OpZ X f z := by
  refine ⟨_, ho, fun d1 d2 v1 v2 M H q Q hr h1 h2 hq w => ?_⟩
  obtain ⟨i, j, rfl, rfl, c, w⟩ := hz d1 d2 M q w
  exact ⟨i, j, rep_int h1, rep_int h2, c, hq.use hr (hg i j _ _ _) w⟩
theorem OpZ.or {f : Value → Value → Sem Value} {z z1 z2 : Z2} (h1 : OpZ X f z1) (h2 : OpZ X f z2) (h : ∀ a b M q, z a b M q → z1 a b M q ∨ z2 a b M q) : OpZ X f z := by
  obtain ⟨r1, o1, e1⟩ := h1
  obtain ⟨r2, o2, e2⟩ := h2
  refine ⟨_, o1.or o2, fun d1 d2 v1 v2 M H q Q hr a b hq w => ?_⟩
  rcases h _ _ _ _ w with w | w
  · exact .inl (e1 _ _ _ _ _ _ _ _ hr a b hq w)
  · exact .inr (e2 _ _ _ _ _ _ _ _ hr a b hq w)
theorem oz_addI : OpZ X (binaryOp .Add) (fun a b M q => ∃ i j, a = .int i ∧ b = .int j ∧ q (.int (i + j)) M) :=
  ⟨_, op_add, fun d1 d2 v1 v2 M H q Q hr h1 h2 hq w => by
    obtain ⟨i, j, rfl, rfl, w⟩ := w
    exact ⟨i, j, rep_int h1, rep_int h2, hq.use hr mk_int w⟩⟩
theorem oz_addS : OpZ X (binaryOp .Add) (fun a b M q => ∃ i j : Str, a = .str i ∧ b = .str j ∧ i.length + j.length ≤ sizeLine ∧ q (.str (i ++ j)) M) :=
  ⟨_, op_add_str, fun d1 d2 v1 v2 M H q Q hr h1 h2 hq w => by
    obtain ⟨i, j, rfl, rfl, l, w⟩ := w
    exact ⟨i, j, rep_str h1, rep_str h2, l, hq.use hr mk_str w⟩⟩
theorem oz_addT : OpZ X (binaryOp .Add) (fun a b M q => ∃ xs ys : List D, a = .tup xs ∧ b = .tup ys ∧ xs.length + ys.length ≤ sizeLine ∧ q (.tup (xs ++ ys)) M) :=
  ⟨_, op_catA, fun d1 d2 v1 v2 M H q Q hr h1 h2 hq w => by
    obtain ⟨xs, ys, rfl, rfl, l2, w⟩ := w
    obtain ⟨p1, vs, rfl, s1, r1⟩ := rep_tup h1
    obtain ⟨p2, ws, rfl, s2, r2⟩ := rep_tup h2
    have nil : ∀ {zs : List D} {us : List V} {M : Mh} {H : Hp}, Reps X.K H M zs us → us = [] → zs = [] := fun {zs us M H} r e => by
      have := r.length
      rw [e] at this
      cases zs with
      | nil => rfl
      | cons _ _ => cases this
    refine ⟨p1, p2, vs, ws, rfl, rfl, s1.sq, s2.sq, by rw [r1.length, r2.length]; exact l2, fun e => ?_, fun _ e => ?_, fun _ _ p hp => ?_⟩
    · have e2 := nil r1 e
      subst e2
      exact hq.use hr (mk_tup s2 r2) w
    · have e2 := nil r2 e
      subst e2
      rw [List.append_nil] at w
      exact hq.use hr (mk_tup s1 r1) w
    · exact hq _ _ _ _ (Ext.new hp) (HRel.new hp hr) (Rep.newT hr hp (r1.append r2)) w⟩
theorem oz_add : OpZ X (binaryOp .Add) zAdd := by
  refine OpZ.or oz_addI (OpZ.or oz_addS oz_addT (z := fun a b M q => (∃ i j : Str, a = .str i ∧ b = .str j ∧ i.length + j.length ≤ sizeLine ∧ q (.str (i ++ j)) M) ∨ _) fun _ _ _ _ h => h) fun a b M q h => ?_
  cases a <;> cases b <;> first | exact False.elim h | skip
  · exact .inl ⟨_, _, rfl, rfl, h⟩
  · exact .inr (.inl ⟨_, _, rfl, rfl, h⟩)
  · exact .inr (.inr ⟨_, _, rfl, rfl, h⟩)
theorem oz_sub : OpZ X (binaryOp .Sub) zSub :=
  ⟨_, op_sub, fun d1 d2 v1 v2 M H q Q hr h1 h2 hq w => by
    cases d1 <;> cases d2 <;> first | exact False.elim w | skip
    exact ⟨_, _, rep_int h1, rep_int h2, hq.use hr mk_int w⟩⟩
theorem opr_mul : OpR X (binaryOp .Mult) (rI IntMulOk fun i j => .int (i * j)) := opI fun _ _ _ _ _ _ _ hc q => mul_int q hc
theorem opr_fdiv : OpR X (binaryOp .FloorDiv) (rI DivOk fun i j => .int (i.fdiv j)) := opI fun _ _ _ _ _ _ _ hc q => floordiv_int hc.1 q (.inl hc.2)
theorem opr_pow : OpR X (binaryOp .Pow) (rI PowOk fun i j => .int (i ^ j.toNat)) := opI fun _ _ _ _ _ _ _ hc q => pow_int hc.1 hc.2 q
theorem oz_of {o : Operator} {z : Z2} {C : Int → Int → Prop} {g : Int → Int → Int} (ho : OpR X (binaryOp o) (rI C fun i j => .int (g i j))) (hz : ∀ d1 d2 M q, z d1 d2 M q → ∃ i j, d1 = .int i ∧ d2 = .int j ∧ C i j ∧ q (.int (g i j)) M) : OpZ X (binaryOp o) z :=
  Z2.intC (gd := fun i j => .int (g i j)) ho (fun _ _ _ _ _ => mk_int) hz
theorem oz_op (o : Op) : OpZ X (binaryOp (opOf o)) (zOp o) := by
  cases o with
  | add => exact oz_add
  | sub => exact oz_sub
  | mul => exact oz_of opr_mul fun d1 d2 M q w => by cases d1 <;> cases d2 <;> first | exact False.elim w | exact ⟨_, _, rfl, rfl, w⟩
  | fdiv => exact oz_of opr_fdiv fun d1 d2 M q w => by cases d1 <;> cases d2 <;> first | exact False.elim w | exact ⟨_, _, rfl, rfl, w⟩
  | mod => exact oz_of op_modN fun d1 d2 M q w => by cases d1 <;> cases d2 <;> first | exact False.elim w | exact ⟨_, _, rfl, rfl, w⟩
  | pow => exact oz_of opr_pow fun d1 d2 M q w => by cases d1 <;> cases d2 <;> first | exact False.elim w | exact ⟨_, _, rfl, rfl, w⟩
  | shl => exact oz_of op_shlW fun d1 d2 M q w => by cases d1 <;> cases d2 <;> first | exact False.elim w | exact ⟨_, _, rfl, rfl, w⟩
end

/-! ### comparisons -/
inductive Co where
  | eq | ne | lt | le | gt | ge | is | isn | mem | nmem
def coOf : Co → CmpOp
  | .eq => .Eq | .ne => .NotEq | .lt => .Lt | .le => .LtE | .gt => .Gt | .ge => .GtE | .is => .Is | .isn => .IsNot | .mem => .In | .nmem => .NotIn
def zEq : Z2 := fun a b M q => (okd 60 a = true ∧ okd 60 b = true) ∧ q (.bl (eqD a b)) M
def zNe : Z2 := fun a b M q => (okd 60 a = true ∧ okd 60 b = true) ∧ q (.bl (!eqD a b)) M
def zIntC (p : Int → Int → Bool) : Z2
  | .int i, .int j, M, q => q (.bl (p i j)) M
  | _, _, _, _ => False
def isNon : D → Bool
  | .non => true
  | _ => false
def zIs : Z2
  | a, .non, M, q => q (.bl (isNon a)) M
  | _, _, _, _ => False
def zIsn : Z2
  | a, .non, M, q => q (.bl (!isNon a)) M
  | _, _, _, _ => False
def memD (a : D) (xs : List D) : Bool := xs.any fun z => eqD z a
def zMem : Z2
  | a, .tup xs, M, q => (okd 60 a = true ∧ okd 60 (.tup xs) = true) ∧ q (.bl (memD a xs)) M
  | a, .lst xs, M, q => (okd 60 a = true ∧ okd 60 (.lst xs) = true) ∧ q (.bl (memD a xs)) M
  | .str a, .str b, M, q => q (.bl (!(Builtin.Str.occurrences b a 0 b.length 1).isEmpty)) M
  | _, _, _, _ => False
def zNmem : Z2
  | a, .tup xs, M, q => (okd 60 a = true ∧ okd 60 (.tup xs) = true) ∧ q (.bl (!memD a xs)) M
  | a, .lst xs, M, q => (okd 60 a = true ∧ okd 60 (.lst xs) = true) ∧ q (.bl (!memD a xs)) M
  | .str a, .str b, M, q => q (.bl (!(!(Builtin.Str.occurrences b a 0 b.length 1).isEmpty))) M
  | _, _, _, _ => False
def zCo : Co → Z2
  | .eq => zEq | .ne => zNe
  | .lt => zIntC fun i j => decide (i < j)
  | .le => zIntC fun i j => decide (i ≤ j)
  | .gt => zIntC fun i j => decide (j < i)
  | .ge => zIntC fun i j => decide (j ≤ i)
  | .is => zIs | .isn => zIsn
  | .mem => zMem | .nmem => zNmem

theorem isNon_rep {K : PySem.W.Frag} {H : Hp} {M : Mh} {d : D} {v : V} (h : Rep K H M d v) : decide (v = .non) = isNon d := by
  cases d with
  | non => rw [rep_non h]; rfl
  | bl b => rw [rep_bl h]; rfl
  | int b => rw [rep_int h]; rfl
  | str b => rw [rep_str h]; rfl
  | ref b => rw [rep_ref h]; rfl
  | tup ds => obtain ⟨p, vs, rfl, _⟩ := rep_tup h; rfl
  | lst ds => obtain ⟨p, vs, rfl, _⟩ := rep_lst h; rfl

def rInE (K : PySem.W.Frag) (neg : Bool) : R2 := fun x y H Q => ∃ d ds, Dp K H x d ∧ (Dp K H y (.list ds) ∨ Dp K H y (.tuple ds)) ∧ SeqAt.shaped d = true ∧ SeqAt.shaped (.list ds) = true ∧ Q (.bl (if neg then !ds.any (fun z => PyData.eqv z d) else ds.any fun z => PyData.eqv z d)) H
theorem shaped_lt {ds : List PyData} : SeqAt.shaped (.tuple ds) = SeqAt.shaped (.list ds) := by
  unfold SeqAt.shaped PyData.canLay0 PyData.depth; rfl
section
variable {X : Cx}
theorem oz_intC {c : CmpOp} {p : Int → Int → Bool} (ho : OpR X (compareOp c) (rI0 fun i j => .bl (p i j))) : OpZ X (compareOp c) (zIntC p) :=
  ⟨_, ho, fun d1 d2 v1 v2 M H q Q hr h1 h2 hq w => by
    cases d1 <;> cases d2 <;> first | exact False.elim w | skip
    exact ⟨_, _, rep_int h1, rep_int h2, hq.use hr mk_bl w⟩⟩
theorem oz_eq (hu : X.A.units + 64 < cLine) : OpZ X (compareOp .Eq) zEq :=
  ⟨_, op_eqD hu, fun d1 d2 v1 v2 M H q Q hr h1 h2 hq w =>
    ⟨_, _, Rep.dp 60 d1 v1 w.1.1 h1, Rep.dp 60 d2 v2 w.1.2 h2, okd_shaped w.1.1, okd_shaped w.1.2, hq.use hr mk_bl w.2⟩⟩
theorem oz_ne (hu : X.A.units + 64 < cLine) : OpZ X (compareOp .NotEq) zNe :=
  ⟨_, op_neD hu, fun d1 d2 v1 v2 M H q Q hr h1 h2 hq w =>
    ⟨_, _, Rep.dp 60 d1 v1 w.1.1 h1, Rep.dp 60 d2 v2 w.1.2 h2, okd_shaped w.1.1, okd_shaped w.1.2, hq.use hr mk_bl w.2⟩⟩
theorem oz_is : OpZ X (compareOp .Is) zIs :=
  ⟨_, op_isN, fun d1 d2 v1 v2 M H q Q hr h1 h2 hq w => by
    cases d2 <;> first | exact False.elim w | skip
    exact ⟨rep_non h2, by rw [isNon_rep h1]; exact hq.use hr mk_bl w⟩⟩
theorem oz_isn : OpZ X (compareOp .IsNot) zIsn :=
  ⟨_, op_notN, fun d1 d2 v1 v2 M H q Q hr h1 h2 hq w => by
    cases d2 <;> first | exact False.elim w | skip
    exact ⟨rep_non h2, by rw [isNon_rep h1]; exact hq.use hr mk_bl w⟩⟩
end
end Zz
end
section
/-! Z3: in, subscripts, slices, built-ins, methods over D. -/
namespace Zz
open PySem PySem.Spec PyProof.Rows L2

section
variable {X : Cx}
def rMemT (K : PySem.W.Frag) (neg : Bool) : R2 := fun x y H Q => ∃ d ds, Dp K H x d ∧ Dp K H y (.tuple ds) ∧ SeqAt.shaped d = true ∧ SeqAt.shaped (.list ds) = true ∧ Q (.bl (if neg then !ds.any (fun z => PyData.eqv z d) else ds.any fun z => PyData.eqv z d)) H
theorem opr_memT (hu : X.A.units + 65 < cLine) : OpR X (compareOp .In) (rMemT X.K false) := by
  intro pins s σ H x y v u Q I rx ry h
  obtain ⟨d, ds, hd, he, sd, se, q⟩ := h
  obtain ⟨as, r1⟩ := Dp.reads I d x v hd rx
  obtain ⟨bs, r2⟩ := Dp.reads I (.tuple ds) y u he ry
  exact SeqAt.in_tuple_reads r2 r1 (SeqAt.canLay_of_shaped se) (SeqAt.canLay_of_shaped sd) (room_in_shaped sd hu) ⟨.bl _, H, I, rfl, q⟩
theorem opr_nmemT (hu : X.A.units + 65 < cLine) : OpR X (compareOp .NotIn) (rMemT X.K true) := by
  intro pins s σ H x y v u Q I rx ry h
  obtain ⟨d, ds, hd, he, sd, se, q⟩ := h
  obtain ⟨as, r1⟩ := Dp.reads I d x v hd rx
  obtain ⟨bs, r2⟩ := Dp.reads I (.tuple ds) y u he ry
  exact SeqAt.notIn_tuple_reads r2 r1 (SeqAt.canLay_of_shaped se) (SeqAt.canLay_of_shaped sd) (room_in_shaped sd hu) ⟨.bl _, H, I, rfl, q⟩
theorem any_toPys (a : D) : ∀ xs : List D, (toPys xs).any (fun z => PyData.eqv z (toPy a)) = memD a xs
  | [] => rfl
  | x :: xs => by
    unfold toPys memD
    rw [List.any_cons, List.any_cons, any_toPys a xs]
    rfl
theorem okd_lt {xs : List D} {n : Nat} : okd n (.lst xs) = okd n (.tup xs) := by
  cases n <;> rfl
theorem toPy_tup {xs : List D} : toPy (.tup xs) = .tuple (toPys xs) := by unfold toPy; rfl
theorem toPy_lst {xs : List D} : toPy (.lst xs) = .list (toPys xs) := by unfold toPy; rfl
theorem oz_mem (hu : X.A.units + 65 < cLine) : OpZ X (compareOp .In) zMem := by
  have h1 : OpZ X (compareOp .In) (fun a b M q => ∃ xs, b = .tup xs ∧ (okd 60 a = true ∧ okd 60 (.tup xs) = true) ∧ q (.bl (memD a xs)) M) :=
    ⟨_, opr_memT hu, fun d1 d2 v1 v2 M H q Q hr h1 h2 hq w => by
      obtain ⟨xs, rfl, w1, w2⟩ := w
      refine ⟨_, toPys xs, Rep.dp 60 d1 v1 w1.1 h1, by rw [← toPy_tup]; exact Rep.dp 60 _ v2 w1.2 h2, okd_shaped w1.1, by rw [← shaped_lt, ← toPy_tup]; exact okd_shaped w1.2, ?_⟩
      rw [any_toPys]; exact hq.use hr mk_bl w2⟩
  have h2 : OpZ X (compareOp .In) (fun a b M q => ∃ xs, b = .lst xs ∧ (okd 60 a = true ∧ okd 60 (.lst xs) = true) ∧ q (.bl (memD a xs)) M) :=
    ⟨_, op_inD hu, fun d1 d2 v1 v2 M H q Q hr h1 h2 hq w => by
      obtain ⟨xs, rfl, w1, w2⟩ := w
      refine ⟨_, toPys xs, Rep.dp 60 d1 v1 w1.1 h1, by rw [← toPy_lst]; exact Rep.dp 60 _ v2 w1.2 h2, okd_shaped w1.1, by rw [← toPy_lst]; exact okd_shaped w1.2, ?_⟩
      rw [any_toPys]; exact hq.use hr mk_bl w2⟩
  have h3 : OpZ X (compareOp .In) (fun a b M q => ∃ i j : Str, a = .str i ∧ b = .str j ∧ q (.bl (!(Builtin.Str.occurrences j i 0 j.length 1).isEmpty)) M) :=
    ⟨_, op_in_str, fun d1 d2 v1 v2 M H q Q hr h1 h2 hq w => by
      obtain ⟨i, j, rfl, rfl, w⟩ := w
      exact ⟨i, j, rep_str h1, rep_str h2, hq.use hr mk_bl w⟩⟩
  refine OpZ.or h1 (OpZ.or h2 h3 (z := fun a b M q => (∃ xs, b = .lst xs ∧ (okd 60 a = true ∧ okd 60 (.lst xs) = true) ∧ q (.bl (memD a xs)) M) ∨ _) fun _ _ _ _ h => h) fun a b M q h => ?_
  cases b with
  | tup xs => cases a <;> exact .inl ⟨_, rfl, h⟩
  | lst xs => cases a <;> exact .inr (.inl ⟨_, rfl, h⟩)
  | str y => cases a <;> first | exact False.elim h | exact .inr (.inr ⟨_, _, rfl, rfl, h⟩)
  | _ => cases a <;> exact False.elim h
theorem oz_nmem (hu : X.A.units + 65 < cLine) : OpZ X (compareOp .NotIn) zNmem := by
  have h1 : OpZ X (compareOp .NotIn) (fun a b M q => ∃ xs, b = .tup xs ∧ (okd 60 a = true ∧ okd 60 (.tup xs) = true) ∧ q (.bl (!memD a xs)) M) :=
    ⟨_, opr_nmemT hu, fun d1 d2 v1 v2 M H q Q hr h1 h2 hq w => by
      obtain ⟨xs, rfl, w1, w2⟩ := w
      refine ⟨_, toPys xs, Rep.dp 60 d1 v1 w1.1 h1, by rw [← toPy_tup]; exact Rep.dp 60 _ v2 w1.2 h2, okd_shaped w1.1, by rw [← shaped_lt, ← toPy_tup]; exact okd_shaped w1.2, ?_⟩
      rw [any_toPys]; exact hq.use hr mk_bl w2⟩
  have h2 : OpZ X (compareOp .NotIn) (fun a b M q => ∃ xs, b = .lst xs ∧ (okd 60 a = true ∧ okd 60 (.lst xs) = true) ∧ q (.bl (!memD a xs)) M) :=
    ⟨_, op_notInD hu, fun d1 d2 v1 v2 M H q Q hr h1 h2 hq w => by
      obtain ⟨xs, rfl, w1, w2⟩ := w
      refine ⟨_, toPys xs, Rep.dp 60 d1 v1 w1.1 h1, by rw [← toPy_lst]; exact Rep.dp 60 _ v2 w1.2 h2, okd_shaped w1.1, by rw [← toPy_lst]; exact okd_shaped w1.2, ?_⟩
      rw [any_toPys]; exact hq.use hr mk_bl w2⟩
  have h3 : OpZ X (compareOp .NotIn) (fun a b M q => ∃ i j : Str, a = .str i ∧ b = .str j ∧ q (.bl (!(!(Builtin.Str.occurrences j i 0 j.length 1).isEmpty))) M) :=
    ⟨_, op_notIn_str, fun d1 d2 v1 v2 M H q Q hr h1 h2 hq w => by
      obtain ⟨i, j, rfl, rfl, w⟩ := w
      exact ⟨i, j, rep_str h1, rep_str h2, hq.use hr mk_bl w⟩⟩
  refine OpZ.or h1 (OpZ.or h2 h3 (z := fun a b M q => (∃ xs, b = .lst xs ∧ (okd 60 a = true ∧ okd 60 (.lst xs) = true) ∧ q (.bl (!memD a xs)) M) ∨ _) fun _ _ _ _ h => h) fun a b M q h => ?_
  cases b with
  | tup xs => cases a <;> exact .inl ⟨_, rfl, h⟩
  | lst xs => cases a <;> exact .inr (.inl ⟨_, rfl, h⟩)
  | str y => cases a <;> first | exact False.elim h | exact .inr (.inr ⟨_, _, rfl, rfl, h⟩)
  | _ => cases a <;> exact False.elim h
theorem oz_co (hu : X.A.units + 65 < cLine) (c : Co) : OpZ X (compareOp (coOf c)) (zCo c) := by
  cases c with
  | eq => exact oz_eq (by omega)
  | ne => exact oz_ne (by omega)
  | lt => exact oz_intC op_lt
  | le => exact oz_intC op_le
  | gt => exact oz_intC op_gt
  | ge => exact oz_intC op_ge
  | is => exact oz_is
  | isn => exact oz_isn
  | mem => exact oz_mem hu
  | nmem => exact oz_nmem hu
end

/-! ### subscripts -/
def itemsOf (M : Mh) : D → Option (List D)
  | .tup xs => some xs
  | .lst xs => some xs
  | .ref a => match M a with
    | some (.lst xs) => some xs
    | none => none
  | _ => none
def zIx : Z2
  | .str z, .int i, M, q => z.length ≤ sizeLine ∧ ∃ c, atI z.cps.toList i = some c ∧ q (.str ⟨#[c]⟩) M
  | d, .int i, M, q => ∃ xs, itemsOf M d = some xs ∧ ∃ x, atI xs i = some x ∧ q x M
  | _, _, _, _ => False
theorem Reps.atI {K : PySem.W.Frag} {H : Hp} {M : Mh} {ds : List D} {vs : List V} {i : Int} {x : D} (r : Reps K H M ds vs) (h : L2.atI ds i = some x) : ∃ v, L2.atI vs i = some v ∧ Rep K H M x v := by
  unfold L2.atI at h ⊢
  rw [r.length]
  cases e : ixN ds.length i with
  | none => rw [e] at h; cases h
  | some j =>
    rw [e] at h
    obtain ⟨v, h1, h2⟩ := r.get h
    exact ⟨v, h1, h2⟩
theorem itemsOf_rep {K : PySem.W.Frag} {H : Hp} {M : Mh} {d : D} {xs : List D} {v : V} (hr : HRel K M H) (h : itemsOf M d = some xs) (r : Rep K H M d v) : ∃ p vs, v = .ref p ∧ (SqL K H p vs ∨ SqT K H p vs) ∧ Reps K H M xs vs := by
  cases d with
  | tup ds => cases h; obtain ⟨p, vs, e, s, t⟩ := rep_tup r; exact ⟨p, vs, e, .inr s.sq, t⟩
  | lst ds => cases h; obtain ⟨p, vs, e, s, t⟩ := rep_lst r; exact ⟨p, vs, e, .inl s.sq, t⟩
  | ref a =>
    unfold itemsOf at h
    cases e : M a with
    | none => simp only [e] at h; cases h
    | some o =>
      cases o with
      | lst ds =>
        simp only [e] at h; cases h
        obtain ⟨vs, e1, e2⟩ := hr a _ e
        exact ⟨a, vs, rep_ref r, .inl (SqL.of e1), e2⟩
  | _ => cases h
def IxZ (X : Cx) (z : Z2) : Prop := ∃ r, IxR X r ∧ R2Rep X.K z r
theorem iz_ix {X : Cx} : IxZ X zIx := by
  refine ⟨_, ix_seq, fun d1 d2 v1 v2 M H q Q hr h1 h2 hq w => ?_⟩
  have key : ∀ i, d2 = .int i → (∃ xs, itemsOf M d1 = some xs ∧ ∃ x, atI xs i = some x ∧ q x M) → rIx X.K v1 v2 H Q := fun i e w' => by
    obtain ⟨xs, e1, x, e2, w'⟩ := w'
    rw [e] at h2
    obtain ⟨p, vs, rfl, s, t⟩ := itemsOf_rep hr e1 h1
    obtain ⟨v, e3, e4⟩ := t.atI e2
    rcases s with s | s
    · exact .inl ⟨p, vs, i, v, rfl, rep_int h2, s, e3, hq.use hr e4 w'⟩
    · exact .inr (.inl ⟨p, vs, i, v, rfl, rep_int h2, s, e3, hq.use hr e4 w'⟩)
  cases d2 with
  | int i =>
    cases d1 with
    | str z =>
      obtain ⟨l, c, e, w⟩ := w
      exact .inr (.inr ⟨z, _, c, rep_str h1, rep_int h2, l, e, hq.use hr mk_str w⟩)
    | non => exact key _ rfl w
    | bl b => exact key _ rfl w
    | int b => exact key _ rfl w
    | tup b => exact key _ rfl w
    | lst b => exact key _ rfl w
    | ref b => exact key _ rfl w
  | non => cases d1 <;> exact False.elim w
  | bl b => cases d1 <;> exact False.elim w
  | str b => cases d1 <;> exact False.elim w
  | tup b => cases d1 <;> exact False.elim w
  | lst b => cases d1 <;> exact False.elim w
  | ref b => cases d1 <;> exact False.elim w

/-! ### slices -/
abbrev ZSl := D → Option Int → Option Int → Mh → KD → Prop
def cutD (xs : List D) (lo hi : Option Int) : List D := (xs.drop (HT.sIx xs.length 0 lo)).take (HT.sIx xs.length xs.length hi - HT.sIx xs.length 0 lo)
/-- the slices of tuples and lists that stand still are new ones -/
def zSl : ZSl
  | .tup xs, lo, hi, M, q => q (.tup (cutD xs lo hi)) M
  | .str z, lo, hi, M, q => z.length ≤ sizeLine ∧ q (.str (cutS z lo hi)) M
  | d, lo, hi, M, q => ∃ xs, itemsOf M d = some xs ∧ q (.lst (cutD xs lo hi)) M
theorem Reps.cut {K : PySem.W.Frag} {H : Hp} {M : Mh} {ds : List D} {vs : List V} (r : Reps K H M ds vs) (lo hi : Option Int) : Reps K H M (cutD ds lo hi) (cutV vs lo hi) := by
  unfold cutD cutV
  rw [r.length]
  exact (r.drop _).take _
def SlZ (X : Cx) (z : ZSl) : Prop := ∃ r, SlR X r ∧ ∀ d v lo hi M H q Q, HRel X.K M H → Rep X.K H M d v → QRel X.K M H q Q → z d lo hi M q → r v lo hi H Q
theorem sz_sl {X : Cx} : SlZ X zSl := by
  refine ⟨_, (sl_tupA (X := X)).or ((sl_list (X := X)).or (sl_str (X := X))), fun d v lo hi M H q Q hr h hq w => ?_⟩
  have key : (∃ xs, itemsOf M d = some xs ∧ q (.lst (cutD xs lo hi)) M) → (∀ p vs, v = .ref p → ¬ SqT X.K H p vs) ∨ (∃ p vs, v = .ref p ∧ SqL X.K H p vs ∧ ∃ xs, Reps X.K H M xs vs ∧ q (.lst (cutD xs lo hi)) M) → rSlL X.K v lo hi H Q := fun _ z => by
    rcases z with z | ⟨p, vs, rfl, s, xs, r, w'⟩
    · rename_i z0
      obtain ⟨xs, e1, w'⟩ := z0
      obtain ⟨p, vs, rfl, s, t⟩ := itemsOf_rep hr e1 h
      rcases s with s | s
      · exact ⟨p, vs, rfl, s, fun l hl => hq _ _ _ _ (Ext.new hl) (HRel.new hl hr) (Rep.newL hr hl (t.cut lo hi)) w'⟩
      · exact (z p vs rfl s).elim
    · exact ⟨p, vs, rfl, s, fun l hl => hq _ _ _ _ (Ext.new hl) (HRel.new hl hr) (Rep.newL hr hl (r.cut lo hi)) w'⟩
  cases d with
  | tup ds =>
    obtain ⟨p, vs, rfl, s, t⟩ := rep_tup h
    refine .inl ⟨p, vs, rfl, s.sq, fun e => ?_, fun _ l hl => hq _ _ _ _ (Ext.new hl) (HRel.new hl hr) (Rep.newT hr hl (t.cut lo hi)) w⟩
    have w : q (.tup (cutD ds lo hi)) M := w
    have e2 : cutD ds lo hi = ds := by
      unfold cutD
      rw [t.length] at e
      rw [e.1, e.2, List.drop_zero]
      simp
    rw [e2] at w
    exact hq.use hr (mk_tup s t) w
  | lst ds =>
    obtain ⟨p, vs, rfl, s, t⟩ := rep_lst h
    obtain ⟨xs, e, w⟩ := w
    cases e
    exact .inr (.inl (key ⟨_, rfl, w⟩ (.inr ⟨p, vs, rfl, s.sq, _, t, w⟩)))
  | ref a =>
    obtain ⟨xs, e, w⟩ := w
    unfold itemsOf at e
    cases e0 : M a with
    | none => simp only [e0] at e; cases e
    | some o =>
      cases o with
      | lst ds =>
        simp only [e0] at e; cases e
        obtain ⟨vs, e1, e2⟩ := hr a _ e0
        have := rep_ref h
        subst this
        exact .inr (.inl ⟨a, vs, rfl, SqL.of e1, fun l hl => hq _ _ _ _ (Ext.new hl) (HRel.new hl hr) (Rep.newL hr hl (e2.cut lo hi)) w⟩)
  | str z => exact .inr (.inr ⟨z, rep_str h, w.1, hq.use hr mk_str w.2⟩)
  | non => obtain ⟨xs, e, w⟩ := w; cases e
  | bl b => obtain ⟨xs, e, w⟩ := w; cases e
  | int b => obtain ⟨xs, e, w⟩ := w; cases e
end Zz
end
section
/-! Z4: built-ins and methods over D. -/
namespace Zz
open PySem PySem.Spec PyProof.Rows L2

abbrev ZC := List D → Mh → KD → Prop
def CallZ (X : Cx) (f : Value) (z : ZC) : Prop := ∃ r, CallR X f r ∧ ∀ ds vs M H q Q, HRel X.K M H → Reps X.K H M ds vs → QRel X.K M H q Q → z ds M q → r vs H Q

/-- the items of a list -/
def listOfD (M : Mh) : D → Option (List D)
  | .lst xs => some xs
  | .ref a => match M a with
    | some (.lst xs) => some xs
    | none => none
  | _ => none
theorem listOfD_rep {K : PySem.W.Frag} {H : Hp} {M : Mh} {d : D} {xs : List D} {v : V} (hr : HRel K M H) (h : listOfD M d = some xs) (r : Rep K H M d v) : ∃ p vs, v = .ref p ∧ SqL K H p vs ∧ Reps K H M xs vs := by
  cases d with
  | lst ds => cases h; obtain ⟨p, vs, e, s, t⟩ := rep_lst r; exact ⟨p, vs, e, s.sq, t⟩
  | ref a =>
    unfold listOfD at h
    cases e : M a with
    | none => simp only [e] at h; cases h
    | some o =>
      cases o with
      | lst ds =>
        simp only [e] at h; cases h
        obtain ⟨vs, e1, e2⟩ := hr a _ e
        exact ⟨a, vs, rep_ref r, SqL.of e1, e2⟩
  | _ => cases h
theorem reps1 {K : PySem.W.Frag} {H : Hp} {M : Mh} {d : D} {vs : List V} (r : Reps K H M [d] vs) : ∃ v, vs = [v] ∧ Rep K H M d v := by
  obtain ⟨v, t, rfl, h, e⟩ := r.uncons
  rw [Reps.nil_iff.mp e]
  exact ⟨v, rfl, h⟩
theorem reps2 {K : PySem.W.Frag} {H : Hp} {M : Mh} {d e : D} {vs : List V} (r : Reps K H M [d, e] vs) : ∃ v w, vs = [v, w] ∧ Rep K H M d v ∧ Rep K H M e w := by
  obtain ⟨v, t, rfl, h, r⟩ := r.uncons
  obtain ⟨w, rfl, h2⟩ := reps1 r
  exact ⟨v, w, rfl, h, h2⟩
theorem reps_bls {K : PySem.W.Frag} {H : Hp} {M : Mh} : ∀ {bs : List Bool} {vs : List V}, Reps K H M (bs.map D.bl) vs → vs = bs.map V.bl
  | [], vs, r => Reps.nil_iff.mp r
  | b :: bs, vs, r => by
    obtain ⟨v, t, rfl, h, r⟩ := Reps.uncons r
    rw [rep_bl h, reps_bls r]; rfl
theorem reps_ints {K : PySem.W.Frag} {H : Hp} {M : Mh} : ∀ {bs : List Int} {vs : List V}, Reps K H M (bs.map D.int) vs → vs = bs.map V.int
  | [], vs, r => Reps.nil_iff.mp r
  | b :: bs, vs, r => by
    obtain ⟨v, t, rfl, h, r⟩ := Reps.uncons r
    rw [rep_int h, reps_ints r]; rfl
theorem ints_reps {K : PySem.W.Frag} {H : Hp} {M : Mh} : ∀ (bs : List Int), Reps K H M (bs.map D.int) (bs.map V.int)
  | [] => Reps.nil
  | b :: bs => Reps.cons mk_int (ints_reps bs)

def ShowOk (d : D) : Prop := okd 60 d = true ∧ (toPy d).showable = true ∧ (toPy d).shown.length ≤ sizeLine

inductive Bi where
  | len | abs | all | any | max2 | min2 | int1 | sum | list1 | tuple1 | repr
def biName : Bi → Str
  | .len => "len" | .abs => "abs" | .all => "all" | .any => "any" | .max2 => "max" | .min2 => "min" | .int1 => "int" | .sum => "sum" | .list1 => "list" | .tuple1 => "tuple" | .repr => "repr"
def biVal : Bi → Value
  | .len => .builtin "len" | .abs => .builtin "abs" | .all => .builtin "all" | .any => .builtin "any" | .max2 => .builtin "max" | .min2 => .builtin "min"
  | .int1 => .type "int" | .sum => .builtin "sum" | .list1 => .type "list" | .tuple1 => .type "tuple" | .repr => .builtin "repr"
def zLen : ZC
  | [.str z], M, q => z.length ≤ sizeLine ∧ q (.int z.length) M
  | [d], M, q => ∃ xs, itemsOf M d = some xs ∧ q (.int xs.length) M
  | _, _, _ => False
def zAbs : ZC
  | [.int i], M, q => q (.int i.natAbs) M
  | _, _, _ => False
def zAll : ZC
  | [d], M, q => ∃ bs : List Bool, listOfD M d = some (bs.map D.bl) ∧ q (.bl (bs.all id)) M
  | _, _, _ => False
def zAny : ZC
  | [d], M, q => ∃ bs : List Bool, listOfD M d = some (bs.map D.bl) ∧ q (.bl (bs.any id)) M
  | _, _, _ => False
def zMax2 : ZC
  | [.int i, .int j], M, q => q (.int (max i j)) M
  | _, _, _ => False
def zMin2 : ZC
  | [.int i, .int j], M, q => q (.int (min i j)) M
  | _, _, _ => False
def zInt1 : ZC
  | [.int i], M, q => q (.int i) M
  | [.bl b], M, q => q (.int (if b then 1 else 0)) M
  | _, _, _ => False
def zSum : ZC
  | [d], M, q => ∃ ns : List Int, listOfD M d = some (ns.map D.int) ∧ q (.int ns.sum) M
  | _, _, _ => False
def zList1 : ZC
  | [d], M, q => ∃ xs, itemsOf M d = some xs ∧ q (.lst xs) M
  | _, _, _ => False
def zTuple1 : ZC
  | [d], M, q => ∃ xs, itemsOf M d = some xs ∧ q (.tup xs) M
  | _, _, _ => False
def zRepr : ZC
  | [.int i], M, q => i.natAbs.log2 < 1920 ∧ q (.str (toString i)) M
  | [d], M, q => (ShowOk d ∧ (∃ xs, d = .tup xs ∨ d = .lst xs)) ∧ q (.str (toPy d).shown) M
  | _, _, _ => False
def zBi : Bi → ZC
  | .len => zLen | .abs => zAbs | .all => zAll | .any => zAny | .max2 => zMax2 | .min2 => zMin2 | .int1 => zInt1 | .sum => zSum | .list1 => zList1 | .tuple1 => zTuple1 | .repr => zRepr

theorem CallZ.or {X : Cx} {f : Value} {z z1 z2 : ZC} (h1 : CallZ X f z1) (h2 : CallZ X f z2) (h : ∀ ds M q, z ds M q → z1 ds M q ∨ z2 ds M q) : CallZ X f z := by
  obtain ⟨r1, o1, e1⟩ := h1
  obtain ⟨r2, o2, e2⟩ := h2
  refine ⟨_, o1.or o2, fun ds vs M H q Q hr r hq w => ?_⟩
  rcases h _ _ _ w with w | w
  · exact .inl (e1 _ _ _ _ _ _ hr r hq w)
  · exact .inr (e2 _ _ _ _ _ _ hr r hq w)

section
variable {X : Cx}
theorem cz_len : CallZ X (.builtin "len") zLen := by
  refine ⟨_, call_len_seq.or call_len_str, fun ds vs M H q Q hr r hq w => ?_⟩
  match ds, w with
  | [.str z], w =>
    obtain ⟨v, rfl, h⟩ := reps1 r
    rw [rep_str h]
    exact .inr ⟨z, rfl, w.1, hq.use hr mk_int w.2⟩
  | [.non], w => obtain ⟨xs, e, w⟩ := w; cases e
  | [.bl _], w => obtain ⟨xs, e, w⟩ := w; cases e
  | [.int _], w => obtain ⟨xs, e, w⟩ := w; cases e
  | [.tup ds], w =>
    obtain ⟨v, rfl, h⟩ := reps1 r
    obtain ⟨xs, e, w⟩ := w
    obtain ⟨p, us, rfl, s, t⟩ := itemsOf_rep hr e h
    exact .inl ⟨p, us, rfl, s, by rw [t.length]; exact hq.use hr mk_int w⟩
  | [.lst ds], w =>
    obtain ⟨v, rfl, h⟩ := reps1 r
    obtain ⟨xs, e, w⟩ := w
    obtain ⟨p, us, rfl, s, t⟩ := itemsOf_rep hr e h
    exact .inl ⟨p, us, rfl, s, by rw [t.length]; exact hq.use hr mk_int w⟩
  | [.ref a], w =>
    obtain ⟨v, rfl, h⟩ := reps1 r
    obtain ⟨xs, e, w⟩ := w
    obtain ⟨p, us, rfl, s, t⟩ := itemsOf_rep hr e h
    exact .inl ⟨p, us, rfl, s, by rw [t.length]; exact hq.use hr mk_int w⟩
  | [], w => exact False.elim w
  | .str _ :: _ :: _, w => exact False.elim w
  | .non :: _ :: _, w => exact False.elim w
  | .bl _ :: _ :: _, w => exact False.elim w
  | .int _ :: _ :: _, w => exact False.elim w
  | .tup _ :: _ :: _, w => exact False.elim w
  | .lst _ :: _ :: _, w => exact False.elim w
  | .ref _ :: _ :: _, w => exact False.elim w
theorem cz_abs : CallZ X (.builtin "abs") zAbs := by
  refine ⟨_, call_abs, fun ds vs M H q Q hr r hq w => ?_⟩
  unfold zAbs at w
  split at w
  · obtain ⟨v, rfl, h⟩ := reps1 r
    rename_i i
    refine ⟨i, by rw [rep_int h], ?_⟩
    have e : (if i < 0 then -i else i) = (i.natAbs : Int) := by split <;> omega
    rw [e]; exact hq.use hr mk_int w
  · exact False.elim w
theorem cz_all (hc : X.calm = true) : CallZ X (.builtin "all") zAll := by
  refine ⟨_, cr_all hc, fun ds vs M H q Q hr r hq w => ?_⟩
  unfold zAll at w
  split at w
  · obtain ⟨v, rfl, h⟩ := reps1 r
    obtain ⟨bs, e, w⟩ := w
    obtain ⟨p, us, rfl, s, t⟩ := listOfD_rep hr e h
    rw [reps_bls t] at s
    exact ⟨p, bs, rfl, s, hq.use hr mk_bl w⟩
  · exact False.elim w
theorem cz_any (hc : X.calm = true) : CallZ X (.builtin "any") zAny := by
  refine ⟨_, cr_any hc, fun ds vs M H q Q hr r hq w => ?_⟩
  unfold zAny at w
  split at w
  · obtain ⟨v, rfl, h⟩ := reps1 r
    obtain ⟨bs, e, w⟩ := w
    obtain ⟨p, us, rfl, s, t⟩ := listOfD_rep hr e h
    rw [reps_bls t] at s
    exact ⟨p, bs, rfl, s, hq.use hr mk_bl w⟩
  · exact False.elim w
theorem cz_max (hc : X.calm = true) : CallZ X (.builtin "max") zMax2 := by
  refine ⟨_, call_max2 hc, fun ds vs M H q Q hr r hq w => ?_⟩
  unfold zMax2 at w
  split at w
  · obtain ⟨v, u, rfl, h, h2⟩ := reps2 r
    rename_i i j
    refine ⟨i, j, by rw [rep_int h, rep_int h2], ?_⟩
    have e : (if j > i then j else i) = max i j := by split <;> omega
    rw [e]; exact hq.use hr mk_int w
  · exact False.elim w
theorem cz_min (hc : X.calm = true) : CallZ X (.builtin "min") zMin2 := by
  refine ⟨_, call_min2 hc, fun ds vs M H q Q hr r hq w => ?_⟩
  unfold zMin2 at w
  split at w
  · obtain ⟨v, u, rfl, h, h2⟩ := reps2 r
    rename_i i j
    refine ⟨i, j, by rw [rep_int h, rep_int h2], ?_⟩
    have e : (if j < i then j else i) = min i j := by split <;> omega
    rw [e]; exact hq.use hr mk_int w
  · exact False.elim w
theorem cz_int : CallZ X (.type "int") zInt1 := by
  refine ⟨_, call_int1, fun ds vs M H q Q hr r hq w => ?_⟩
  unfold zInt1 at w
  split at w
  · obtain ⟨v, rfl, h⟩ := reps1 r
    exact .inl ⟨_, by rw [rep_int h], hq.use hr mk_int w⟩
  · obtain ⟨v, rfl, h⟩ := reps1 r
    exact .inr ⟨_, by rw [rep_bl h], hq.use hr mk_int w⟩
  · exact False.elim w
theorem cz_sum (hc : X.calm = true) : CallZ X (.builtin "sum") zSum := by
  refine ⟨_, cr_sum hc, fun ds vs M H q Q hr r hq w => ?_⟩
  unfold zSum at w
  split at w
  · obtain ⟨v, rfl, h⟩ := reps1 r
    obtain ⟨bs, e, w⟩ := w
    obtain ⟨p, us, rfl, s, t⟩ := listOfD_rep hr e h
    rw [reps_ints t] at s
    exact ⟨p, bs, rfl, s, hq.use hr mk_int w⟩
  · exact False.elim w
theorem cz_list : CallZ X (.type "list") zList1 := by
  refine ⟨_, call_list_of, fun ds vs M H q Q hr r hq w => ?_⟩
  unfold zList1 at w
  split at w
  · obtain ⟨v, rfl, h⟩ := reps1 r
    obtain ⟨bs, e, w⟩ := w
    obtain ⟨p, us, rfl, s, t⟩ := itemsOf_rep hr e h
    exact ⟨p, us, rfl, s, fun l hl => hq _ _ _ _ (Ext.new hl) (HRel.new hl hr) (Rep.newL hr hl t) w⟩
  · exact False.elim w
theorem cz_tuple : CallZ X (.type "tuple") zTuple1 := by
  refine ⟨_, call_tuple_of, fun ds vs M H q Q hr r hq w => ?_⟩
  unfold zTuple1 at w
  split at w
  · rename_i d
    obtain ⟨v, rfl, h⟩ := reps1 r
    obtain ⟨bs, e, w⟩ := w
    have new : ∀ p us, v = .ref p → SqL X.K H p us → Reps X.K H M bs us → ∃ p ys, [v] = [V.ref p] ∧ ((SqL X.K H p ys ∧ ∀ l, H l = none → Q (.ref l) (upd H l (.tup ys))) ∨ (SqT X.K H p ys ∧ Q (.ref p) H)) := fun p us ev s t =>
      ⟨p, us, by rw [ev], .inl ⟨s, fun l hl => hq _ _ _ _ (Ext.new hl) (HRel.new hl hr) (Rep.newT hr hl t) w⟩⟩
    cases d with
    | tup ds =>
      cases e
      obtain ⟨p, us, rfl, s, t⟩ := rep_tup h
      exact ⟨p, us, rfl, .inr ⟨s.sq, hq.use hr (mk_tup s t) w⟩⟩
    | lst ds => obtain ⟨p, us, ev, s, t⟩ := listOfD_rep hr (show listOfD M (.lst ds) = some bs from e) h; exact new p us ev s t
    | ref a => obtain ⟨p, us, ev, s, t⟩ := listOfD_rep hr (show listOfD M (.ref a) = some bs from e) h; exact new p us ev s t
    | non => cases e
    | bl _ => cases e
    | int _ => cases e
    | str _ => cases e
  · exact False.elim w
def rReprD (K : PySem.W.Frag) : List V → Hp → VK → Prop := fun vs H Q => ∃ a d, vs = [.ref a] ∧ Dp K H (.ref a) d ∧ d.canLay0 = true ∧ d.depth ≤ 60 ∧ d.showable = true ∧ d.shown.length ≤ sizeLine ∧ Q (.str d.shown) H
theorem call_reprD (hg : X.A.guards = some []) (hu : X.A.units + 64 < cLine) : CallR X (.builtin "repr") (rReprD X.K) := by
  intro pins s σ H xs us Q I r h
  obtain ⟨a, d, rfl, hd, hl, hdp, hs, hz, q⟩ := h
  obtain ⟨u, rfl, rfl⟩ := vals1 r
  obtain ⟨as, r1⟩ := Dp.reads I d _ _ hd rfl
  refine repr_of_reads' (h₀ := s.heap) r1 hs (PyData.noDict_hsm (PyData.hasDict_of_canLay d hl)) hg (by omega) (fun _ _ e => e) (fun h' u tk hk => ?_) hz
  exact ⟨.str d.shown, H, I.kept hk, ⟨u, rfl⟩, q⟩
theorem cz_repr (hg : X.A.guards = some []) (hu : X.A.units + 64 < cLine) : CallZ X (.builtin "repr") zRepr := by
  refine ⟨_, CallR.or SkE.call_repr_int (call_reprD hg hu), fun ds vs M H q Q hr r hq w => ?_⟩
  have big : ∀ d, ds = [d] → (ShowOk d ∧ (∃ xs, d = .tup xs ∨ d = .lst xs)) ∧ q (.str (toPy d).shown) M → rReprD X.K vs H Q := fun d e w' => by
    rw [e] at r
    obtain ⟨v, rfl, h⟩ := reps1 r
    obtain ⟨⟨⟨h1, h2, h3⟩, xs, hx⟩, w'⟩ := w'
    have := okd_lay 60 d h1
    have hd := Rep.dp 60 d v h1 h
    rcases hx with rfl | rfl
    · obtain ⟨p, us, rfl, _⟩ := rep_tup h
      exact ⟨p, _, rfl, hd, this.1, this.2, h2, h3, hq.use hr mk_str w'⟩
    · obtain ⟨p, us, rfl, _⟩ := rep_lst h
      exact ⟨p, _, rfl, hd, this.1, this.2, h2, h3, hq.use hr mk_str w'⟩
  unfold zRepr at w
  split at w
  · obtain ⟨v, rfl, h⟩ := reps1 r
    exact .inl ⟨_, by rw [rep_int h], w.1, hq.use hr mk_str w.2⟩
  · exact .inr (big _ rfl w)
  · exact False.elim w
theorem cz_bi (hc : X.calm = true) (hg : X.A.guards = some []) (hu : X.A.units + 64 < cLine) (b : Bi) : CallZ X (biVal b) (zBi b) := by
  cases b with
  | len => exact cz_len
  | abs => exact cz_abs
  | all => exact cz_all hc
  | any => exact cz_any hc
  | max2 => exact cz_max hc
  | min2 => exact cz_min hc
  | int1 => exact cz_int
  | sum => exact cz_sum hc
  | list1 => exact cz_list
  | tuple1 => exact cz_tuple
  | repr => exact cz_repr hg hu
theorem bi_boot (b : Bi) : bootBuiltins (biName b) = some (biVal b) := by
  cases b <;> decide +kernel
end

/-! ### isinstance -/
inductive Ty where
  | int | bool | str | tuple | list
def tyName : Ty → String
  | .int => "int" | .bool => "bool" | .str => "str" | .tuple => "tuple" | .list => "list"
def isTy : Ty → D → Bool
  | .int, .int _ => true
  | .int, .bl _ => true
  | .bool, .bl _ => true
  | .str, .str _ => true
  | .tuple, .tup _ => true
  | .list, .lst _ => true
  | .list, .ref _ => true
  | _, _ => false
def zIsi (T : Ty) : D → Mh → KD → Prop := fun d M q => (∀ a, d = .ref a → ∃ xs, M a = some (.lst xs)) ∧ q (.bl (isTy T d)) M
def dTy : D → String
  | .non => "NoneType" | .bl _ => "bool" | .int _ => "int" | .str _ => "str" | .tup _ => "tuple" | .lst _ => "list" | .ref _ => "list"
theorem rep_ty {K : PySem.W.Frag} {H : Hp} {M : Mh} {d : D} {v : V} (hr : HRel K M H) (h : Rep K H M d v) (hx : ∀ a, d = .ref a → ∃ xs, M a = some (.lst xs)) : TyX K H v (.type (dTy d)) := by
  cases d with
  | non => rw [rep_non h]; exact .base .non
  | bl b => rw [rep_bl h]; exact .base (.bl b)
  | int b => rw [rep_int h]; exact .base (.int b)
  | str b => rw [rep_str h]; exact .base (.str b)
  | tup ds =>
    obtain ⟨p, vs, rfl, s, t⟩ := rep_tup h
    rcases s.sq with s | ⟨o, its, n, hk, hc, _⟩
    · rcases s with s | ⟨o, s⟩
      · exact .base (.tup s)
      · exact .fTuple s
    · exact .kTuple hk hc
  | lst ds =>
    obtain ⟨p, vs, rfl, s, t⟩ := rep_lst h
    rcases s.sq with s | ⟨o, its, n, hk, hc, _⟩
    · rcases s with s | ⟨o, s⟩
      · exact .base (.lst s)
      · exact .base (.frz s)
    · exact .kList hk hc
  | ref a =>
    obtain ⟨xs, e⟩ := hx a rfl
    obtain ⟨vs, e1, _⟩ := hr a _ e
    rw [rep_ref h]
    exact .base (.lst e1)
def isTyS (T : Ty) (n : String) : Bool := n == tyName T || (tyName T == "int" && n == "bool")
theorem isTyS_eq (T : Ty) (d : D) : isTyS T (dTy d) = isTy T d := by
  cases T <;> cases d <;> rfl
theorem kit_names (T : Ty) : ∀ n ∈ ["NoneType", "bool", "int", "str", "tuple", "list"], kitB n (tyName T) = some (isTyS T n) := by
  cases T <;> decide +kernel
theorem kit_all (T : Ty) (d : D) : kitB (dTy d) (tyName T) = some (isTy T d) := by
  rw [← isTyS_eq]
  refine kit_names T _ ?_
  cases d <;> simp [dTy]
end Zz
end
section
/-! Z5: a small language of the texts' expressions and statements, its reading rd over D, and chk against the tree. -/
namespace Zz
open PySem PySem.Spec PyProof.Rows L2

mutual
inductive E where
  | var (i : Nat)
  | int (i : Int)
  | bl (b : Bool)
  | non
  | str (x : Str)
  | con (i : Nat)
  | bin (o : Op) (a b : E)
  | neg (a : E)
  | cmp (o : Co) (a b : E)
  | chain (o o' : Co) (a b c : E)
  | andd (a : E) (es : Es)
  | orr (a : E) (es : Es)
  | nott (a : E)
  | ite (c a b : E)
  | tup (es : Es)
  | tupS (es : Es)
  | lst (mu : Bool) (es : Es)
  | sub (a i : E)
  | slice (a : E) (lo hi : Oe)
  | call (f : Nat) (es ks : Es)
  | bi (b : Bi) (es : Es)
  | isi (a : E) (T : Ty)
  | bits (a : E)
  | index (o a : E)
  | app (o a : E)
  | pop (o : E)
  | lrange (es : Es)
  | lzip (a b : E)
  | comp (mu : Bool) (own : List (Str × Nat)) (tg : Tg) (src : Src) (cs : Es) (elt : E)
  | dlen (own : List (Str × Nat)) (i : Nat) (x : E)
inductive Es where
  | nil
  | cons (star : Bool) (e : E) (es : Es)
inductive Oe where
  | none
  | some (e : E)
inductive Tg where
  | name (i : Nat)
  | tup (ts : Tgs)
  | item (o i : E)
inductive Tgs where
  | nil
  | cons (t : Tg) (ts : Tgs)
inductive Src where
  | seq (e : E)
  | range (es : Es)
  | zip (a b : E)
  | enum (e : E)
end
mutual
inductive C where
  | asg (t : Tg) (e : E)
  | aug (i : Nat) (o : Op) (e : E)
  | ret (e : E)
  | retN
  | expr (e : E)
  | iff (c : E) (a b : Cs)
  | whl (c : E) (b : Cs)
  | forr (t : Tg) (s : Src) (b : Cs)
  | pass
  | brk
  | cont
  | never
inductive Cs where
  | nil
  | cons (c : C) (cs : Cs)
  | freeze (i : Nat) (cs : Cs)
end

def Es.len : Es → Nat
  | .nil => 0
  | .cons _ _ r => r.len + 1
def Es.plain : Es → Bool
  | .nil => true
  | .cons s _ r => !s && r.plain
def Tgs.len : Tgs → Nat
  | .nil => 0
  | .cons _ r => r.len + 1

/-! ### the reading -/
/-- what the defs promise (by number), what the module's constants are -/
structure Ge where
  fn : Nat → ZC
  cn : Nat → D
structure Rd where
  v : ZE
  t : ZT
def zTru : D → Mh → (Bool → Mh → Prop) → Prop
  | .non, M, k => k false M
  | .bl b, M, k => k b M
  | .int i, M, k => k (i != 0) M
  | .str z, M, k => z.length ≤ sizeLine ∧ k ((z.length : Int) != 0) M
  | .tup xs, M, k => k (!xs.isEmpty) M
  | .lst xs, M, k => k (!xs.isEmpty) M
  | .ref a, M, k => ∃ xs, itemsOf M (.ref a) = some xs ∧ k (!xs.isEmpty) M
def zBl : D → Mh → (Bool → Mh → Prop) → Prop
  | .bl b, M, k => k b M
  | _, _, _ => False
def mkT (v : ZE) : ZT := fun s M k => v s M fun d M1 => zTru d M1 k
def ofV (v : ZE) : Rd := ⟨v, mkT v⟩
def testV (v : ZE) : ZT := fun s M k => v s M fun d M1 => zBl d M1 k
def slot : Sl → Nat → Option D
  | [], _ => none
  | x :: _, 0 => x
  | _ :: r, n + 1 => slot r n
def zVar (i : Nat) : ZE := fun s M q => match slot s i with
  | some d => q d M
  | none => False
def zCst (d : D) : ZE := fun _ M q => q d M
def zBin (z : Z2) (a b : ZE) : ZE := fun s M q => a s M fun x M1 => b s M1 fun y M2 => z x y M2 q
def zNegD : D → Mh → KD → Prop
  | .int i, M, q => q (.int (-i)) M
  | _, _, _ => False
def zUn (z : D → Mh → KD → Prop) (a : ZE) : ZE := fun s M q => a s M fun x M1 => z x M1 q
def zChain (z z' : Z2) (a b c : ZE) : ZE := fun s M q => a s M fun x M1 => b s M1 fun y M2 => z x y M2 fun r M3 => zBl r M3 fun k M4 =>
  if k = true then c s M4 fun w M5 => z' y w M5 q else q (.bl false) M4
def zAndV (a b : ZE) : ZE := fun s M q => a s M fun x M1 => zBl x M1 fun k M2 => if k = true then b s M2 q else q (.bl false) M2
def zOrV (a b : ZE) : ZE := fun s M q => a s M fun x M1 => zBl x M1 fun k M2 => if k = true then q (.bl true) M2 else b s M2 q
def zAndT (a b : ZT) : ZT := fun s M k => a s M fun c M1 => if c = true then b s M1 k else k false M1
def zOrT (a b : ZT) : ZT := fun s M k => a s M fun c M1 => if c = true then k true M1 else b s M1 k
def zNotV (a : ZE) : ZE := fun s M q => a s M fun x M1 => zTru x M1 fun k M2 => q (.bl (!k)) M2
def zNotT (a : ZT) : ZT := fun s M k => a s M fun c M1 => k (!c) M1
def zIte (c : ZT) (a b : ZE) : ZE := fun s M q => c s M fun k M1 => if k = true then a s M1 q else b s M1 q
def zIteT (c a b : ZT) : ZT := fun s M q => c s M fun k M1 => if k = true then a s M1 q else b s M1 q
def zTup (a : ZA) : ZE := fun s M q => a s M fun ds M1 => q (.tup ds) M1
def zTupS (a : ZA) : ZE := fun s M q => a s M fun ds M1 => ds.length ≤ sizeLine ∧ q (.tup ds) M1
def zLst (mu : Bool) (a : ZA) : ZE := fun s M q => a s M fun ds M1 => match mu with
  | true => ∀ p, M1 p = none → q (.ref p) (mup M1 p (.lst ds))
  | false => q (.lst ds) M1
def zANil : ZA := fun _ M q => q [] M
def zACons (a : ZE) (r : ZA) : ZA := fun s M q => a s M fun d M1 => r s M1 fun ds M2 => q (d :: ds) M2
def zAStar (a : ZE) (r : ZA) : ZA := fun s M q => a s M fun d M1 => ∃ xs, itemsOf M1 d = some xs ∧ r s M1 fun ds M2 => q (xs ++ ds) M2
def zCall (c : ZC) (a : ZA) : ZE := fun s M q => a s M fun ds M1 => c ds M1 q
def zCallK (c : ZC) (a k : ZA) : ZE := fun s M q => a s M fun ds M1 => k s M1 fun es M2 => c (ds ++ es) M2 q
abbrev ZO := Sl → Mh → (Option Int → Mh → Prop) → Prop
def zONone : ZO := fun _ M k => k none M
def zOSome (a : ZE) : ZO := fun s M k => a s M fun d M1 => match d with
  | .int i => k (some i) M1
  | _ => False
def zSlice (a : ZE) (lo hi : ZO) : ZE := fun s M q => a s M fun x M1 => lo s M1 fun l M2 => hi s M2 fun h M3 => zSl x l h M3 q
def zBitsD : D → Mh → KD → Prop
  | .int i, M, q => q (.int (Builtin.Int.intBits i : Nat)) M
  | _, _, _ => False
def zIndexD : Z2 := fun x y M q => ∃ xs j z, listOfD M x = some xs ∧ (okd 60 y = true ∧ okd 60 (.lst xs) = true) ∧ xs[j]? = some z ∧ eqD z y = true ∧ (∀ (m : Nat) (z' : D), m < j → xs[m]? = some z' → eqD z' y = false) ∧ q (.int (j : Nat)) M
def zAppD : Z2 := fun x y M q => match x with
  | .ref p => ∃ xs, M p = some (.lst xs) ∧ xs.length < sizeLine ∧ q .non (mup M p (.lst (xs ++ [y])))
  | _ => False
def isMuL (x : D) (M : Mh) : Prop := ∃ xs, listOfD M x = some xs
def zMeth (z : Z2) (o a : ZE) : ZE := fun s M q => o s M fun x M1 => isMuL x M1 ∧ a s M1 fun y M2 => z x y M2 q
def zPopD : D → Mh → KD → Prop := fun x M q => match x with
  | .ref p => ∃ xs y, M p = some (.lst (xs ++ [y])) ∧ q y (mup M p (.lst xs))
  | _ => False
def rgD (a b : Int) : List D := (List.range (b - a).toNat).map fun i => D.int (a + (i : Nat))
def zRgL : List D → Mh → KD → Prop
  | [.int n], M, q => RgOk 0 n ∧ q (.lst (rgD 0 n)) M
  | [.int a, .int b], M, q => RgOk a b ∧ q (.lst (rgD a b)) M
  | _, _, _ => False
def zipD : List D → List D → List D
  | x :: xs, y :: ys => .tup [x, y] :: zipD xs ys
  | _, _ => []
def zLzip : Z2 := fun x y M q => match x, y with
  | .tup xs, .tup ys => q (.lst (zipD xs ys)) M
  | _, _ => False

abbrev ZG := D → Sl → Mh → (Sl → Mh → Prop) → Prop
abbrev ZGs := List D → Sl → Mh → (Sl → Mh → Prop) → Prop
def zGName (i : Nat) : ZG := fun d s M k => k (s.set i (some d)) M
def zGTup (n : Nat) (t : ZGs) : ZG := fun d s M k => match d with
  | .tup ds => ds.length = n ∧ t ds s M k
  | .lst ds => ds.length = n ∧ t ds s M k
  | _ => False
def zGsNil : ZGs := fun ds s M k => ds = [] ∧ k s M
def zGsCons (t : ZG) (r : ZGs) : ZGs := fun ds s M k => match ds with
  | d :: ds => t d s M fun s1 M1 => r ds s1 M1 k
  | [] => False
def zSetD : D → D → D → Mh → (Mh → Prop) → Prop := fun o i v M k => match o, i with
  | .ref p, .int n => ∃ xs j, M p = some (.lst xs) ∧ ixN xs.length n = some j ∧ k (mup M p (.lst (xs.set j v)))
  | _, _ => False
def zGItem (o i : ZE) : ZG := fun d s M k => o s M fun x M1 => i s M1 fun y M2 => zSetD x y d M2 fun M3 => k s M3

abbrev ZI := Sl → Mh → (List D → Mh → Prop) → Prop
def zISeq (a : ZE) : ZI := fun s M k => a s M fun d M1 => match d with
  | .tup xs => k xs M1
  | .lst xs => k xs M1
  | _ => False
def zIRng (a : ZA) : ZI := fun s M k => a s M fun ds M1 => match ds with
  | [.int n] => (-(2 ^ 62) ≤ n ∧ n < 2 ^ 62) ∧ k (rgD 0 n) M1
  | [.int a, .int b] => (-(2 ^ 62) ≤ a ∧ a < 2 ^ 62 ∧ -(2 ^ 62) ≤ b ∧ b < 2 ^ 62) ∧ k (rgD a b) M1
  | _ => False
def zIZip (a b : ZE) : ZI := fun s M k => a s M fun x M1 => b s M1 fun y M2 => match x, y with
  | .tup xs, .tup ys => k (zipD xs ys) M2
  | .lst xs, .lst ys => k (zipD xs ys) M2
  | _, _ => False
def enumD : Nat → List D → List D
  | _, [] => []
  | n, x :: xs => .tup [.int n, x] :: enumD (n + 1) xs
def zIEnum (a : ZE) : ZI := fun s M k => a s M fun x M1 => match x with
  | .tup xs => k (enumD 0 xs) M1
  | .lst xs => k (enumD 0 xs) M1
  | _ => False

def zwipe (s : Sl) : List Nat → Sl
  | [] => s
  | v :: vs => (zwipe s vs).set v none
/-- a comprehension's turns: the list at a grows -/
def zTurns (a : Addr) (s : Sl) (tg : ZG) (c : ZT) (elt : ZE) : List D → List D → Mh → (List D → Mh → Prop) → Prop
  | [], acc, M, k => k acc M
  | x :: xs, acc, M, k => tg x s M fun s1 M1 => c s1 M1 fun b M2 =>
      if b = true then elt s1 M2 fun d M3 => M3 a = some (.lst acc) ∧ acc.length < sizeLine ∧ zTurns a s tg c elt xs (acc ++ [d]) (mup M3 a (.lst (acc ++ [d]))) k
      else M2 a = some (.lst acc) ∧ zTurns a s tg c elt xs acc M2 k
def mdel (M : Mh) (a : Addr) : Mh := fun b => if b = a then none else M b
def zEnd (mu : Bool) (a : Addr) (q : KD) : List D → Mh → Prop := fun acc M2 => match mu with
  | true => q (.ref a) M2
  | false => q (.lst acc) (mdel M2 a)
def zComp (mu : Bool) (vs : List Nat) (src : ZI) (tg : ZG) (c : ZT) (elt : ZE) : ZE := fun s M q => src s M fun items M1 => ∀ a, M1 a = none →
  zTurns a (zwipe s vs) tg c elt items [] (mup M1 a (.lst [])) (zEnd mu a q)
def zYes : ZT := fun _ M k => k true M
mutual
def keyOf : D → NestedKey
  | .non => .none
  | .bl b => .num (if b = true then 1 else 0)
  | .int i => .num i
  | .str x => .text x
  | .tup xs => .tup (keysOf xs)
  | .lst _ => .none
  | .ref _ => .none
def keysOf : List D → List NestedKey
  | [] => []
  | x :: xs => keyOf x :: keysOf xs
end
mutual
def keyOk : D → Bool
  | .tup xs => keysOk xs
  | .lst _ => false
  | .ref _ => false
  | _ => true
def keysOk : List D → Bool
  | [] => true
  | x :: xs => keyOk x && keysOk xs
end
def keyT (d : D) : Bool := (match d with
  | .tup _ => true
  | _ => false) && keyOk d && decide ((keyOf d).depth ≤ 8)
/-- len({p: True for p in t}), no key twice -/
def zDlen (a : ZE) : ZE := fun s M q => a s M fun d M1 => match d with
  | .tup xs => (xs.length ≤ 1000 ∧ xs.all keyT = true ∧ (keysOf xs).Nodup) ∧ q (.int (xs.length : Nat)) M1
  | _ => False

mutual
def rd (G : Ge) : E → Rd
  | .var i => ofV (zVar i)
  | .int i => ofV (zCst (.int i))
  | .bl b => ofV (zCst (.bl b))
  | .non => ofV (zCst .non)
  | .str x => ofV (zCst (.str x))
  | .con i => ofV (zCst (G.cn i))
  | .bin o a b => ofV (zBin (zOp o) (rd G a).v (rd G b).v)
  | .neg a => ofV (zUn zNegD (rd G a).v)
  | .cmp o a b => ⟨zBin (zCo o) (rd G a).v (rd G b).v, testV (zBin (zCo o) (rd G a).v (rd G b).v)⟩
  | .chain o o' a b c => ⟨zChain (zCo o) (zCo o') (rd G a).v (rd G b).v (rd G c).v, testV (zChain (zCo o) (zCo o') (rd G a).v (rd G b).v (rd G c).v)⟩
  | .andd a es => ⟨rdAV G (rd G a).v es, rdAT G (rd G a).t es⟩
  | .orr a es => ⟨rdOV G (rd G a).v es, rdOT G (rd G a).t es⟩
  | .nott a => ⟨zNotV (rd G a).v, zNotT (rd G a).t⟩
  | .ite c a b => ⟨zIte (rd G c).t (rd G a).v (rd G b).v, zIteT (rd G c).t (rd G a).t (rd G b).t⟩
  | .tup es => ofV (zTup (rds G es))
  | .tupS es => ofV (zTupS (rds G es))
  | .lst mu es => ofV (zLst mu (rds G es))
  | .sub a i => ofV (zBin zIx (rd G a).v (rd G i).v)
  | .slice a lo hi => ofV (zSlice (rd G a).v (rdo G lo) (rdo G hi))
  | .call f es ks => ofV (zCallK (G.fn f) (rds G es) (rds G ks))
  | .bi b es => ofV (zCall (zBi b) (rds G es))
  | .isi a T => ofV (zUn (zIsi T) (rd G a).v)
  | .bits a => ofV (zUn zBitsD (rd G a).v)
  | .index o a => ofV (zMeth zIndexD (rd G o).v (rd G a).v)
  | .app o a => ofV (zMeth zAppD (rd G o).v (rd G a).v)
  | .pop o => ofV (zUn zPopD (rd G o).v)
  | .lrange es => ofV (zCall zRgL (rds G es))
  | .lzip a b => ofV (zBin zLzip (rd G a).v (rd G b).v)
  | .comp mu own tg src cs elt => ofV (zComp mu (own.map (·.2)) (rdi G src) (rdg G tg) (rdc G cs) (rd G elt).v)
  | .dlen own i x => ofV (zDlen (rd G x).v)
def rdAV (G : Ge) (a : ZE) : Es → ZE
  | .nil => a
  | .cons _ e es => zAndV a (rdAV G (rd G e).v es)
def rdAT (G : Ge) (a : ZT) : Es → ZT
  | .nil => a
  | .cons _ e es => zAndT a (rdAT G (rd G e).t es)
def rdOV (G : Ge) (a : ZE) : Es → ZE
  | .nil => a
  | .cons _ e es => zOrV a (rdOV G (rd G e).v es)
def rdOT (G : Ge) (a : ZT) : Es → ZT
  | .nil => a
  | .cons _ e es => zOrT a (rdOT G (rd G e).t es)
def rds (G : Ge) : Es → ZA
  | .nil => zANil
  | .cons false e es => zACons (rd G e).v (rds G es)
  | .cons true e es => zAStar (rd G e).v (rds G es)
def rdc (G : Ge) : Es → ZT
  | .nil => zYes
  | .cons _ e _ => (rd G e).t
def rdo (G : Ge) : Oe → ZO
  | .none => zONone
  | .some e => zOSome (rd G e).v
def rdg (G : Ge) : Tg → ZG
  | .name i => zGName i
  | .tup ts => zGTup ts.len (rdgs G ts)
  | .item o i => zGItem (rd G o).v (rd G i).v
def rdgs (G : Ge) : Tgs → ZGs
  | .nil => zGsNil
  | .cons t ts => zGsCons (rdg G t) (rdgs G ts)
def rdi (G : Ge) : Src → ZI
  | .seq e => zISeq (rd G e).v
  | .range es => zIRng (rds G es)
  | .zip a b => zIZip (rd G a).v (rd G b).v
  | .enum e => zIEnum (rd G e).v
end

structure ZEnds where
  nx : Sl → Mh → Prop
  rt : KD
  bk : Sl → Mh → Prop := fun _ _ => False
  ct : Sl → Mh → Prop := fun _ _ => False
abbrev ZS := ZEnds → Sl → Mh → Prop
def zNext : ZS := fun Z s M => Z.nx s M
def zSeq (a b : ZS) : ZS := fun Z s M => a { Z with nx := fun s1 M1 => b Z s1 M1 } s M
def zAsg (g : ZG) (e : ZE) : ZS := fun Z s M => e s M fun d M1 => g d s M1 Z.nx
def zAugD : Op → Z2
  | .add => fun x y M q => match x, y with
    | .int i, .int j => q (.int (i + j)) M
    | _, _ => False
  | .sub => fun x y M q => match x, y with
    | .int i, .int j => q (.int (i - j)) M
    | _, _ => False
  | _ => fun _ _ _ _ => False
def zAug (i : Nat) (o : Op) (e : ZE) : ZS := fun Z s M => match slot s i with
  | some x => e s M fun y M1 => zAugD o x y M1 fun z M2 => Z.nx (s.set i (some z)) M2
  | none => False
def zRet (e : ZE) : ZS := fun Z s M => e s M Z.rt
def zRetN : ZS := fun Z s M => Z.rt .non M
def zExpr (e : ZE) : ZS := fun Z s M => e s M fun _ M1 => Z.nx s M1
def zIff (c : ZT) (a b : ZS) : ZS := fun Z s M => c s M fun k M1 => if k = true then a Z s M1 else b Z s M1
def zWh (c : ZT) (b : ZS) : Nat → ZS
  | 0 => fun _ _ _ => False
  | n + 1 => fun Z s M => c s M fun k M1 => if k = true then b { Z with nx := zWh c b n Z, ct := zWh c b n Z, bk := Z.nx } s M1 else Z.nx s M1
def zWhl (c : ZT) (b : ZS) : ZS := fun Z s M => ∃ n, zWh c b n Z s M
def zLoop (g : ZG) (b : ZS) : List D → ZS
  | [] => fun Z s M => Z.nx s M
  | x :: xs => fun Z s M => g x s M fun s1 M1 => b { Z with nx := zLoop g b xs Z, ct := zLoop g b xs Z, bk := Z.nx } s1 M1
def zFor (src : ZI) (g : ZG) (b : ZS) : ZS := fun Z s M => src s M fun items M1 => zLoop g b items Z s M1
def zNever : ZS := fun _ _ _ => False
def zFreeze (i : Nat) (b : ZS) : ZS := fun Z s M => match slot s i with
  | some (.ref a) => ∃ xs, M a = some (.lst xs) ∧ b Z (s.set i (some (.lst xs))) (mdel M a)
  | _ => False
mutual
def rdC (G : Ge) : C → ZS
  | .asg t e => zAsg (rdg G t) (rd G e).v
  | .aug i o e => zAug i o (rd G e).v
  | .ret e => zRet (rd G e).v
  | .retN => zRetN
  | .expr e => zExpr (rd G e).v
  | .iff c a b => zIff (rd G c).t (rdCs G a) (rdCs G b)
  | .whl c b => zWhl (rd G c).t (rdCs G b)
  | .forr t s b => zFor (rdi G s) (rdg G t) (rdCs G b)
  | .pass => zNext
  | .brk => fun Z s M => Z.bk s M
  | .cont => fun Z s M => Z.ct s M
  | .never => zNever
def rdCs (G : Ge) : Cs → ZS
  | .nil => zNext
  | .cons c cs => zSeq (rdC G c) (rdCs G cs)
  | .freeze i cs => zFreeze i (rdCs G cs)
end
end Zz
end
section
/-! Z6: the check of the small language against the tree; what a context must offer; calls. -/
namespace Zz
open PySem PySem.Spec PyProof.Rows L2

structure Fi where
  name : Str
  ps : List Str
  kw : Bool
structure Ctx where
  N : List Str
  sc : Scope
  own : Scope
  fns : List Fi
  cns : List Str
def Ctx.blk (c : Ctx) (scope : Scope) : Ctx := { c with sc := relS scope c.sc, own := scope }

def visB (c : Ctx) (x : Str) : Bool := decide (c.sc.names.lookup x = some .local) || decide (c.sc.names.lookup x = some .cell) || decide (c.sc.names.lookup x = some .free)
def locB (c : Ctx) (x : Str) : Bool := decide (c.sc.names.lookup x = some .local) || (decide (c.sc.names.lookup x = some .cell) && decide (c.own.names.lookup x = some .cell))
def glB (c : Ctx) (x : Str) : Bool := decide (c.sc.names.lookup x = some .globalImplicit)
def nodbg (x : Str) : Bool := !(x == ("__debug__" : Str)) && !(x == ("__classdict__" : Str)) && !(x == ("__name__" : Str))
def isSet : Expr → Bool
  | .Set .. => true
  | _ => false
def isStar : Expr → Bool
  | .Starred .. => true
  | _ => false
def isSlice : Expr → Bool
  | .Slice .. => true
  | _ => false
def isCmp : Expr → Bool
  | .ListComp .. => true
  | .SetComp .. => true
  | .DictComp .. => true
  | _ => false
def isCall : Expr → Bool
  | .Call .. => true
  | _ => false
def isTupE : Expr → Bool
  | .Tuple .. => true
  | _ => false
/-- isTrue has an arm of its own -/
def ownTest : Expr → Bool
  | .UnaryOp .Not _ _ => true
  | .BoolOp .. => true
  | .IfExp .. => true
  | .Compare .. => true
  | _ => false

/-- the plain local names of a written tuple of targets -/
def swNames (sc : Scope) (ts : List Expr) : List Str := ts.filterMap fun
  | .Name id pos => if sc.names.lookup id == some .local && pos.line == (ts.head?.map (·.pos.line)).getD 0 then some id else none
  | _ => none
/-- stores of a written tuple to a written tuple of names: what the model does (none: it stops) -/
def swP (sc : Scope) (ts vs : List Expr) : Option (Option (List Str)) :=
  if !(ts.length == 2 || ts.length == 3) || vs.length != ts.length then some none
  else if vs.any isStar then some none
  else if (swNames sc ts).length != ts.length || (swNames sc ts).eraseDups.length != (swNames sc ts).length then some none
  else if vs.all (foldedForSure 8) then some none
  else if vs.all (constantsAlone 8) then none
  else some (some (swNames sc ts))
def tgIx : Tg → List Nat
  | .name i => [i]
  | .tup ts => tgsIx ts
  | .item _ _ => []
where tgsIx : Tgs → List Nat
  | .nil => []
  | .cons t ts => tgIx t ++ tgsIx ts

mutual
def chkE (c : Ctx) : E → Expr → Bool
  | .var i, .Name x _ => decide (c.N[i]? = some x) && visB c x && nodbg x
  | .int i, .Constant (.int j) _ _ => decide (i = j)
  | .bl i, .Constant (.bool j) _ _ => decide (i = j)
  | .non, .Constant .none _ _ => true
  | .str i, .Constant (.str j) _ _ => decide (i = j)
  | .con i, .Name x _ => decide (c.cns[i]? = some x) && glB c x && nodbg x
  | .bin o a b, .BinOp l op r _ => decide (op = opOf o) && chkE c a l && chkE c b r
  | .neg a, .UnaryOp .USub x _ => chkE c a x
  | .cmp o a b, .Compare l [op] [r] _ => decide (op = coOf o) && !isSet r && chkE c a l && chkE c b r
  | .chain o o' a b d, .Compare l [op, op'] [m, r] _ => decide (op = coOf o) && decide (op' = coOf o') && !isSet m && !isSet r && chkE c a l && chkE c b m && chkE c d r
  | .andd a es, .BoolOp .And (x :: xs) _ => chkE c a x && chkB c es xs
  | .orr a es, .BoolOp .Or (x :: xs) _ => chkE c a x && chkB c es xs
  | .nott a, .UnaryOp .Not x _ => chkE c a x
  | .ite t a b, .IfExp x y z _ => chkE c t x && chkE c a y && chkE c b z
  | .tup es, .Tuple xs _ _ => es.plain && decide (es.len ≤ 1000) && chkEs c es xs
  | .tupS es, .Tuple xs _ _ => chkEs c es xs
  | .lst _ es, .List xs _ => es.plain && decide (es.len ≤ 1000) && chkEs c es xs
  | .sub a i, .Subscript x y _ => !isSlice y && chkE c a x && chkE c i y
  | .slice a lo hi, .Subscript x (.Slice l h none _) _ => chkE c a x && chkO c lo l && chkO c hi h
  | .call f es ks, .Call (.Name x _) args kws _ => match c.fns[f]? with
    | some fi => decide (fi.name = x) && glB c x && nodbg x && es.plain && chkEs c es args && ((decide (kws.length = 0) && decide (ks.len = 0) && decide (es.len = fi.ps.length)) ||
        (fi.kw && decide (es.len = 0) && decide (args.length = 0) && ks.plain && decide (ks.len = fi.ps.length) && chkK c ks kws fi.ps))
    | none => false
  | .bi b es, .Call (.Name x _) args [] _ => decide (x = biName b) && glB c x && es.plain && decide (0 < es.len) && chkEs c es args
  | .isi a T, .Call (.Name x _) [v, .Name y _] [] _ => decide (x = "isinstance") && glB c x && decide (y = Str.ofString (tyName T)) && glB c y && !isStar v && chkE c a v
  | .bits a, .Call (.Attribute o m ap) [] [] cp => decide (m = "bit_length") && !isCall o && (ap.endLine == cp.line) && chkE c a o
  | .index o a, .Call (.Attribute x m ap) [y] [] cp => decide (m = "index") && !isCall x && !isStar y && (ap.endLine == cp.line) && chkE c o x && chkE c a y
  | .app o a, .Call (.Attribute x m ap) [y] [] cp => decide (m = "append") && !isCall x && !isStar y && (ap.endLine == cp.line) && chkE c o x && chkE c a y
  | .pop o, .Call (.Attribute x m ap) [] [] cp => decide (m = "pop") && !isCall x && (ap.endLine == cp.line) && chkE c o x
  | .lrange es, .Call (.Name x _) [.Call (.Name y _) args [] _] [] _ => decide (x = "list") && glB c x && decide (y = "range") && glB c y && es.plain && decide (es.len ≤ 2) && decide (0 < es.len) && chkEs c es args
  | .comp _ own tg src cs elt, .ListComp ex [⟨t, it, ifs, 0⟩] scope _ => blkC c.N c.sc scope own && (tgIx tg).all (fun i => own.any fun p => p.2 == i) && !isSet it && chkG (c.blk scope) tg t && chkI c src it t && cs.plain && chkIf (c.blk scope) cs ifs && chkE (c.blk scope) elt ex
  | .lzip a b, .Call (.Name x _) [.Call (.Name y _) [u, v] [] _] [] _ => decide (x = "list") && glB c x && decide (y = "zip") && glB c y && !isStar u && !isStar v && chkE c a u && chkE c b v
  | .dlen own i x, .Call (.Name f _) [.DictComp (.Name k _) (.Constant (.bool true) _ _) [⟨.Name t _, it, [], 0⟩] scope _] [] _ => decide (f = "len") && glB c f && blkC c.N c.sc scope own && decide (k = t) && decide (own = [(t, i)]) && decide (c.N[i]? = some t) &&
      decide ((relS scope c.sc).names.lookup t = some .local) && nodbg t && !isSet it && chkE c x it
  | _, _ => false
def chkB (c : Ctx) : Es → List Expr → Bool
  | .nil, [] => true
  | .cons _ e es, x :: xs => chkE c e x && chkB c es xs
  | _, _ => false
def chkEs (c : Ctx) : Es → List Expr → Bool
  | .nil, [] => true
  | .cons false e es, x :: xs => !isStar x && chkE c e x && chkEs c es xs
  | .cons true e es, .Starred x _ :: xs => chkE c e x && chkEs c es xs
  | _, _ => false
def chkIf (c : Ctx) : Es → List Expr → Bool
  | .nil, [] => true
  | .cons _ e .nil, [x] => chkE c e x
  | _, _ => false
def chkK (c : Ctx) : Es → List Keyword → List Str → Bool
  | .nil, [], [] => true
  | .cons false e es, ⟨some n, x, _⟩ :: xs, p :: ps => decide (n = p) && chkE c e x && chkK c es xs ps
  | _, _, _ => false
def chkO (c : Ctx) : Oe → Option Expr → Bool
  | .none, none => true
  | .some e, some x => chkE c e x
  | _, _ => false
def chkG (c : Ctx) : Tg → Expr → Bool
  | .name i, .Name x _ => decide (c.N[i]? = some x) && locB c x
  | .tup ts, .Tuple xs _ _ => chkGs c ts xs
  | .item o i, .Subscript x y _ => !isSlice y && chkE c o x && chkE c i y
  | _, _ => false
def chkGs (c : Ctx) : Tgs → List Expr → Bool
  | .nil, [] => true
  | .cons t ts, x :: xs => !isStar x && chkG c t x && chkGs c ts xs
  | _, _ => false
def chkI (c : Ctx) : Src → Expr → Expr → Bool
  | .seq e, x, _ => chkE c e x
  | .range es, .Call (.Name y _) args [] _, _ => decide (y = "range") && glB c y && es.plain && decide (es.len ≤ 2) && decide (0 < es.len) && chkEs c es args
  | .zip a b, .Call (.Name y _) [u, v] [] _, t => decide (y = "zip") && glB c y && !isStar u && !isStar v && isTupE t && chkE c a u && chkE c b v
  | .enum a, .Call (.Name y _) [u] [] _, t => decide (y = "enumerate") && glB c y && !isStar u && isTupE t && chkE c a u
  | _, _, _ => false
end

/-- how an assignment's stores go -/
def asgB (c : Ctx) (t v : Expr) : Bool := match t, v with
  | .Tuple ts _ _, .Tuple vs _ _ => (swP c.sc ts vs).isSome
  | .List .. , _ => false
  | _, _ => true
mutual
def chkC (c : Ctx) : C → Stmt → Bool
  | .asg t e, .Assign [x] v _ => asgB c x v && chkG c t x && chkE c e v
  | .aug i o e, .AugAssign (.Name x _) op v _ => decide (op = opOf o) && (decide (op = .Add) || decide (op = .Sub)) && decide (c.N[i]? = some x) && locB c x && chkE c e v
  | .ret e, .Return (some v) _ => chkE c e v
  | .retN, .Return none _ => true
  | .expr e, .Expr v _ => !isCmp v && chkE c e v
  | .iff t a b, .If x y z _ => chkE c t x && chkCs c a y && chkCs c b z
  | .whl t b, .While x y [] _ => chkE c t x && chkCs c b y
  | .forr t s b, .For x it y [] _ => !isSet it && chkG c t x && chkI c s it x && chkCs c b y
  | .pass, .Pass _ => true
  | .brk, .Break _ => true
  | .cont, .Continue _ => true
  | .never, _ => true
  | _, _ => false
def chkCs (c : Ctx) : Cs → List Stmt → Bool
  | .nil, [] => true
  | .cons a as, x :: xs => chkC c a x && chkCs c as xs
  | .freeze _ as, xs => chkCs c as xs
  | _, _ => false
end

/-! ### a def's promise over D -/
def spV (K : PySem.W.Frag) (z : ZC) (vs : List V) (H : Hp) (Q : VK) : Prop := ∃ ds M q, Reps K H M ds vs ∧ HRel K M H ∧ z ds M q ∧ QRel K M H q Q
structure FnG (P : Program) (w : World) (K : PySem.W.Frag) (mg : Str → Option Value) (base : Heap) (k : Nat) (f : Addr) (fd : FuncData) (ps : List Str) (z : ZC) : Prop where
  run : ∀ (A : Around) (outer : List Env) (s : Shared) (H : Hp) (args : Args) (us : List Value) (vs : List V) (Q : VK), Room k A → A.guards = some [] → Env0 P w K mg base A outer s H → BindsTo s fd args (ps.zip us) → Vals vs us → vs.length = ps.length →
    spV K z vs H Q → codeAny (model P w) A (.call (.ref f) args) (CR CX0 outer P w H s Q E0) s
structure Callable (X : Cx) (fi : Fi) (z : ZC) : Prop where
  ex : ∃ (k : Nat) (fa : Addr) (fd : FuncData), X.mg fi.name = some (.ref fa) ∧ PySem.W.keepIn X.K (.ref fa) = true ∧ Room k X.A ∧ FnG X.prog X.w X.K X.mg X.base k fa fd fi.ps z ∧
    (∀ us : List Value, us.length = fi.ps.length → bindArgs fd ⟨us, []⟩ = pure (fi.ps.zip us)) ∧ (fi.kw = true → ∀ ws : List Value, ws.length = fi.ps.length → bindArgs fd ⟨[], fi.ps.zip ws⟩ = pure (fi.ps.zip ws))
def bnames : List Str := ["len", "abs", "all", "any", "max", "min", "int", "sum", "list", "tuple", "repr", "isinstance", "range", "zip", "enumerate", "bool", "str"]
structure Fit (G : Ge) (c : Ctx) (X : Cx) : Prop where
  N : X.N = c.N
  nd : c.N.Nodup
  sc : X.env.scope = c.sc
  kind : c.sc.kind = .function
  calm : X.calm = true
  xe : X.xe = fun _ _ => False
  fn : ∀ x, c.own.names.lookup x = some .cell → X.fn x = true
  guards : X.A.guards = some []
  units : X.A.units + 100 < cLine
  bn : ∀ x ∈ bnames, X.mg x = none
  fns : ∀ (f : Nat) (fi : Fi), c.fns[f]? = some fi → Callable X fi (G.fn f)
  cns : ∀ (i : Nat) (x : Str), c.cns[i]? = some x → ∃ (u : Value) (v : V), X.mg x = some u ∧ RelV v u ∧ ∀ H M, Rep X.K H M (G.cn i) v
theorem Fit.blk {G : Ge} {c : Ctx} {X : Cx} (F : Fit G c X) {scope : Scope} (hk : scope.kind = .function) (s : Shared) (H : Hp) (C : Addr) (cl : List (Str × Addr)) (fp : List Addr) : Fit G (c.blk scope) (X.blk s H scope (compEnvC scope cl C X.env) fp) where
  N := F.N
  nd := F.nd
  sc := by
    show relS scope X.env.scope = relS scope c.sc
    rw [F.sc]
  kind := hk
  calm := F.calm
  xe := rfl
  fn := fun x h => by
    show (scope.names.lookup x == some .cell) = true
    rw [show scope.names.lookup x = some .cell from h]; rfl
  guards := F.guards
  units := F.units
  bn := F.bn
  fns := fun f fi h => ⟨(F.fns f fi h).ex⟩
  cns := F.cns

section
variable {X : Cx} {pins : List (Addr × Obj)} {σ : L2.St} {H : Hp} {s : Shared}
/-- the callee runs -/
theorem run_fnG {k : Nat} {f : Addr} {fd : FuncData} {ps : List Str} {z : ZC} {args : Args} {us : List Value} {vs : List V} {Q : VK} (F : FnG X.prog X.w X.K X.mg X.base k f fd ps z) (hr : Room k X.A) (hg : X.A.guards = some [])
    (I : Inv X pins σ H s) (hb : BindsTo s fd args (ps.zip us)) (r : Vals vs us) (hl : vs.length = ps.length) (h : spV X.K z vs H Q) : codeAny (model X.prog X.w) X.A (.call (.ref f) args) (CR CX0 X.stack X.prog X.w H s Q E0) s :=
  F.run X.A X.stack s H args us vs Q hr hg I.env0 hb r hl h
theorem back_fnG {Q : VK} {r : Result} {s' : Shared} (I : Inv X pins σ H s) (h : CR CX0 X.stack X.prog X.w H s Q E0 r s') : ∃ u, r = .ok (.ret u) ∧ EP X pins σ Q u s' := by
  cases r with
  | error e => exact False.elim h
  | ok fl =>
    cases fl with
    | ret u => exact ⟨u, rfl, I.after h⟩
    | next => exact False.elim h
    | brk => exact False.elim h
    | cont => exact False.elim h
theorem call_fnG {k : Nat} {f : Addr} {fd : FuncData} {ps ks : List Str} {z : ZC} {us ws : List Value} {zs : List Value} {vs : List V} {Q : VK} (F : FnG X.prog X.w X.K X.mg X.base k f fd ps z) (hr : Room k X.A) (hg : X.A.guards = some [])
    (I : Inv X pins σ H s) (hb : BindsTo s fd ⟨us, ks.zip ws⟩ (ps.zip zs)) (r : Vals vs zs) (hl : vs.length = ps.length) (h : spV X.K z vs H Q) : wpAny (model X.prog X.w) X.A (call (.ref f) us (ks.zip ws)) (EP X pins σ Q) X.xe s := by
  refine wpAny_call (codeAny_mono (run_fnG F hr hg I hb r hl h) fun r s' hq => ?_)
  obtain ⟨u, e, h2⟩ := back_fnG I hq
  subst e
  exact h2
end
end Zz
end
section
/-! Z7: each form's reading is right. -/
namespace Zz
open PySem PySem.Spec PyProof.Rows L2

theorem slot_get : ∀ {s : Sl} {i : Nat} {d : D}, slot s i = some d → s[i]? = some (some d)
  | [], _, _, h => by cases h
  | x :: _, 0, d, h => by
    have h : x = some d := h
    rw [h]; rfl
  | _ :: r, i + 1, d, h => by
    have := slot_get (s := r) (i := i) h
    simpa using this
theorem star_no {e : Expr} {es : List Expr} {env : Env} (h : isStar e = false) : starEach (e :: es) env = (false, eval e env) :: starEach es env := by
  cases e <;> first | exact Bool.noConfusion h | rfl
theorem star_yes {e : Expr} {p : Pos} {es : List Expr} {env : Env} : starEach (.Starred e p :: es) env = (true, eval e env) :: starEach es env := rfl
def plainX : List Expr → Bool
  | [] => true
  | e :: es => !isStar e && plainX es
theorem plain_any : ∀ {es : List Expr} {env : Env} {pos : Pos}, plainX es = true → (backTo pos (starEach es env)).any (·.1) = false
  | [], _, _, _ => rfl
  | e :: es, env, pos, h => by
    unfold plainX at h
    rw [Bool.and_eq_true] at h
    have h1 : isStar e = false := by simpa using h.1
    rw [star_no h1]
    have := plain_any (env := env) (pos := pos) h.2
    unfold backTo at this ⊢
    rw [List.map_cons, List.any_cons, this]
    rfl
theorem plain_of : ∀ {c : Ctx} (es : Es) (xs : List Expr), es.plain = true → chkEs c es xs = true → plainX xs = true ∧ xs.length = es.len
  | c, .nil, [], _, _ => ⟨rfl, rfl⟩
  | c, .nil, _ :: _, _, h => Bool.noConfusion h
  | c, .cons false e es, [], _, h => Bool.noConfusion h
  | c, .cons true e es, _, h, _ => Bool.noConfusion h
  | c, .cons false e es, x :: xs, h1, h => by
    have h : (!isStar x && chkE c e x && chkEs c es xs) = true := h
    have h1 : (!false && es.plain) = true := h1
    simp only [Bool.and_eq_true] at h
    obtain ⟨i1, i2⟩ := plain_of es xs (by simpa using h1) h.2
    refine ⟨?_, ?_⟩
    · unfold plainX; rw [Bool.and_eq_true]; exact ⟨h.1.1, i1⟩
    · rw [List.length_cons, i2]; rfl

section
variable {X : Cx} {K : PySem.W.Frag} {pos : Pos} {a b d : Expr} {za zb zd : ZE} {ta tb td : ZT}

theorem imp_bin {z : Z2} {r : R2} (hz : R2Rep K z r) {σ : L2.St} {H : Hp} {Q : VK} (h : up K (zBin z za zb) σ H Q) : tOp r (up K za) (up K zb) σ H Q := by
  obtain ⟨s, M, q, R, h, hq⟩ := h
  exact up_then R h fun d1 M1 v1 H1 e1 R1 r1 z1 => up_then R1 z1 fun d2 M2 v2 H2 e2 R2 r2 z2 => hz d1 d2 v1 v2 M2 H2 q Q R2.heap (Rep.ext e2 _ _ r1) r2 (hq.at (e1.trans e2)) z2
theorem imp_test {v : ZE} {σ : L2.St} {H : Hp} {Q : Bool → Hp → Prop} (h : upT K (testV v) σ H Q) : up K v σ H (fun x H' => ∃ k, x = .bl k ∧ Q k H') := by
  obtain ⟨s, M, q, R, h, hq⟩ := h
  refine ⟨s, M, _, R, h, fun d M2 v H2 e r p z => ?_⟩
  cases d <;> first | exact False.elim z | skip
  exact ⟨_, rep_bl p, hq _ _ _ e r z⟩
theorem tru_rep {d : D} {v : V} {M : Mh} {H : Hp} {k : Bool → Mh → Prop} (hr : HRel K M H) (h : Rep K H M d v) (z : zTru d M k) : ∃ b, TruV K v H b ∧ k b M := by
  cases d with
  | non => rw [rep_non h]; exact ⟨_, rfl, z⟩
  | bl b => rw [rep_bl h]; exact ⟨_, rfl, z⟩
  | int b => rw [rep_int h]; exact ⟨_, rfl, z⟩
  | str b => rw [rep_str h]; exact ⟨_, ⟨z.1, rfl⟩, z.2⟩
  | tup ds =>
    obtain ⟨p, vs, rfl, s, t⟩ := rep_tup h
    refine ⟨!vs.isEmpty, .inr (.inl ⟨vs, s.sq, rfl⟩), ?_⟩
    have e : vs.isEmpty = ds.isEmpty := by
      have := t.length
      cases vs <;> cases ds <;> simp at this ⊢
    rw [e]; exact z
  | lst ds =>
    obtain ⟨p, vs, rfl, s, t⟩ := rep_lst h
    refine ⟨!vs.isEmpty, .inl ⟨vs, s.sq, rfl⟩, ?_⟩
    have e : vs.isEmpty = ds.isEmpty := by
      have := t.length
      cases vs <;> cases ds <;> simp at this ⊢
    rw [e]; exact z
  | ref a =>
    obtain ⟨ds, e, z⟩ := z
    obtain ⟨p, vs, rfl, s, t⟩ := listOfD_rep hr (show listOfD M (.ref a) = some ds from e) h
    refine ⟨!vs.isEmpty, .inl ⟨vs, s, rfl⟩, ?_⟩
    have e : vs.isEmpty = ds.isEmpty := by
      have := t.length
      cases vs <;> cases ds <;> simp at this ⊢
    rw [e]; exact z
theorem imp_tru {v : ZE} {σ : L2.St} {H : Hp} {Q : Bool → Hp → Prop} (h : upT K (mkT v) σ H Q) : up K v σ H (fun x H' => ∃ k, TruV K x H' k ∧ Q k H') := by
  obtain ⟨s, M, q, R, h, hq⟩ := h
  refine ⟨s, M, _, R, h, fun d M2 v H2 e r p z => ?_⟩
  obtain ⟨b, h1, h2⟩ := tru_rep r p z
  exact ⟨b, h1, hq _ _ _ e r h2⟩

/-- a form without an arm of its own in isTrue -/
theorem pt_ofV {e : Expr} {v : ZE} (h : PE X e (up X.K v)) (ho : ownTest e = false) : PT X e (upT X.K (mkT v)) := by
  refine PT.imp (pt_truth h ?_) fun σ H Q w => imp_tru w
  intro whole
  cases e <;> first | exact Bool.noConfusion ho | rfl | skip
  rename_i op x p
  cases op <;> first | exact Bool.noConfusion ho | rfl
theorem both_ofV {e : Expr} {v : ZE} (ho : ownTest e = false) (h : PE X e (up X.K v)) : PE X e (up X.K (ofV v).v) ∧ PT X e (upT X.K (ofV v).t) := ⟨h, pt_ofV h ho⟩

theorem imp_un {z : D → Mh → KD → Prop} {r : V → Hp → VK → Prop} (hz : ∀ d v M H q Q, HRel K M H → Rep K H M d v → QRel K M H q Q → z d M q → r v H Q) {σ : L2.St} {H : Hp} {Q : VK} (h : up K (zUn z za) σ H Q) : tUn r (up K za) σ H Q := by
  obtain ⟨s, M, q, R, h, hq⟩ := h
  exact up_then R h fun d1 M1 v1 H1 e1 R1 r1 z1 => hz d1 v1 M1 H1 q Q R1.heap r1 (hq.at e1) z1

theorem u_var {i : Nat} {x : Str} (hN : X.N[i]? = some x) (hv : Vis X.env.scope x) (h1 : (x == ("__debug__" : Str)) = false) (h2 : (x == ("__classdict__" : Str)) = false) : PE X (.Name x pos) (up X.K (zVar i)) :=
  PE.imp (pe_var hN hv h1 h2) fun σ H Q ⟨s, M, q, R, h, hq⟩ => by
    have h : (match slot s i with | some d => q d M | none => False) := h
    cases e : slot s i with
    | none => rw [e] at h; exact h.elim
    | some d =>
      rw [e] at h
      obtain ⟨v, h1, h2⟩ := R.at' i d (slot_get e)
      exact ⟨v, h1, hq.use R.heap h2 h⟩
theorem u_cst {e : Expr} {v : V} {d : D} (h : PE X e (tC v)) (r : ∀ H M, Rep X.K H M d v) : PE X e (up X.K (zCst d)) :=
  PE.imp h fun σ H Q ⟨s, M, q, R, h, hq⟩ => hq.use R.heap (r H M) h
theorem u_bin {o : Op} (ha : PE X a (up X.K za)) (hb : PE X b (up X.K zb)) : PE X (.BinOp a (opOf o) b pos) (up X.K (zBin (zOp o) za zb)) := by
  obtain ⟨r, h1, h2⟩ := oz_op (X := X) o
  exact PE.imp (pe_op h1 ha hb) fun σ H Q w => imp_bin h2 w
theorem u_neg (ha : PE X a (up X.K za)) : PE X (.UnaryOp .USub a pos) (up X.K (zUn zNegD za)) :=
  PE.imp (pe_un un_neg ha) fun σ H Q w => imp_un (fun d v M H q Q hr r hq z => by
    cases d <;> first | exact False.elim z | skip
    exact ⟨_, rep_int r, hq.use hr mk_int z⟩) w
theorem noset {o : CmpOp} {e : Expr} (h : isSet e = false) : behindInMarks o e = false := by
  cases e <;> first | exact Bool.noConfusion h | rfl
theorem u_cmp {o : Co} (hu : X.A.units + 65 < cLine) (hs : isSet b = false) (ha : PE X a (up X.K za)) (hb : PE X b (up X.K zb)) : PE X (.Compare a [coOf o] [b] pos) (up X.K (zBin (zCo o) za zb)) ∧ PT X (.Compare a [coOf o] [b] pos) (upT X.K (testV (zBin (zCo o) za zb))) := by
  obtain ⟨r, h1, h2⟩ := oz_co hu o
  exact ⟨PE.imp (pe_cmpR h1 ha hb (noset hs)) fun σ H Q w => imp_bin h2 w, PT.imp (pt_cmpR h1 ha hb (noset hs)) fun σ H Q w => imp_bin h2 (imp_test w)⟩
theorem imp_chain {z z' : Z2} {r r' : R2} (hz : R2Rep K z r) (hz' : R2Rep K z' r') {σ : L2.St} {H : Hp} {Q : VK} (h : up K (zChain z z' za zb zd) σ H Q) : tChain r r' (up K za) (up K zb) (up K zd) σ H Q := by
  obtain ⟨s, M, q, R, h, hq⟩ := h
  refine up_then R h fun d1 M1 v1 H1 e1 R1 r1 z1 => up_then R1 z1 fun d2 M2 v2 H2 e2 R2 r2 z2 => hz d1 d2 v1 v2 M2 H2 _ _ R2.heap (Rep.ext e2 _ _ r1) r2 ?_ z2
  intro d3 M3 v3 H3 e3 hr3 r3 z3
  cases d3 <;> first | exact False.elim z3 | skip
  rename_i k
  refine ⟨k, rep_bl r3, ?_⟩
  have R3 := R2.ext e3 hr3
  cases k with
  | true =>
    rw [if_pos rfl]
    have z3 : zd s M3 (fun w M5 => z' d2 w M5 q) := by simpa [zBl] using z3
    exact up_then R3 z3 fun d4 M4 v4 H4 e4 R4 r4 z4 => hz' d2 d4 v2 v4 M4 H4 q Q R4.heap (Rep.ext (e3.trans e4) _ _ r2) r4 (hq.at (((e1.trans e2).trans e3).trans e4)) z4
  | false =>
    rw [if_neg (by decide)]
    have z3 : q (.bl false) M3 := by simpa [zBl] using z3
    exact (hq.at ((e1.trans e2).trans e3)).use hr3 mk_bl z3
theorem u_chain {o o' : Co} (hu : X.A.units + 65 < cLine) (hs : isSet b = false) (hs' : isSet d = false) (ha : PE X a (up X.K za)) (hb : PE X b (up X.K zb)) (hd : PE X d (up X.K zd)) :
    PE X (.Compare a [coOf o, coOf o'] [b, d] pos) (up X.K (zChain (zCo o) (zCo o') za zb zd)) ∧ PT X (.Compare a [coOf o, coOf o'] [b, d] pos) (upT X.K (testV (zChain (zCo o) (zCo o') za zb zd))) := by
  obtain ⟨r, h1, h2⟩ := oz_co hu o
  obtain ⟨r', h1', h2'⟩ := oz_co hu o'
  have hm : lastMarks [coOf o, coOf o'] [b, d] = false := noset hs'
  exact ⟨PE.imp (pe_chain h1 h1' ha hb hd hm) fun σ H Q w => imp_chain h2 h2' w, PT.imp (pt_chain h1 h1' ha hb hd hm) fun σ H Q w => imp_chain h2 h2' (imp_test w)⟩

/-! ### and, or, not, if else -/
theorem imp_andV {σ : L2.St} {H : Hp} {Q : VK} (h : up K (zAndV za zb) σ H Q) : tAndV (up K za) (up K zb) σ H Q := by
  obtain ⟨s, M, q, R, h, hq⟩ := h
  refine up_then R h fun d1 M1 v1 H1 e1 R1 r1 z1 => ?_
  cases d1 <;> first | exact False.elim z1 | skip
  rename_i k
  refine ⟨k, rep_bl r1, ?_⟩
  cases k with
  | true =>
    rw [if_pos rfl]
    exact ⟨s, M1, q, R1, by simpa [zBl] using z1, hq.at e1⟩
  | false =>
    rw [if_neg (by decide)]
    exact (hq.at e1).use R1.heap mk_bl (by simpa [zBl] using z1)
theorem imp_orV {σ : L2.St} {H : Hp} {Q : VK} (h : up K (zOrV za zb) σ H Q) : tOrV (up K za) (up K zb) σ H Q := by
  obtain ⟨s, M, q, R, h, hq⟩ := h
  refine up_then R h fun d1 M1 v1 H1 e1 R1 r1 z1 => ?_
  cases d1 <;> first | exact False.elim z1 | skip
  rename_i k
  refine ⟨k, rep_bl r1, ?_⟩
  cases k with
  | false =>
    rw [if_neg (by decide)]
    exact ⟨s, M1, q, R1, by simpa [zBl] using z1, hq.at e1⟩
  | true =>
    rw [if_pos rfl]
    exact (hq.at e1).use R1.heap mk_bl (by simpa [zBl] using z1)
theorem imp_andT {σ : L2.St} {H : Hp} {Q : Bool → Hp → Prop} (h : upT K (zAndT ta tb) σ H Q) : tAnd (upT K ta) (upT K tb) σ H Q := by
  obtain ⟨s, M, q, R, h, hq⟩ := h
  refine upT_then R h fun k M1 H1 e1 R1 z1 => ?_
  cases k with
  | true =>
    rw [if_pos rfl] at z1 ⊢
    exact ⟨s, M1, q, R1, z1, fun b M2 H2 e2 r2 w => hq b M2 H2 (e1.trans e2) r2 w⟩
  | false =>
    rw [if_neg (by decide)] at z1 ⊢
    exact hq _ _ _ e1 R1.heap z1
theorem imp_orT {σ : L2.St} {H : Hp} {Q : Bool → Hp → Prop} (h : upT K (zOrT ta tb) σ H Q) : tOr (upT K ta) (upT K tb) σ H Q := by
  obtain ⟨s, M, q, R, h, hq⟩ := h
  refine upT_then R h fun k M1 H1 e1 R1 z1 => ?_
  cases k with
  | false =>
    rw [if_neg (by decide)] at z1 ⊢
    exact ⟨s, M1, q, R1, z1, fun b M2 H2 e2 r2 w => hq b M2 H2 (e1.trans e2) r2 w⟩
  | true =>
    rw [if_pos rfl] at z1 ⊢
    exact hq _ _ _ e1 R1.heap z1
theorem u_notV (ha : PE X a (up X.K za)) : PE X (.UnaryOp .Not a pos) (up X.K (zNotV za)) :=
  PE.imp (pe_notT ha) fun σ H Q ⟨s, M, q, R, h, hq⟩ => up_then R h fun d1 M1 v1 H1 e1 R1 r1 z1 => by
    obtain ⟨b, h1, h2⟩ := tru_rep R1.heap r1 z1
    exact ⟨b, h1, (hq.at e1).use R1.heap mk_bl h2⟩
theorem u_notT (ha : PT X a (upT X.K ta)) : PT X (.UnaryOp .Not a pos) (upT X.K (zNotT ta)) :=
  PT.imp (pt_not ha) fun σ H Q ⟨s, M, q, R, h, hq⟩ => upT_then R h fun k M1 H1 e1 R1 z1 => hq _ _ _ e1 R1.heap z1
theorem u_ite (hc : PT X d (upT X.K td)) (ha : PE X a (up X.K za)) (hb : PE X b (up X.K zb)) : PE X (.IfExp d a b pos) (up X.K (zIte td za zb)) :=
  PE.imp (pe_ifExp hc ha hb) fun σ H Q ⟨s, M, q, R, h, hq⟩ => upT_then R h fun k M1 H1 e1 R1 z1 => by
    cases k with
    | true => rw [if_pos rfl] at z1 ⊢; exact ⟨s, M1, q, R1, z1, hq.at e1⟩
    | false => rw [if_neg (by decide)] at z1 ⊢; exact ⟨s, M1, q, R1, z1, hq.at e1⟩
theorem pt_ifT {tA tB tC' : TT} (hc : PT X d tA) (ha : PT X a tB) (hb : PT X b tC') : PT X (.IfExp d a b pos) (fun σ H Q => tA σ H fun c H1 => if c = true then tB σ H1 Q else tC' σ H1 Q) := by
  refine ⟨fun pins s σ H Q I h => ?_⟩
  refine PyProof.Rows.isTrue_IfExp (thn (hc.run pins s σ H _ I h) fun c s1 ⟨H1, I1, q1⟩ => ?_)
  cases c with
  | true => exact ha.run pins s1 σ H1 Q I1 (by simpa using q1)
  | false => exact hb.run pins s1 σ H1 Q I1 (by simpa using q1)
theorem u_iteT (hc : PT X d (upT X.K td)) (ha : PT X a (upT X.K ta)) (hb : PT X b (upT X.K tb)) : PT X (.IfExp d a b pos) (upT X.K (zIteT td ta tb)) :=
  PT.imp (pt_ifT hc ha hb) fun σ H Q ⟨s, M, q, R, h, hq⟩ => upT_then R h fun k M1 H1 e1 R1 z1 => by
    cases k with
    | true => rw [if_pos rfl] at z1 ⊢; exact ⟨s, M1, q, R1, z1, fun b M2 H2 e2 r2 w => hq b M2 H2 (e1.trans e2) r2 w⟩
    | false => rw [if_neg (by decide)] at z1 ⊢; exact ⟨s, M1, q, R1, z1, fun b M2 H2 e2 r2 w => hq b M2 H2 (e1.trans e2) r2 w⟩

/-! ### argument lists -/
def upN (K : PySem.W.Frag) (n : Nat) (t : ZA) : TA := fun σ H Q => upA K t σ H fun vs H1 => vs.length = n → Q vs H1
theorem a_nil : PA X [] (upA X.K zANil) := PA.imp pa_nil fun σ H Q ⟨s, M, q, R, h, hq⟩ => hq _ _ _ _ Ext.refl R.heap Reps.nil h
theorem n_nil : PA X [] (upN X.K 0 zANil) := PA.imp pa_nil fun σ H Q ⟨s, M, q, R, h, hq⟩ => hq _ _ _ _ Ext.refl R.heap Reps.nil h rfl
theorem a_cons {e : Expr} {es : List Expr} {z : ZE} {r : ZA} (hs : isStar e = false) (ha : PE X e (up X.K z)) (hr : PA X es (upA X.K r)) : PA X (e :: es) (upA X.K (zACons z r)) :=
  PA.imp (pa_cons ha hr (star_no hs)) fun σ H Q ⟨s, M, q, R, h, hq⟩ => up_then R h fun d1 M1 v1 H1 e1 R1 r1 z1 => upA_then R1 z1 fun ds M2 vs H2 e2 R2 r2 z2 => hq _ _ _ _ (e1.trans e2) R2.heap (Reps.cons (Rep.ext e2 _ _ r1) r2) z2
theorem n_cons {e : Expr} {es : List Expr} {z : ZE} {r : ZA} {n : Nat} (hs : isStar e = false) (ha : PE X e (up X.K z)) (hr : PA X es (upN X.K n r)) : PA X (e :: es) (upN X.K (n + 1) (zACons z r)) :=
  PA.imp (pa_cons ha hr (star_no hs)) fun σ H Q ⟨s, M, q, R, h, hq⟩ => up_then R h fun d1 M1 v1 H1 e1 R1 r1 z1 => upA_then R1 z1 fun ds M2 vs H2 e2 R2 r2 z2 hl => hq _ _ _ _ (e1.trans e2) R2.heap (Reps.cons (Rep.ext e2 _ _ r1) r2) z2 (by rw [List.length_cons, hl])
theorem a_star {e : Expr} {p : Pos} {es : List Expr} {z : ZE} {r : ZA} (ha : PE X e (up X.K z)) (hr : PA X es (upA X.K r)) : PA X (.Starred e p :: es) (upA X.K (zAStar z r)) :=
  PA.imp (StX.pa_star ha hr star_yes) fun σ H Q ⟨s, M, q, R, h, hq⟩ => up_then R h fun d1 M1 v1 H1 e1 R1 r1 ⟨xs, ex, z1⟩ => by
    obtain ⟨p, vs, rfl, sq, t⟩ := itemsOf_rep R1.heap ex r1
    exact ⟨p, vs, rfl, sq.symm, upA_then R1 z1 fun ds M2 ws H2 e2 R2 r2 z2 => hq _ _ _ _ (e1.trans e2) R2.heap ((Reps.ext e2 _ _ t).append r2) z2⟩
theorem u_tup {es : List Expr} {k n : Nat} {z : ZA} (hn : n ≤ 1000) (h : PA X es (upN X.K n z)) : PE X (.Tuple es k pos) (up X.K (zTup z)) :=
  PE.imp (pe_tup h) fun σ H Q ⟨s, M, q, R, h, hq⟩ => upA_then R h fun ds M2 vs H2 e2 R2 r2 z2 hl =>
    ⟨by rw [hl, sizeLine_eq]; omega, fun p hp => hq _ _ _ _ (e2.trans (Ext.new hp)) (HRel.new hp R2.heap) (Rep.newT R2.heap hp r2) z2⟩
theorem u_tupS {es : List Expr} {k : Nat} {z : ZA} (h : PA X es (upA X.K z)) : PE X (.Tuple es k pos) (up X.K (zTupS z)) :=
  PE.imp (pe_tup h) fun σ H Q ⟨s, M, q, R, h, hq⟩ => upA_then R h fun ds M2 vs H2 e2 R2 r2 z2 =>
    ⟨by rw [r2.length]; exact z2.1, fun p hp => hq _ _ _ _ (e2.trans (Ext.new hp)) (HRel.new hp R2.heap) (Rep.newT R2.heap hp r2) z2.2⟩
theorem u_lst {es : List Expr} {n : Nat} {mu : Bool} {z : ZA} (hn : n ≤ 1000) (h : PA X es (upN X.K n z)) : PE X (.List es pos) (up X.K (zLst mu z)) :=
  PE.imp (pe_lst h) fun σ H Q ⟨s, M, q, R, h, hq⟩ => upA_then R h fun ds M2 vs H2 e2 R2 r2 z2 hl =>
    ⟨by rw [hl, sizeLine_eq]; omega, fun p hp => by
      cases mu with
      | true => exact hq _ _ _ _ (e2.trans (Ext.newM hp)) (HRel.newM R2.heap hp r2) mk_ref (z2 p (HRel.nil R2.heap hp))
      | false => exact hq _ _ _ _ (e2.trans (Ext.new hp)) (HRel.new hp R2.heap) (Rep.newL R2.heap hp r2) z2⟩

/-! ### subscripts, slices -/
theorem plainIx {y : Expr} (h : isSlice y = false) : PlainIx y := by
  intro o i
  cases y <;> first | exact Bool.noConfusion h | rfl
theorem u_sub (hs : isSlice b = false) (ha : PE X a (up X.K za)) (hb : PE X b (up X.K zb)) : PE X (.Subscript a b pos) (up X.K (zBin zIx za zb)) := by
  obtain ⟨r, h1, h2⟩ := iz_ix (X := X)
  exact PE.imp (pe_ix h1 ha hb (plainIx hs)) fun σ H Q w => imp_bin h2 w
structure PZ (X : Cx) (e : Option Expr) (z : ZO) : Prop where
  po : PO X e (fun σ H Q => ∃ s M k, Rel X.K s M σ H ∧ z s M k ∧ ∀ o M2 H2, Ext M H M2 H2 → HRel X.K M2 H2 → k o M2 → Q o H2)
theorem PO.imp {e : Option Expr} {t t' : TO} (h : PO X e t) (i : ∀ σ H Q, t' σ H Q → t σ H Q) : PO X e t' := ⟨fun pins s σ H Q I w => h.run pins s σ H Q I (i σ H Q w)⟩
theorem o_none : PZ X none zONone := ⟨PO.imp po_none fun σ H Q ⟨s, M, k, R, h, hq⟩ => hq _ _ _ Ext.refl R.heap h⟩
theorem o_some (ha : PE X a (up X.K za)) : PZ X (some a) (zOSome za) := ⟨PO.imp (po_some ha) fun σ H Q ⟨s, M, k, R, h, hq⟩ => up_then R h fun d1 M1 v1 H1 e1 R1 r1 z1 => by
  cases d1 <;> first | exact False.elim z1 | skip
  exact ⟨_, rep_int r1, hq _ _ _ e1 R1.heap z1⟩⟩
theorem u_slice {lo hi : Option Expr} {zl zh : ZO} {p2 : Pos} (ha : PE X a (up X.K za)) (hl : PZ X lo zl) (hh : PZ X hi zh) : PE X (.Subscript a (.Slice lo hi none p2) pos) (up X.K (zSlice za zl zh)) := by
  obtain ⟨r, h1, h2⟩ := sz_sl (X := X)
  exact PE.imp (pe_slice h1 ha hl.po hh.po) fun σ H Q ⟨s, M, q, R, h, hq⟩ => up_then R h fun d1 M1 v1 H1 e1 R1 r1 z1 =>
    ⟨s, M1, _, R1, z1, fun l M2 H2 e2 hr2 z2 => ⟨s, M2, _, R1.ext e2 hr2, z2, fun u M3 H3 e3 hr3 z3 => h2 d1 v1 l u M3 H3 q Q hr3 (Rep.ext (e2.trans e3) _ _ r1) (hq.at ((e1.trans e2).trans e3)) z3⟩⟩

/-! ### built-ins, methods -/
theorem glob_of {c : Ctx} {x : Str} (hs : X.env.scope = c.sc) (h : glB c x = true) : Gl X x := by
  unfold glB at h
  have := of_decide_eq_true h
  show X.env.scope.names.lookup x = _
  rw [hs]; exact this
theorem bn_name (b : Bi) : biName b ∈ bnames ∧ biName b ≠ "__name__" ∧ (biName b == ("__debug__" : Str)) = false := by
  cases b <;> decide +kernel
theorem imp_call {z : ZC} {r : List V → Hp → VK → Prop} {za : ZA} (hz : ∀ ds vs M H q Q, HRel K M H → Reps K H M ds vs → QRel K M H q Q → z ds M q → r vs H Q) {σ : L2.St} {H : Hp} {Q : VK} (h : up K (zCall z za) σ H Q) : tCB r (upA K za) σ H Q := by
  obtain ⟨s, M, q, R, h, hq⟩ := h
  exact upA_then R h fun ds M1 vs H1 e1 R1 r1 z1 => hz ds vs M1 H1 q Q R1.heap r1 (hq.at e1) z1
theorem u_bi {b : Bi} {p : Pos} {es : List Expr} {z : ZA} (hc : X.calm = true) (hgd : X.A.guards = some []) (hu : X.A.units + 64 < cLine) (hbn : ∀ x ∈ bnames, X.mg x = none) (hg : Gl X (biName b)) (hx : plainX es = true) (hne : es ≠ []) (ha : PA X es (upA X.K z)) :
    PE X (.Call (.Name (biName b) p) es [] pos) (up X.K (zCall (zBi b) z)) := by
  obtain ⟨r, h1, h2⟩ := cz_bi hc hgd hu b
  obtain ⟨n1, n2, n3⟩ := bn_name b
  cases es with
  | nil => exact absurd rfl hne
  | cons e es =>
    unfold plainX at hx
    rw [Bool.and_eq_true] at hx
    have hst : isStar e = false := by simpa using hx.1
    have bt := bi_boot b
    have hv : (∃ id, biVal b = .builtin id) ∨ ∃ T, biVal b = .type T := by cases b <;> first | exact .inl ⟨_, rfl⟩ | exact .inr ⟨_, rfl⟩
    rcases hv with ⟨id, e1⟩ | ⟨T, e1⟩
    · rw [e1] at h1 bt
      exact PE.imp (pe_callB h1 hg (hbn _ n1) bt ha n2 n3 (star_no hst) (plain_any hx.2)) fun σ H Q w => imp_call h2 w
    · rw [e1] at h1 bt
      exact PE.imp (pe_callTy h1 hg (hbn _ n1) bt ha n2 n3 (star_no hst) (plain_any hx.2)) fun σ H Q w => imp_call h2 w
theorem ty_boot (T : Ty) : bootBuiltins (Str.ofString (tyName T)) = some (.type (tyName T)) ∧ Str.ofString (tyName T) ∈ bnames ∧ Str.ofString (tyName T) ≠ "__name__" ∧ (Str.ofString (tyName T) == ("__debug__" : Str)) = false := by
  cases T <;> decide +kernel
theorem u_isi {T : Ty} {p p2 : Pos} (hbn : ∀ x ∈ bnames, X.mg x = none) (hg : Gl X "isinstance") (hg2 : Gl X (Str.ofString (tyName T))) (hs : isStar a = false) (ha : PE X a (up X.K za)) :
    PE X (.Call (.Name "isinstance" p) [a, .Name (Str.ofString (tyName T)) p2] [] pos) (up X.K (zUn (zIsi T) za)) := by
  obtain ⟨b1, b2, b3, b4⟩ := ty_boot T
  have h2 : PE X (.Name (Str.ofString (tyName T)) p2) (tC (.ty (tyName T))) := pe_bltn hg2 (hbn _ b2) b1 rfl b3 b4
  refine PE.imp (pe_callB call_isi hg (hbn _ (by decide +kernel)) PyProof.Rows.boot_isinstance (pa_cons ha (pa_cons h2 pa_nil) (star_no hs)) (by decide) (by decide) (star_no hs) rfl) fun σ H Q ⟨s, M, q, R, h, hq⟩ => ?_
  refine up_then R h fun d1 M1 v1 H1 e1 R1 r1 z1 => ?_
  exact ⟨v1, _, _, _, _, rfl, .ty _, rep_ty R1.heap r1 z1.1, kit_ty (kit_all T d1), (hq.at e1).use R1.heap mk_bl z1.2⟩
theorem base_of {o : Expr} {m : Str} {env : Env} (h : isCall o = false) : attributeBase o m env (eval o env) = eval o env := by
  cases o <;> first | exact Bool.noConfusion h | rfl
theorem u_bits {ap : Pos} (hc : isCall a = false) (hl : (ap.endLine == pos.line) = true) (ha : PE X a (up X.K za)) : PE X (.Call (.Attribute a "bit_length" ap) [] [] pos) (up X.K (zUn zBitsD za)) :=
  PE.imp (pe_bits ha (base_of hc) hl) fun σ H Q w => imp_un (r := fun x H1 Q => ∃ i, x = .int i ∧ Q (.int (Builtin.Int.intBits i : Nat)) H1) (fun d v M H q Q hr r hq z => by
    cases d <;> first | exact False.elim z | skip
    exact ⟨_, rep_int r, hq.use hr mk_int z⟩) w
theorem few_of {y : Expr} {cp : Pos} {env : Env} (h : isStar y = false) : ((backTo cp (starEach (y :: []) env)).all (fun x => !x.1) && (backToKw cp (keywordEach [] env)).all (fun x => x.1.isSome)
      && decide ((y :: ([] : List Expr)).length + ([] : List Keyword).length + (if ([] : List Keyword).isEmpty then 0 else 1) < 30)) = true := by
  rw [star_no h]; rfl
theorem toPys_get : ∀ {xs : List D} {j : Nat} {z : D}, xs[j]? = some z → (toPys xs)[j]? = some (toPy z)
  | [], _, _, h => by simp at h
  | x :: xs, 0, z, h => by simp at h; subst h; unfold toPys; rfl
  | x :: xs, j + 1, z, h => by
    have := toPys_get (xs := xs) (j := j) (z := z) (by simpa using h)
    unfold toPys; simpa using this
theorem toPys_inv : ∀ {xs : List D} {j : Nat} {z : PyData}, (toPys xs)[j]? = some z → ∃ d, xs[j]? = some d ∧ toPy d = z
  | [], _, _, h => by unfold toPys at h; simp at h
  | x :: xs, 0, z, h => by unfold toPys at h; simp at h; exact ⟨x, rfl, h⟩
  | x :: xs, j + 1, z, h => by
    unfold toPys at h
    obtain ⟨d, h1, h2⟩ := toPys_inv (xs := xs) (j := j) (z := z) (by simpa using h)
    exact ⟨d, by simpa using h1, h2⟩
theorem dp_list {H : Hp} {M : Mh} {d : D} {xs : List D} {v : V} (hr : HRel K M H) (h : listOfD M d = some xs) (r : Rep K H M d v) (o : okd 60 (.lst xs) = true) : Dp K H v (.list (toPys xs)) := by
  obtain ⟨p, vs, rfl, s, t⟩ := listOfD_rep hr h r
  exact .lst s (Reps.dp 59 xs vs (by unfold okd at o; exact o) t)
theorem u_index {ap : Pos} (hu : X.A.units + 65 < cLine) (hc : isCall a = false) (hs : isStar b = false) (hl : (ap.endLine == pos.line) = true) (ha : PE X a (up X.K za)) (hb : PE X b (up X.K zb)) :
    PE X (.Call (.Attribute a "index" ap) [b] [] pos) (up X.K (zMeth zIndexD za zb)) :=
  PE.imp (pe_bm PySem.F.plainAttrs_list PySem.F.slot_list_index PySem.F.type_list_index (mt_indexD hu) ha (pa_cons hb pa_nil (star_no hs)) (base_of hc) (few_of hs) hl (star_no hs) rfl) fun σ H Q ⟨s, M, q, R, h, hq⟩ =>
    up_then R h fun d1 M1 v1 H1 e1 R1 r1 ⟨⟨ys, m1⟩, z1⟩ => by
      obtain ⟨p, vs, rfl, sl, _⟩ := listOfD_rep R1.heap m1 r1
      refine ⟨.inl ⟨rfl, vs, sl⟩, up_then R1 z1 fun d2 M2 v2 H2 e2 R2 r2 z2 => ?_⟩
      obtain ⟨xs, j, z, m2, ⟨o1, o2⟩, g, ez, hf, w⟩ := z2
      refine ⟨p, v2, toPy d2, toPys xs, j, toPy z, rfl, rfl, dp_list R2.heap m2 (Rep.ext e2 _ _ r1) o2, Rep.dp 60 d2 v2 o1 r2, by rw [← toPy_lst]; exact okd_shaped o2, okd_shaped o1, toPys_get g, ez, fun m z' hm hz' => ?_, ((hq.at e1).at e2).use R2.heap mk_int w⟩
      obtain ⟨d, h1, rfl⟩ := toPys_inv hz'
      exact hf m d hm h1
theorem u_app {ap : Pos} (hc : isCall a = false) (hs : isStar b = false) (hl : (ap.endLine == pos.line) = true) (ha : PE X a (up X.K za)) (hb : PE X b (up X.K zb)) :
    PE X (.Call (.Attribute a "append" ap) [b] [] pos) (up X.K (zMeth zAppD za zb)) :=
  PE.imp (pe_bm PySem.F.plainAttrs_list PySem.F.slot_list_append PySem.F.type_list_append mt_append ha (pa_cons hb pa_nil (star_no hs)) (base_of hc) (few_of hs) hl (star_no hs) rfl) fun σ H Q ⟨s, M, q, R, h, hq⟩ =>
    up_then R h fun d1 M1 v1 H1 e1 R1 r1 ⟨⟨ys, m1⟩, z1⟩ => by
      obtain ⟨p, vs, rfl, sl, _⟩ := listOfD_rep R1.heap m1 r1
      refine ⟨.inl ⟨rfl, vs, sl⟩, up_then R1 z1 fun d2 M2 v2 H2 e2 R2 r2 z2 => ?_⟩
      cases d1 <;> first | exact False.elim z2 | skip
      obtain ⟨xs, m2, l, w⟩ := z2
      have ep := rep_ref r1
      cases ep
      obtain ⟨us, h1, h2⟩ := R2.heap p _ m2
      refine ⟨p, us, v2, rfl, rfl, h1, by rw [h2.length]; exact l, ?_⟩
      exact hq _ _ _ _ ((e1.trans e2).trans (Ext.put m2)) (HRel.put R2.heap m2 (h2.append (Reps.cons r2 Reps.nil))) mk_non w
theorem u_pop {ap : Pos} (hc : isCall a = false) (hl : (ap.endLine == pos.line) = true) (ha : PE X a (up X.K za)) : PE X (.Call (.Attribute a "pop" ap) [] [] pos) (up X.K (zUn zPopD za)) :=
  PE.imp (pe_bm0 PySem.F.plainAttrs_list PySem.F.slot_list_pop PySem.F.type_list_pop mt_pop ha (base_of hc) hl) fun σ H Q ⟨s, M, q, R, h, hq⟩ =>
    up_then R h fun d1 M1 v1 H1 e1 R1 r1 z1 => by
      cases d1 <;> first | exact False.elim z1 | skip
      obtain ⟨xs, y, m2, w⟩ := z1
      have ep := rep_ref r1
      subst ep
      obtain ⟨us, h1, h2⟩ := R1.heap _ _ m2
      refine ⟨.inl ⟨rfl, us, SqL.of h1⟩, ?_⟩
      have hlen := h2.length
      have t := h2.take xs.length
      rw [List.take_left] at t
      obtain ⟨v, g, rv⟩ := h2.get (i := xs.length) (d := y) (by simp)
      refine ⟨_, us, v, rfl, rfl, h1, by rw [hlen]; simpa using g, ?_⟩
      have e : us.dropLast = us.take xs.length := by rw [List.dropLast_eq_take, hlen]; simp
      rw [e]
      exact hq _ _ _ _ (e1.trans (Ext.put m2)) (HRel.put R1.heap m2 t) (Rep.ext (Ext.put m2) _ _ rv) w
theorem rg_reps {H : Hp} {M : Mh} (a b : Int) : Reps K H M (rgD a b) (rgV a b) := by
  have : ∀ l : List Nat, Reps K H M (l.map fun i => D.int (a + (i : Nat))) (l.map fun i => V.int (a + (i : Nat))) := by
    intro l
    induction l with
    | nil => exact Reps.nil
    | cons x l ih => exact Reps.cons mk_int ih
  exact this _
theorem u_lrange1 {p p2 pos2 : Pos} (hc : X.calm = true) (hbn : ∀ x ∈ bnames, X.mg x = none) (hg : Gl X "list") (hg2 : Gl X "range") (hs : isStar a = false) (ha : PE X a (up X.K za)) :
    PE X (.Call (.Name "list" p) [.Call (.Name "range" p2) [a] [] pos2] [] pos) (up X.K (zCall zRgL (zACons za zANil))) :=
  PE.imp (pe_listRg hc hg (hbn _ (by decide +kernel)) (prg_1 hg2 (hbn _ (by decide +kernel)) ha (star_no hs)) rfl) fun σ H Q ⟨s, M, q, R, h, hq⟩ => up_then R h fun d1 M1 v1 H1 e1 R1 r1 z1 => by
    cases d1 <;> first | exact False.elim z1 | skip
    exact ⟨_, rep_int r1, z1.1, fun l hl => hq _ _ _ _ (e1.trans (Ext.new hl)) (HRel.new hl R1.heap) (Rep.newL R1.heap hl (rg_reps _ _)) z1.2⟩
theorem u_lrange2 {p p2 pos2 : Pos} (hc : X.calm = true) (hbn : ∀ x ∈ bnames, X.mg x = none) (hg : Gl X "list") (hg2 : Gl X "range") (hs : isStar a = false) (hs2 : isStar b = false) (ha : PE X a (up X.K za)) (hb : PE X b (up X.K zb)) :
    PE X (.Call (.Name "list" p) [.Call (.Name "range" p2) [a, b] [] pos2] [] pos) (up X.K (zCall zRgL (zACons za (zACons zb zANil)))) :=
  PE.imp (pe_listRg hc hg (hbn _ (by decide +kernel)) (prg_2 hg2 (hbn _ (by decide +kernel)) ha hb (star_no hs) (star_no hs2) (by rw [star_no hs2]; rfl)) rfl) fun σ H Q ⟨s, M, q, R, h, hq⟩ => up_then R h fun d1 M1 v1 H1 e1 R1 r1 z1 => up_then R1 z1 fun d2 M2 v2 H2 e2 R2 r2 z2 => by
    cases d1 <;> cases d2 <;> first | exact False.elim z2 | skip
    exact ⟨_, _, rep_int r1, rep_int r2, z2.1, fun l hl => hq _ _ _ _ ((e1.trans e2).trans (Ext.new hl)) (HRel.new hl R2.heap) (Rep.newL R2.heap hl (rg_reps _ _)) z2.2⟩
end
end Zz
end
section
/-! Z8: enumerate of a tuple; what a for walks; targets. -/
namespace Zz
open PySem PySem.Spec PyProof.Rows L2

/-! ### enumerate(v), one argument, v any thing that iter takes -/
set_option maxHeartbeats 1000000 in
theorem en_new {v : Value} {o : Obj} {Hh : Heap → Prop} (B : Begins v o Hh) : Meets (Builtin.«enumerate.__new__» ⟨[.type "enumerate", v], []⟩) (fun _ R s => Hh s.heap ∧
    R (.ok (.ret (.ref (s.heap.push o).objs.size))) { s with heap := (s.heap.push o).push { cls := .type "enumerate", data := .fields #[.none, .bool false, .ref s.heap.objs.size, rawInt 0, .none, .none] } }) :=
  .of_wp fun prog w A R s hR => by
    obtain ⟨hp, g, d, tk, os⟩ := s; obtain ⟨h1, hR⟩ := hR
    have hsub := sub_enumerate
    have qI : ∀ {A' : Around} {E : Value → Shared → Prop} {Q : Value → Shared → Prop}, Q (.ref hp.objs.size) ⟨hp.push o, g, d, tk, os⟩ → wpAny (model prog w) A' (pyIter v) Q E ⟨hp, g, d, tk, os⟩ := fun q => B.iter prog w _ _ ⟨hp, g, d, tk, os⟩ _ h1 q
    wp_walk using qI
    refine wpAny_stack_any fun st => wpAny_pure ?_
    split
    · rename_i c _ _ _ _ _
      cases (c == Value.type "enumerate") <;> (wp_walk using qI; exact ⟨_, rfl, hR⟩)
    · wp_walk using qI; exact ⟨_, rfl, hR⟩
section
variable {prog : Program} {w : World} {A : Around} {E : Value → Shared → Prop} {s : Shared}
theorem en_call {v : Value} {o : Obj} {Hh : Heap → Prop} {Q : Value → Shared → Prop} (B : Begins v o Hh) (h1 : Hh s.heap)
    (h : ∀ h', IsEnum h' (s.heap.objs.size + 1) s.heap.objs.size 0 .none → h'.get? s.heap.objs.size = some o → (∀ b o, s.heap.get? b = some o → h'.get? b = some o) → Q (.ref (s.heap.objs.size + 1)) { s with heap := h' }) :
    wpAny (model prog w) A (call (.type "enumerate") [v]) Q E s := by
  refine callType_new F.called_enumerate (by decide) (F.typeCall_enumerate_1 _) (F.newCall_enumerate_1 _) (fun obj => F.args_object_init_2 obj _) F.entry_enumerate_new (en_new B) ⟨h1, ?_⟩
  have hz : (s.heap.push o).objs.size = s.heap.objs.size + 1 := Heap.size_push ..
  show _ ∧ _
  rw [hz]
  have he : IsEnum ((s.heap.push o).push { cls := .type "enumerate", data := .fields #[.none, .bool false, .ref s.heap.objs.size, rawInt 0, .none, .none] }) (s.heap.objs.size + 1) s.heap.objs.size 0 .none := by
    have := Heap.get?_push_size (s.heap.push o) (o := { cls := .type "enumerate", data := .fields #[.none, .bool false, .ref s.heap.objs.size, rawInt 0, .none, .none] }) rfl
    rw [hz] at this; exact this
  exact ⟨⟨_, he, rfl⟩, h _ he (Heap.get?_push_of_some _ (Heap.get?_push_size _ B.free)) fun b o x => Heap.get?_push_of_some _ (Heap.get?_push_of_some _ x)⟩
end
/-- the tuple at a, each item in a new pair -/
def IteT (K : PySem.W.Frag) (a : Addr) : It :=
  ⟨fun i H => ∃ (xs : List V) (x : V), SqT K H a xs ∧ xs[i]? = some x, fun i H v H' => ∃ T x, v = .ref T ∧ H T = none ∧ H' = upd H T (.tup [.int (i : Nat), x]) ∧ ∀ xs, SqT K H a xs → xs[i]? = some x, fun i H => ∃ xs : List V, SqT K H a xs ∧ xs.length = i⟩
theorem turn_enT {P : Program} {w : World} {K : PySem.W.Frag} {elts : List Expr} {kk : Nat} {tpos : Pos} (a e it : Addr) :
    Turn P w K (.Tuple elts kk tpos) (IteT K a) [e, it] e (fun i h => (∃ old, IsEnum h e it ((i : Nat) : Int) old) ∧ h.IsTupleIter it a i ∧ e ≠ it ∧ a ≠ e ∧ a ≠ it) where
  mem := by simp
  obj := fun i h st b hb => by
    obtain ⟨⟨old, he⟩, ⟨o, ho, hc, hd⟩, _⟩ := st
    rcases (show b = e ∨ b = it by simpa using hb) with z | z
    · rw [z]; exact ⟨_, he, fun v q => nomatch q⟩
    · rw [z]; exact ⟨o, ho, fun v q => by rw [hd] at q; cases q⟩
  keep := fun i h h' st k => let ⟨⟨old, he⟩, hi, hne⟩ := st; ⟨⟨old, k e (by simp) _ he⟩, hi.at fun o q => k it (by simp) o q, hne⟩
  item := by
    intro X hP hw hK hc i pins s σ H E I hf st hg
    subst hP hw hK
    obtain ⟨⟨old, he⟩, hit, hne, hae, hai⟩ := st
    obtain ⟨xs, x, hq, hx⟩ := hg
    obtain ⟨its, rv, p, hz⟩ := I.tuple hq
    have hel : e < s.heap.objs.size := Heap.lt_size he
    have hil : it < s.heap.objs.size := by obtain ⟨_, q, _⟩ := hit; exact Heap.lt_size q
    have hlt : i < its.toArray.size := by
      have := (List.getElem?_eq_some_iff.mp hx).1
      have l := rv.length
      simp; omega
    have hD := Draws.tuple (prog := X.prog) (w := X.w) (A := X.A.in1) (by have := I.ok.hd hc; exact this) it a hai its.toArray
    refine wpAny_pyNext_enum_itemC hD he ⟨hit, p⟩ hlt hne (by intro z; rcases (show e = it ∨ e = a by simpa using z) with z | z; exact hne z; exact hae z.symm) fun u h' tk hu ho hs' hT hsz hk => ?_
    obtain ⟨y, hy, ru⟩ : ∃ y, xs[i]? = some y ∧ RelV y u := by
      obtain ⟨u', h1, h2⟩ := rv.get hx
      have h1' : its.toArray[i]? = some u' := by simpa using h1
      rw [h1'] at hu; cases hu
      exact ⟨x, hx, h2⟩
    rw [hx] at hy; cases hy
    refine ⟨_, rfl, wpAny_letOwnedTupleGo_enum (s := { s with heap := h', toks := tk + 1 }) ho fun h'' he' sb => ?_⟩
    have hT2 : h''.get? s.heap.objs.size = some { cls := .type "tuple", data := .seq #[.int i tk, u] } := (sb.2 _ (Nat.ne_of_gt hel)).trans hT
    have new : ObjOk X.prog X.w (upd H s.heap.objs.size (.tup [.int (i : Nat), x])) h'' s.heap.objs.size (.tup [.int (i : Nat), x]) :=
      ⟨by show 2 ≤ sizeLine; decide, [.int i tk, u], .cons ⟨_, rfl⟩ (.cons ru .nil), ⟨_, hT2, rfl, _, rfl⟩⟩
    have I1 : Inv X pins σ (upd H s.heap.objs.size (.tup [.int (i : Nat), x])) { s with heap := h'', toks := tk + 1 } :=
      I.turnedNew (t' := tk + 1) (ch := [e, it]) (fun b ob hb q => (sb.2 b (fun z => hb (by simp [z]))).trans (hk b ob (fun z => hb (by simp [z])) (fun z => hb (by simp [z])) q)) hf (Nat.le_refl _) new
    refine ⟨.ref s.heap.objs.size, _, I1, rfl, ⟨_, x, rfl, I.hok.fresh (Nat.le_refl _), rfl, fun ys hy => by rw [I.tuple_inj hy hq]; exact hx⟩, ⟨⟨u, ?_⟩, hs'.1.at fun o q => (sb.2 it (Ne.symm hne)).trans q, hne, hae, hai⟩, fun b hb => ?_⟩
    · have e1 : ((i + 1 : Nat) : Int) = (i : Int) + 1 := by omega
      rw [e1]; exact he'
    · have hb' : b < s.heap.objs.size := by
        rcases (show b = e ∨ b = it by simpa using hb) with z | z
        · rw [z]; exact hel
        · rw [z]; exact hil
      rw [upd_ne (Nat.ne_of_lt hb')]
      exact (hf b hb).1
  done := by
    intro X hP hw hK hc i pins s σ H E I hf st hg
    subst hP hw hK
    obtain ⟨⟨old, he⟩, hit, hne, hae, hai⟩ := st
    obtain ⟨xs, hq, hx⟩ := hg
    obtain ⟨its, rv, p, hz⟩ := I.tuple hq
    obtain ⟨f0, f1, f2, f3, f4, f5⟩ := hf it (by simp)
    have hl := rv.length
    have hD := Draws.tuple (prog := X.prog) (w := X.w) (A := X.A.in1) (by have := I.ok.hd hc; exact this) it a hai its.toArray
    have e2 : its.toArray.size = i := by simp; omega
    exact wpAny_pyNext_enum_endD hD he (by rw [e2]; exact ⟨hit, p⟩) fun h' eb => ⟨rfl, I.turned (t' := s.toks) (fun b o hb q => eb b o hb q) f0 f1 f3 f4 f5⟩
  self := fun A i s Q E st h => let ⟨⟨_, he⟩, _⟩ := st; wpAny_pyIter_enum he h
def iEnT (K : PySem.W.Frag) (ta : TA) : TI := fun σ H R => ta σ H fun vs H1 => ∃ a xs, vs = [.ref a] ∧ ((SqL K H1 a xs ∧ R (Ite K a) H1) ∨ (SqT K H1 a xs ∧ R (IteT K a) H1))
theorem pi_enT {X : Cx} {e : Expr} {ta : TA} {p pos tpos : Pos} {elts : List Expr} {kk : Nat} (hg : Gl X "enumerate") (hm : X.mg "enumerate" = none) (ha : PA X [e] ta) (hs : starEach [e] X.env = [(false, eval e X.env)]) :
    PI X (.Tuple elts kk tpos) (.Call (.Name "enumerate" p) [e] [] pos) (iEnT X.K ta) := by
  refine ⟨fun pins s σ H R I h => ?_⟩
  refine Call_ (ld_blt I hg hm boot_enumerate (PyProof.Rows.callWith_type1 (thn (ha.run pos pins s σ H _ I h) fun us s1 ⟨vs, H1, I1, r1, q1⟩ => ?_) hs rfl))
  obtain ⟨a, xs, ex, q1⟩ := q1
  subst ex
  obtain ⟨u, eu, ru⟩ := vals1 r1
  subst eu
  cases ru
  have fresh2 : ∀ b ∈ [s1.heap.objs.size + 1, s1.heap.objs.size], FpOk X pins H1 b := fun b hb => by
    have hle : s1.heap.objs.size ≤ b := by
      rcases (show b = s1.heap.objs.size + 1 ∨ b = s1.heap.objs.size by simpa using hb) with z | z
      · rw [z]; exact Nat.le_add_right _ _
      · rw [z]; exact Nat.le_refl _
    exact I1.fpOk hle (I1.hok.fresh hle)
  rcases q1 with ⟨hq, q⟩ | ⟨hq, q⟩
  · obtain ⟨its, rv, p', hz⟩ := I1.list hq
    refine call_enumerate_list p'.isList fun h' he hit hsz hk => wpAny_pyIter_enum he ?_
    exact ⟨s1.heap.objs.size + 1, [s1.heap.objs.size + 1, s1.heap.objs.size], _, _, H1, rfl, I1.kept (t' := s1.toks) hk, turn_enum a (s1.heap.objs.size + 1) s1.heap.objs.size, ⟨⟨.none, he⟩, hit, Nat.succ_ne_self _⟩, fresh2, q⟩
  · obtain ⟨its, rv, p', hz⟩ := I1.tuple hq
    obtain ⟨oa, hoa, _⟩ := id p'
    have hal : a < s1.heap.objs.size := Heap.lt_size hoa
    refine en_call (begins_tuple a its.toArray) (show s1.heap.IsTuple a its.toArray from p') fun h' he hit hk => wpAny_pyIter_enum he ?_
    refine ⟨s1.heap.objs.size + 1, [s1.heap.objs.size + 1, s1.heap.objs.size], _, _, H1, rfl, I1.kept (t' := s1.toks) hk, turn_enT a (s1.heap.objs.size + 1) s1.heap.objs.size, ⟨⟨.none, he⟩, ⟨_, hit, rfl, rfl⟩, Nat.succ_ne_self _, ?_, Nat.ne_of_lt hal⟩, fresh2, q⟩
    exact Nat.ne_of_lt (Nat.lt_succ_of_lt hal)
end Zz
end
section
/-! Z9: walks, targets, comprehensions, calls: lifted. -/
namespace Zz
open PySem PySem.Spec PyProof.Rows L2

/-! ### walks -/
def JOk (K : PySem.W.Frag) (J : It) (items : List D) (M : Mh) (H : Hp) : Prop := ∀ M' H', Ext M H M' H' → HRel K M' H' →
  (∀ (i : Nat) (d : D), items[i]? = some d → J.go i H' ∧ ∀ x H'', J.yld i H' x H'' → Ext M' H' M' H'' ∧ HRel K M' H'' ∧ Rep K H'' M' d x) ∧ J.stop items.length H'
def upI (K : PySem.W.Frag) (z : ZI) : TI := fun σ H R => ∃ s M k, Rel K s M σ H ∧ z s M k ∧ ∀ items M2 H2 J, Ext M H M2 H2 → Rel K s M2 σ H2 → JOk K J items M2 H2 → k items M2 → R J H2
section
variable {K : PySem.W.Frag} {M : Mh} {H : Hp} {a b : Addr} {vs ws : List V} {ds es : List D}
theorem StL.inj {M' : Mh} {H' : Hp} (h : StL K H M a vs) (e : Ext M H M' H') : SqL K H' a vs := (h.ext e).sq
theorem jok_list (h : StL K H M a vs) (r : Reps K H M ds vs) : JOk K (Itl K a) ds M H := fun M' H' e hr => by
  have s := (h.ext e).sq
  have t := Reps.ext e _ _ r
  refine ⟨fun i d hd => ?_, ⟨vs, s, by rw [t.length]; exact Nat.le_refl _⟩⟩
  obtain ⟨v, h1, h2⟩ := t.get hd
  refine ⟨⟨vs, v, s, h1⟩, fun x H'' ⟨ex, hx⟩ => ?_⟩
  subst ex
  have := hx vs s
  rw [h1] at this; cases this
  exact ⟨Ext.refl, hr, h2⟩
theorem jok_tup (h : StT K H M a vs) (r : Reps K H M ds vs) : JOk K (Itt K a) ds M H := fun M' H' e hr => by
  have s := (h.ext e).sq
  have t := Reps.ext e _ _ r
  refine ⟨fun i d hd => ?_, ⟨vs, s, by rw [t.length]; exact Nat.le_refl _⟩⟩
  obtain ⟨v, h1, h2⟩ := t.get hd
  refine ⟨⟨vs, v, s, h1⟩, fun x H'' ⟨ex, hx⟩ => ?_⟩
  subst ex
  have := hx vs s
  rw [h1] at this; cases this
  exact ⟨Ext.refl, hr, h2⟩
theorem rgD_get {x y : Int} {i : Nat} {d : D} (h : (rgD x y)[i]? = some d) : i < (y - x).toNat ∧ d = .int (x + (i : Nat)) := by
  unfold rgD at h
  rw [List.getElem?_map] at h
  cases e : (List.range (y - x).toNat)[i]? with
  | none => rw [e] at h; cases h
  | some j =>
    rw [e] at h
    have e2 := List.getElem?_eq_some_iff.mp e
    obtain ⟨h1, h2⟩ := e2
    rw [List.getElem_range] at h2
    subst h2
    rw [List.length_range] at h1
    cases h
    exact ⟨h1, rfl⟩
theorem rgD_len {x y : Int} : (rgD x y).length = (y - x).toNat := by unfold rgD; rw [List.length_map, List.length_range]
theorem jok_rng {x y : Int} : JOk K (Itr x (y - x).toNat) (rgD x y) M H := fun M' H' e hr =>
  ⟨fun i d hd => by
    obtain ⟨h1, rfl⟩ := rgD_get hd
    refine ⟨h1, fun v H'' ⟨e1, e2⟩ => ?_⟩
    subst e1 e2
    exact ⟨Ext.refl, hr, mk_int⟩, by rw [rgD_len]; exact Nat.le_refl _⟩
theorem zipD_get : ∀ {ds es : List D} {i : Nat} {d : D}, (zipD ds es)[i]? = some d → ∃ x y, ds[i]? = some x ∧ es[i]? = some y ∧ d = .tup [x, y]
  | [], _, _, _, h => by unfold zipD at h; simp at h
  | _ :: _, [], _, _, h => by unfold zipD at h; simp at h
  | x :: xs, y :: ys, 0, d, h => by unfold zipD at h; simp at h; exact ⟨x, y, rfl, rfl, h.symm⟩
  | x :: xs, y :: ys, i + 1, d, h => by
    unfold zipD at h
    obtain ⟨u, v, h1, h2, h3⟩ := zipD_get (ds := xs) (es := ys) (i := i) (by simpa using h)
    exact ⟨u, v, by simpa using h1, by simpa using h2, h3⟩
theorem zipD_len : ∀ {ds es : List D}, (zipD ds es).length = min ds.length es.length
  | [], _ => by unfold zipD; simp
  | _ :: _, [] => by unfold zipD; simp
  | x :: xs, y :: ys => by unfold zipD; rw [List.length_cons, zipD_len, List.length_cons, List.length_cons]; omega
theorem pair_new {x y : D} {u v : V} {T : Addr} (hr : HRel K M H) (hn : H T = none) (r1 : Rep K H M x u) (r2 : Rep K H M y v) :
    Ext M H M (upd H T (.tup [u, v])) ∧ HRel K M (upd H T (.tup [u, v])) ∧ Rep K (upd H T (.tup [u, v])) M (.tup [x, y]) (.ref T) :=
  ⟨Ext.new hn, HRel.new hn hr, Rep.newT hr hn (Reps.cons r1 (Reps.cons r2 Reps.nil))⟩
theorem jok_zipL (h : StL K H M a vs) (r : Reps K H M ds vs) (h2 : StL K H M b ws) (r2 : Reps K H M es ws) : JOk K (Itz K a b) (zipD ds es) M H := fun M' H' e hr => by
  have s := (h.ext e).sq
  have t := Reps.ext e _ _ r
  have s2 := (h2.ext e).sq
  have t2 := Reps.ext e _ _ r2
  refine ⟨fun i d hd => ?_, ⟨vs, ws, s, s2, ?_⟩⟩
  · obtain ⟨x, y, g1, g2, rfl⟩ := zipD_get hd
    obtain ⟨u, u1, u2⟩ := t.get g1
    obtain ⟨v, v1, v2⟩ := t2.get g2
    refine ⟨⟨vs, ws, u, v, s, s2, u1, v1⟩, fun z H'' ⟨T, x', y', e1, hn, e2, f1, f2⟩ => ?_⟩
    have a1 := f1 vs s
    have a2 := f2 ws s2
    rw [u1] at a1; rw [v1] at a2
    cases a1; cases a2
    subst e1 e2
    exact pair_new hr hn u2 v2
  · rw [zipD_len, t.length, t2.length]; omega
theorem jok_zipT (h : StT K H M a vs) (r : Reps K H M ds vs) (h2 : StT K H M b ws) (r2 : Reps K H M es ws) : JOk K (RZ.ItzT K a b) (zipD ds es) M H := fun M' H' e hr => by
  have s := (h.ext e).sq
  have t := Reps.ext e _ _ r
  have s2 := (h2.ext e).sq
  have t2 := Reps.ext e _ _ r2
  refine ⟨fun i d hd => ?_, ⟨vs, ws, s, s2, ?_⟩⟩
  · obtain ⟨x, y, g1, g2, rfl⟩ := zipD_get hd
    obtain ⟨u, u1, u2⟩ := t.get g1
    obtain ⟨v, v1, v2⟩ := t2.get g2
    refine ⟨⟨vs, ws, u, v, s, s2, u1, v1⟩, fun z H'' ⟨T, x', y', e1, hn, e2, f1, f2⟩ => ?_⟩
    have a1 := f1 vs s
    have a2 := f2 ws s2
    rw [u1] at a1; rw [v1] at a2
    cases a1; cases a2
    subst e1 e2
    exact pair_new hr hn u2 v2
  · rw [zipD_len, t.length, t2.length]; omega
theorem enumD_get : ∀ {ds : List D} {n i : Nat} {d : D}, (enumD n ds)[i]? = some d → ∃ x, ds[i]? = some x ∧ d = .tup [.int ((n + i : Nat) : Int), x]
  | [], _, _, _, h => by unfold enumD at h; simp at h
  | x :: xs, n, 0, d, h => by unfold enumD at h; simp at h; exact ⟨x, rfl, h.symm⟩
  | x :: xs, n, i + 1, d, h => by
    unfold enumD at h
    obtain ⟨u, h1, h2⟩ := enumD_get (ds := xs) (n := n + 1) (i := i) (by simpa using h)
    refine ⟨u, by simpa using h1, ?_⟩
    rw [h2]
    have : n + 1 + i = n + (i + 1) := by omega
    rw [this]
theorem enumD_len : ∀ {ds : List D} {n : Nat}, (enumD n ds).length = ds.length
  | [], _ => rfl
  | x :: xs, n => by unfold enumD; rw [List.length_cons, enumD_len, List.length_cons]
theorem jok_enL (h : StL K H M a vs) (r : Reps K H M ds vs) : JOk K (Ite K a) (enumD 0 ds) M H := fun M' H' e hr => by
  have s := (h.ext e).sq
  have t := Reps.ext e _ _ r
  refine ⟨fun i d hd => ?_, ⟨vs, s, by rw [enumD_len, t.length]; exact Nat.le_refl _⟩⟩
  obtain ⟨x, g1, rfl⟩ := enumD_get hd
  obtain ⟨u, u1, u2⟩ := t.get g1
  refine ⟨⟨vs, u, s, u1⟩, fun z H'' ⟨T, x', e1, hn, e2, f1⟩ => ?_⟩
  have a1 := f1 vs s
  rw [u1] at a1; cases a1
  subst e1 e2
  rw [Nat.zero_add]
  exact pair_new hr hn mk_int u2
theorem jok_enT (h : StT K H M a vs) (r : Reps K H M ds vs) : JOk K (IteT K a) (enumD 0 ds) M H := fun M' H' e hr => by
  have s := (h.ext e).sq
  have t := Reps.ext e _ _ r
  refine ⟨fun i d hd => ?_, ⟨vs, s, by rw [enumD_len, t.length]⟩⟩
  obtain ⟨x, g1, rfl⟩ := enumD_get hd
  obtain ⟨u, u1, u2⟩ := t.get g1
  refine ⟨⟨vs, u, s, u1⟩, fun z H'' ⟨T, x', e1, hn, e2, f1⟩ => ?_⟩
  have a1 := f1 vs s
  rw [u1] at a1; cases a1
  subst e1 e2
  rw [Nat.zero_add]
  exact pair_new hr hn mk_int u2
end
section
variable {X : Cx} {tg : Expr} {pos : Pos}
theorem PI.imp {it : Expr} {w w' : TI} (h : PI X tg it w) (i : ∀ σ H R, w' σ H R → w σ H R) : PI X tg it w' := ⟨fun pins s σ H R I z => h.run pins s σ H R I (i σ H R z)⟩
/-- a list or a tuple -/
def iAny (K : PySem.W.Frag) (tl : TE) : TI := fun σ H R => tl σ H fun x H1 => ∃ a, x = .ref a ∧ (((∃ xs, SqL K H1 a xs) ∧ R (Itl K a) H1) ∨ ((∃ xs, SqT K H1 a xs) ∧ R (Itt K a) H1))
theorem pi_any {l : Expr} {tl : TE} (hl : PE X l tl) : PI X tg l (iAny X.K tl) := by
  refine ⟨fun pins s σ H R I h => thn (hl.run pins s σ H _ I h) fun v s1 ⟨x, H1, I1, r1, a, ex, q⟩ => ?_⟩
  subst ex
  cases r1
  have fr : ∀ b ∈ [s1.heap.objs.size], FpOk X pins H1 b := fun b hb => by
    obtain rfl : b = s1.heap.objs.size := by simpa using hb
    exact I1.fpOk (Nat.le_refl _) (I1.hok.fresh (Nat.le_refl _))
  rcases q with ⟨⟨xs, hs⟩, q⟩ | ⟨⟨xs, hs⟩, q⟩
  · obtain ⟨its, rv, p, hz⟩ := I1.list hs
    exact wpAny_pyIter_list p.isList ⟨s1.heap.objs.size, [s1.heap.objs.size], _, _, H1, rfl, I1.kept (t' := s1.toks) fun b o e => Heap.get?_push_of_some _ e, turn_list a _, ⟨_, Heap.get?_push_size _ rfl, rfl, rfl⟩, fr, q⟩
  · obtain ⟨its, rv, p, hz⟩ := I1.tuple hs
    exact wpAny_pyIter_tuple (show s1.heap.IsTuple a its.toArray from p) ⟨s1.heap.objs.size, [s1.heap.objs.size], _, _, H1, rfl, I1.kept (t' := s1.toks) fun b o e => Heap.get?_push_of_some _ e, turn_tuple a _, ⟨_, Heap.get?_push_size _ rfl, rfl, rfl⟩, fr, q⟩
theorem i_seq {l : Expr} {z : ZE} (hl : PE X l (up X.K z)) : PI X tg l (upI X.K (zISeq z)) :=
  PI.imp (pi_any hl) fun σ H R ⟨s, M, k, R0, h, hq⟩ => up_then R0 h fun d1 M1 v1 H1 e1 R1 r1 z1 => by
    cases d1 <;> first | exact False.elim z1 | skip
    · obtain ⟨p, vs, rfl, st, t⟩ := rep_tup r1
      exact ⟨p, rfl, .inr ⟨⟨vs, st.sq⟩, hq _ _ _ _ e1 R1 (jok_tup st t) z1⟩⟩
    · obtain ⟨p, vs, rfl, st, t⟩ := rep_lst r1
      exact ⟨p, rfl, .inl ⟨⟨vs, st.sq⟩, hq _ _ _ _ e1 R1 (jok_list st t) z1⟩⟩
theorem i_rng1 {a : Expr} {z : ZE} {p : Pos} (hg : Gl X "range") (hm : X.mg "range" = none) (hs : isStar a = false) (ha : PE X a (up X.K z)) : PI X tg (.Call (.Name "range" p) [a] [] pos) (upI X.K (zIRng (zACons z zANil))) :=
  PI.imp (pi_range1 hg hm (pa_cons ha pa_nil (star_no hs)) (star_no hs)) fun σ H R ⟨s, M, k, R0, h, hq⟩ => up_then R0 h fun d1 M1 v1 H1 e1 R1 r1 z1 => by
    cases d1 <;> first | exact False.elim z1 | skip
    refine ⟨_, by rw [rep_int r1], z1.1.1, z1.1.2, ?_⟩
    have := hq _ _ _ (Itr 0 (_ - 0 : Int).toNat) e1 R1 jok_rng z1.2
    rw [Int.sub_zero] at this
    exact this
theorem i_rng2 {a b : Expr} {z z2 : ZE} {p : Pos} (hg : Gl X "range") (hm : X.mg "range" = none) (hs : isStar a = false) (hs2 : isStar b = false) (ha : PE X a (up X.K z)) (hb : PE X b (up X.K z2)) :
    PI X tg (.Call (.Name "range" p) [a, b] [] pos) (upI X.K (zIRng (zACons z (zACons z2 zANil)))) :=
  PI.imp (pi_range2 hg hm (pa_cons ha (pa_cons hb pa_nil (star_no hs2)) (star_no hs)) (by rw [star_no hs, star_no hs2]; rfl) (by rw [star_no hs2]; rfl)) fun σ H R ⟨s, M, k, R0, h, hq⟩ => up_then R0 h fun d1 M1 v1 H1 e1 R1 r1 z1 => up_then R1 z1 fun d2 M2 v2 H2 e2 R2 r2 z2 => by
    cases d1 <;> cases d2 <;> first | exact False.elim z2 | skip
    exact ⟨_, _, by rw [rep_int r1, rep_int r2], z2.1, hq _ _ _ _ (e1.trans e2) R2 jok_rng z2.2⟩
theorem i_zip {a b : Expr} {z z2 : ZE} {p tpos : Pos} {elts : List Expr} {kk : Nat} (hg : Gl X "zip") (hm : X.mg "zip" = none) (hs : isStar a = false) (hs2 : isStar b = false) (ha : PE X a (up X.K z)) (hb : PE X b (up X.K z2)) :
    PI X (.Tuple elts kk tpos) (.Call (.Name "zip" p) [a, b] [] pos) (upI X.K (zIZip z z2)) :=
  PI.imp (RZ.pi_zipA hg hm (pa_cons ha (pa_cons hb pa_nil (star_no hs2)) (star_no hs)) (star_no hs) (by rw [star_no hs2]; rfl)) fun σ H R ⟨s, M, k, R0, h, hq⟩ => up_then R0 h fun d1 M1 v1 H1 e1 R1 r1 z1 => up_then R1 z1 fun d2 M2 v2 H2 e2 R2 r2 z2 => by
    cases d1 <;> cases d2 <;> first | exact False.elim z2 | skip
    · obtain ⟨p1, vs, rfl, s1, t1⟩ := rep_tup (Rep.ext e2 _ _ r1)
      obtain ⟨p2, ws, rfl, s2, t2⟩ := rep_tup r2
      exact ⟨p1, p2, vs, ws, rfl, .inr ⟨s1.sq, s2.sq, hq _ _ _ _ (e1.trans e2) R2 (jok_zipT s1 t1 s2 t2) z2⟩⟩
    · obtain ⟨p1, vs, rfl, s1, t1⟩ := rep_lst (Rep.ext e2 _ _ r1)
      obtain ⟨p2, ws, rfl, s2, t2⟩ := rep_lst r2
      exact ⟨p1, p2, vs, ws, rfl, .inl ⟨s1.sq, s2.sq, hq _ _ _ _ (e1.trans e2) R2 (jok_zipL s1 t1 s2 t2) z2⟩⟩
theorem i_enum {a : Expr} {z : ZE} {p tpos : Pos} {elts : List Expr} {kk : Nat} (hg : Gl X "enumerate") (hm : X.mg "enumerate" = none) (hs : isStar a = false) (ha : PE X a (up X.K z)) :
    PI X (.Tuple elts kk tpos) (.Call (.Name "enumerate" p) [a] [] pos) (upI X.K (zIEnum z)) :=
  PI.imp (pi_enT hg hm (pa_cons ha pa_nil (star_no hs)) (by rw [star_no hs]; rfl)) fun σ H R ⟨s, M, k, R0, h, hq⟩ => up_then R0 h fun d1 M1 v1 H1 e1 R1 r1 z1 => by
    cases d1 <;> first | exact False.elim z1 | skip
    · obtain ⟨p1, vs, rfl, s1, t1⟩ := rep_tup r1
      exact ⟨p1, vs, rfl, .inr ⟨s1.sq, hq _ _ _ _ e1 R1 (jok_enT s1 t1) z1⟩⟩
    · obtain ⟨p1, vs, rfl, s1, t1⟩ := rep_lst r1
      exact ⟨p1, vs, rfl, .inl ⟨s1.sq, hq _ _ _ _ e1 R1 (jok_enL s1 t1) z1⟩⟩
end

/-! ### targets -/
def Chg (ix : List Nat) (σ σ2 : L2.St) : Prop := σ2.length = σ.length ∧ ∀ i, i ∉ ix → σ2[i]? = σ[i]?
theorem Chg.refl {ix : List Nat} {σ : L2.St} : Chg ix σ σ := ⟨rfl, fun _ _ => rfl⟩
theorem Chg.trans {ix iy : List Nat} {σ σ1 σ2 : L2.St} (a : Chg ix σ σ1) (b : Chg iy σ1 σ2) : Chg (ix ++ iy) σ σ2 :=
  ⟨b.1.trans a.1, fun i h => (b.2 i fun z => h (List.mem_append_right _ z)).trans (a.2 i fun z => h (List.mem_append_left _ z))⟩
def upG (K : PySem.W.Frag) (ix : List Nat) (t : ZG) : TG := fun v σ H Q => ∃ s M d q, Rel K s M σ H ∧ Rep K H M d v ∧ t d s M q ∧ ∀ s2 M2 σ2 H2, Ext M H M2 H2 → Rel K s2 M2 σ2 H2 → Chg ix σ σ2 → q s2 M2 → Q σ2 H2
def upGs (K : PySem.W.Frag) (ix : List Nat) (t : ZGs) : TGs := fun vs σ H Q => ∃ s M ds q, Rel K s M σ H ∧ Reps K H M ds vs ∧ t ds s M q ∧ ∀ s2 M2 σ2 H2, Ext M H M2 H2 → Rel K s2 M2 σ2 H2 → Chg ix σ σ2 → q s2 M2 → Q σ2 H2
theorem Rel.set {K : PySem.W.Frag} {s : Sl} {M : Mh} {σ : L2.St} {H : Hp} {d : D} {v : V} (R : Rel K s M σ H) (r : Rep K H M d v) (i : Nat) : Rel K (s.set i (some d)) M (σ.set i (some v)) H where
  len := by rw [List.length_set, List.length_set]; exact R.len
  at' := fun j e he => by
    by_cases hj : i = j
    · subst hj
      have hi : i < s.length := by
        have := (List.getElem?_eq_some_iff.mp he).1
        rw [List.length_set] at this; exact this
      rw [List.getElem?_set_self hi] at he
      cases he
      exact ⟨v, List.getElem?_set_self (by rw [← R.len]; exact hi), r⟩
    · rw [List.getElem?_set_ne hj] at he ⊢
      exact R.at' j e he
  heap := R.heap
section
variable {X : Cx} {tg : Expr} {pos : Pos}
theorem PG.imp {t t' : TG} (h : PG X tg t) (i : ∀ v σ H Q, t' v σ H Q → t v σ H Q) : PG X tg t' := ⟨fun pins s σ H v u Q I r w => h.run pins s σ H v u Q I r (i v σ H Q w)⟩
theorem PGs.imp {tgs : List Expr} {t t' : TGs} (h : PGs X tgs t) (i : ∀ v σ H Q, t' v σ H Q → t v σ H Q) : PGs X tgs t' := ⟨fun pins s σ H v u Q I r w => h.run pins s σ H v u Q I r (i v σ H Q w)⟩
theorem g_name {i : Nat} {x : Str} (hN : X.N.Nodup) (hi : X.N[i]? = some x) (hx : Loc X.env.scope x) (hf : X.fn x = true ∨ X.env.scope.names.lookup x = some .local) : PG X (.Name x pos) (upG X.K [i] (zGName i)) :=
  PG.imp (pg_name hN hi hx hf) fun v σ H Q ⟨s, M, d, q, R, r, h, hq⟩ => hq _ _ _ _ Ext.refl (R.set r i) ⟨List.length_set .., fun j hj => List.getElem?_set_ne fun e => hj (by simp [e])⟩ h
theorem gs_nil : PGs X [] (upGs X.K [] zGsNil) :=
  PGs.imp pgs_nil fun v σ H Q ⟨s, M, d, q, R, r, h, hq⟩ => by
    obtain ⟨rfl, h⟩ := h
    exact ⟨Reps.nil_iff.mp r, hq _ _ _ _ Ext.refl R Chg.refl h⟩
theorem assign_no {e : Expr} {es : List Expr} {env : Env} (h : isStar e = false) : assignEach (e :: es) env = (false, assign e env) :: assignEach es env := by
  cases e <;> first | exact Bool.noConfusion h | rfl
theorem gs_cons {e : Expr} {es : List Expr} {ix iy : List Nat} {t : ZG} {r : ZGs} (hs : isStar e = false) (h1 : PG X e (upG X.K ix t)) (h2 : PGs X es (upGs X.K iy r)) : PGs X (e :: es) (upGs X.K (ix ++ iy) (zGsCons t r)) :=
  PGs.imp (pgs_cons h1 h2 (by rw [assign_no hs]; rfl)) fun vs σ H Q ⟨s, M, ds, q, R, r, h, hq⟩ => by
    cases ds with
    | nil => exact False.elim h
    | cons d ds =>
      obtain ⟨v, vr, rfl, r1, r2⟩ := r.uncons
      refine ⟨v, vr, rfl, s, M, d, _, R, r1, h, fun s1 M1 σ1 H1 e1 R1 c1 z1 => ⟨s1, M1, ds, _, R1, Reps.ext e1 _ _ r2, z1, fun s2 M2 σ2 H2 e2 R2 c2 z2 => hq _ _ _ _ (e1.trans e2) R2 (c1.trans c2) z2⟩⟩
theorem assign_len {env : Env} : ∀ {es : List Expr}, plainX es = true → (assignEach es env).length = es.length ∧ (assignEach es env).findIdx? (·.1) = none
  | [], _ => ⟨rfl, rfl⟩
  | e :: es, h => by
    unfold plainX at h
    rw [Bool.and_eq_true] at h
    have h1 : isStar e = false := by simpa using h.1
    obtain ⟨i1, i2⟩ := assign_len (env := env) h.2
    rw [assign_no h1]
    refine ⟨by rw [List.length_cons, i1]; rfl, ?_⟩
    rw [List.findIdx?_cons]
    simp [i2]
theorem PG.or {t t' : TG} (h : PG X tg t) (h' : PG X tg t') : PG X tg (fun v σ H Q => t v σ H Q ∨ t' v σ H Q) := ⟨fun pins s σ H v u Q I r w => w.elim (h.run pins s σ H v u Q I r) (h'.run pins s σ H v u Q I r)⟩
theorem g_tup {es : List Expr} {k n : Nat} {ix : List Nat} {t : ZGs} (hc : X.calm = true) (hp : plainX es = true) (hn : es.length = n) (h : PGs X es (upGs X.K ix t)) : PG X (.Tuple es k pos) (upG X.K ix (zGTup n t)) :=
  PG.imp (PG.or (pg_tup (n := n) hc h (by rw [(assign_len hp).1, hn]) (assign_len hp).2) (pg_lst (n := n) hc h (by rw [(assign_len hp).1, hn]) (assign_len hp).2)) fun v σ H Q ⟨s, M, d, q, R, r, h, hq⟩ => by
    cases d <;> first | exact False.elim h | skip
    · obtain ⟨p, vs, rfl, st, t⟩ := rep_tup r
      exact .inl ⟨p, vs, rfl, st.sq, by rw [t.length]; exact h.1, s, M, _, q, R, t, h.2, hq⟩
    · obtain ⟨p, vs, rfl, st, t⟩ := rep_lst r
      exact .inr ⟨p, vs, rfl, st.sq, by rw [t.length]; exact h.1, s, M, _, q, R, t, h.2, hq⟩
theorem sub_assign {o i : Expr} {env : Env} (hs : isSlice i = false) (v : Value) : assign (.Subscript o i pos) env v = (do
      let ov ← holding [v] (eval o env)
      let iv ← holding [v, ov] (eval i env)
      standAt pos
      holding [v, ov, iv] (setItem ov iv v)
      release [v, ov, iv] []) := by
  cases i <;> first | exact Bool.noConfusion hs | rfl
theorem g_item {o i : Expr} {zo zi : ZE} (hs : isSlice i = false) (ho : PE X o (up X.K zo)) (hi : PE X i (up X.K zi)) : PG X (.Subscript o i pos) (upG X.K [] (zGItem zo zi)) :=
  PG.imp (pg_sub ho hi set_list (sub_assign hs)) fun v σ H Q ⟨s, M, d, q, R, r, h, hq⟩ => up_then R h fun d1 M1 v1 H1 e1 R1 r1 z1 => up_then R1 z1 fun d2 M2 v2 H2 e2 R2 r2 z2 => by
    cases d1 <;> cases d2 <;> first | exact False.elim z2 | skip
    obtain ⟨xs, j, m, g, w⟩ := z2
    obtain ⟨us, h1, h2⟩ := R2.heap _ _ m
    refine ⟨_, us, _, j, rep_ref r1, rep_int r2, h1, by rw [h2.length]; exact g, ?_⟩
    have ex := (e1.trans e2).trans (Ext.put (H := H2) (o := .lst (us.set j v)) (u := .lst (xs.set j d)) m)
    exact hq _ _ _ _ ex (R2.ext (Ext.put m) (HRel.put R2.heap m (h2.set j (Rep.ext (e1.trans e2) _ _ r)))) Chg.refl w
end
end Zz
end
section
/-! Z10: comprehensions and calls, lifted; every expression's reading is right. -/
namespace Zz
open PySem PySem.Spec PyProof.Rows L2

theorem zwipe_some {s : Sl} {i : Nat} {x : D} : ∀ {vs : List Nat}, (zwipe s vs)[i]? = some (some x) → s[i]? = some (some x) ∧ i ∉ vs
  | [], h => ⟨h, by simp⟩
  | v :: vs, h => by
    have h : ((zwipe s vs).set v none)[i]? = some (some x) := h
    by_cases hi : v = i
    · subst hi
      by_cases hv : v < (zwipe s vs).length
      · rw [List.getElem?_set_self hv] at h; cases h
      · rw [List.getElem?_eq_none (by simpa using hv)] at h; cases h
    · rw [List.getElem?_set_ne hi] at h
      obtain ⟨h1, h2⟩ := zwipe_some h
      exact ⟨h1, by simp only [List.mem_cons, not_or]; exact ⟨fun e => hi e.symm, h2⟩⟩
theorem zwipe_length {s : Sl} : ∀ vs : List Nat, (zwipe s vs).length = s.length
  | [] => rfl
  | v :: vs => by
    have : ((zwipe s vs).set v none).length = s.length := by rw [List.length_set, zwipe_length vs]
    exact this
theorem Rel.wipe {K : PySem.W.Frag} {s : Sl} {M : Mh} {σ : L2.St} {H : Hp} (R : Rel K s M σ H) (vs : List Nat) : Rel K (zwipe s vs) M (L2.wipe σ vs) H where
  len := by rw [zwipe_length, wipe_length]; exact R.len
  at' := fun i d h => by
    obtain ⟨h1, h2⟩ := zwipe_some h
    obtain ⟨v, e, r⟩ := R.at' i d h1
    exact ⟨v, by rw [wipe_out h2]; exact e, r⟩
  heap := R.heap
theorem wipe_in {σ : L2.St} {i : Nat} : ∀ {vs : List Nat}, i ∈ vs → (L2.wipe σ vs)[i]? = if i < σ.length then some none else none
  | v :: vs, h => by
    have e : L2.wipe σ (v :: vs) = (L2.wipe σ vs).set v none := rfl
    rw [e]
    by_cases hi : v = i
    · subst hi
      by_cases hl : v < σ.length
      · rw [List.getElem?_set_self (by rw [wipe_length]; exact hl), if_pos hl]
      · rw [List.getElem?_eq_none (by rw [List.length_set, wipe_length]; omega), if_neg hl]
    · rw [List.getElem?_set_ne hi]
      rcases List.mem_cons.mp h with z | z
      · exact absurd z.symm hi
      · exact wipe_in z
theorem wipe_chg {σ σ1 : L2.St} {ix vs : List Nat} (h : Chg ix (L2.wipe σ vs) σ1) (hx : ∀ i ∈ ix, i ∈ vs) : L2.wipe σ1 vs = L2.wipe σ vs := by
  refine List.ext_getElem? fun i => ?_
  by_cases hi : i ∈ vs
  · have hl : σ1.length = σ.length := by rw [h.1, wipe_length]
    rw [wipe_in hi, wipe_in hi, hl]
  · rw [wipe_out hi]
    exact h.2 i fun z => hi (hx i z)

section
variable {X : Cx} {pos : Pos}
theorem u_comp {elt tg iter : Expr} {ifs : List Expr} {scope : Scope} {own : List (Str × Nat)} {mu : Bool} {zi : ZI} {g : ZG} {zc : ZT} {ze : ZE} {ix : List Nat} (hc : X.calm = true) (hN : X.N.Nodup) (hi : PI X tg iter (upI X.K zi)) (ok : BlkOk X.N X.env.scope scope own) (hx : ∀ i ∈ ix, i ∈ own.map (·.2))
    (hg : ∀ (s : Shared) (H : Hp) (C : Addr) (cl : List (Str × Addr)) (fp : List Addr), PG (X.blk s H scope (compEnvC scope cl C X.env) fp) tg (upG X.K ix g)) (ht : ∀ (s : Shared) (H : Hp) (C : Addr) (cl : List (Str × Addr)) (fp : List Addr), PTs (X.blk s H scope (compEnvC scope cl C X.env) fp) ifs (upT X.K zc))
    (he : ∀ (s : Shared) (H : Hp) (C : Addr) (cl : List (Str × Addr)) (fp : List Addr), PE (X.blk s H scope (compEnvC scope cl C X.env) fp) elt (up X.K ze)) (σ : L2.St) (H : Hp) (Q : VK) (w : up X.K (zComp mu (own.map (·.2)) zi g zc ze) σ H Q) :
    tLc (upI X.K zi) (upG X.K ix g) (upT X.K zc) (up X.K ze) (own.map (·.2)) σ H Q := by
  obtain ⟨s, M, q, R, h, hq⟩ := w
  generalize hvs : own.map (·.2) = vs at h hx ⊢
  refine ⟨s, M, _, R, h, fun items M2 H2 J e2 R2 jk hk D hD => ?_⟩
  have hMD : M2 D = none := HRel.nil R2.heap hD
  have hz := hk D hMD
  have e3 : Ext M2 H2 (mup M2 D (.lst [])) (upd H2 D (.lst [])) := Ext.newM hD
  have R3 : Rel X.K s (mup M2 D (.lst [])) σ (upd H2 D (.lst [])) := R2.ext e3 (HRel.newM R2.heap hD Reps.nil)
  -- the state ahead of turn i
  refine ⟨fun i m H' => m = items.length - i ∧ i ≤ items.length ∧ ∃ M' acc, Ext M2 H2 M' H' ∧ Rel X.K s M' σ H' ∧ M' D = some (.lst acc) ∧ zTurns D (zwipe s vs) g zc ze (items.drop i) acc M' (zEnd mu D q), ⟨items.length, by simp, Nat.zero_le _, _, [], e3, R3, mup_same, hz⟩, ?_⟩
  rintro i m H' ⟨rfl, hil, M', acc, e', R', hMD', hz'⟩
  obtain ⟨jgo, jst⟩ := jk M' H' e' R'.heap
  by_cases hlt : i < items.length
  · have hget : items[i]? = some items[i] := List.getElem?_eq_getElem hlt
    obtain ⟨go, yl⟩ := jgo i _ hget
    rw [List.drop_eq_getElem_cons hlt] at hz'
    refine .inr ⟨go, fun H4 => ∃ M' acc, Ext M2 H2 M' H4 ∧ Rel X.K s M' σ H4 ∧ M' D = some (.lst acc) ∧ zTurns D (zwipe s vs) g zc ze (items.drop (i + 1)) acc M' (zEnd mu D q), fun H4 hn => ⟨items.length - (i + 1), by omega, rfl, hlt, hn⟩, fun x H'' hy => ?_⟩
    obtain ⟨ey, hry, rx⟩ := yl x H'' hy
    have Ry : Rel X.K s M' σ H'' := R'.ext ey hry
    refine ⟨zwipe s vs, M', _, _, Ry.wipe vs, rx, hz', fun s1 M1 σ1 H1 e1 R1 c1 z1 => ⟨wipe_chg c1 hx, s1, M1, _, R1, z1, fun b M4 H4 e4 hr4 z4 => ?_⟩⟩
    cases b with
    | true =>
      rw [if_pos rfl] at z4 ⊢
      refine ⟨s1, M4, _, R1.ext e4 hr4, z4, fun d M5 v H5 e5 hr5 r5 z5 => ?_⟩
      obtain ⟨m5, l5, z5⟩ := z5
      obtain ⟨us, u1, u2⟩ := hr5 D _ m5
      have ex : Ext M' H'' M5 H5 := (e1.trans e4).trans e5
      have ep := Ext.put (H := H5) (o := .lst (us ++ [v])) (u := .lst (acc ++ [d])) m5
      refine ⟨us, u1, by rw [u2.length]; exact l5, _, _, ((e'.trans ey).trans ex).trans ep, Ry.ext (ex.trans ep) (HRel.put hr5 m5 (u2.append (Reps.cons r5 Reps.nil))), mup_same, z5⟩
    | false =>
      rw [if_neg (by decide)] at z4 ⊢
      exact ⟨M4, acc, ((e'.trans ey).trans e1).trans e4, Ry.ext (e1.trans e4) hr4, z4.1, z4.2⟩
  · have hi' : i = items.length := by omega
    subst hi'
    refine .inl ⟨jst, ?_⟩
    rw [List.drop_length] at hz'
    have hz' : zEnd mu D q acc M' := hz'
    unfold zEnd at hz'
    cases mu with
    | true => exact hq _ _ _ _ (e2.trans e') R'.heap mk_ref hz'
    | false =>
      have hs : Sub (mdel M' D) M' := fun p o hp => by
        unfold mdel at hp
        by_cases e : p = D
        · rw [if_pos e] at hp; cases hp
        · rw [if_neg e] at hp; exact hp
      obtain ⟨us, u1, u2⟩ := R'.heap D _ hMD'
      refine hq _ _ _ _ ((e2.trans e').trans (Ext.sub hs)) (HRel.sub hs R'.heap) (mk_lst (.inl ⟨SqL.of u1, if_pos rfl, by rw [u1]; simp⟩) (Reps.ext (Ext.sub hs) _ _ u2)) hz'

/-! ### calls of the text's own defs -/
theorem kw_names {c : Ctx} {env : Env} {p : Pos} : ∀ (es : Es) (kws : List Keyword) (ps : List Str), chkK c es kws ps = true → (backToKw p (keywordEach kws env)).map (·.1) = ps.map some
  | .nil, [], [], _ => rfl
  | .nil, _ :: _, _, h => Bool.noConfusion h
  | .nil, [], _ :: _, h => Bool.noConfusion h
  | .cons true _ _, _, _, h => Bool.noConfusion h
  | .cons false _ _, [], _, h => Bool.noConfusion h
  | .cons false _ _, ⟨none, _, _⟩ :: _, _, h => Bool.noConfusion h
  | .cons false _ _, ⟨some _, _, _⟩ :: _, [], h => Bool.noConfusion h
  | .cons false e es, ⟨some n, x, kp⟩ :: xs, q :: ps, h => by
    have h : (decide (n = q) && chkE c e x && chkK c es xs ps) = true := h
    simp only [Bool.and_eq_true, decide_eq_true_eq] at h
    obtain ⟨⟨rfl, _⟩, h3⟩ := h
    have := kw_names (env := env) (p := p) es xs ps h3
    show some n :: (backToKw p (keywordEach xs env)).map (·.1) = some n :: ps.map some
    rw [this]
theorem all_some {α : Type} : ∀ {l : List (Option Str × α)} {ps : List Str}, l.map (·.1) = ps.map some → l.all (·.1.isSome) = true ∧ l.filterMap (·.1) = ps ∧ l.any (·.1.isNone) = false
  | [], [], _ => ⟨rfl, rfl, rfl⟩
  | [], _ :: _, h => by cases h
  | (a, x) :: l, [], h => by cases h
  | (a, x) :: l, p :: ps, h => by
    rw [List.map_cons, List.map_cons] at h
    injection h with h1 h2
    obtain ⟨i1, i2, i3⟩ := all_some h2
    simp only at h1
    subst h1
    refine ⟨by rw [List.all_cons, i1]; rfl, by rw [List.filterMap_cons]; simp [i2], by rw [List.any_cons, i3]; rfl⟩
theorem k_nil : PK X [] (upN X.K 0 zANil) := ⟨fun _ _ _ σ H Q I ⟨s, M, q, R, h, hq⟩ => wpAny_evalAll_nil ⟨[], H, I, .nil, hq _ _ _ _ Ext.refl R.heap Reps.nil h rfl⟩⟩
theorem k_cons {n : Option Str} {e : Expr} {kp : Pos} {kws : List Keyword} {z : ZE} {r : ZA} {j : Nat} (ha : PE X e (up X.K z)) (hr : PK X kws (upN X.K j r)) : PK X (⟨n, e, kp⟩ :: kws) (upN X.K (j + 1) (zACons z r)) :=
  have h := pk_cons (nm := n) (kpos := kp) ha hr
  ⟨fun pos pins s σ H Q I ⟨s', M, q, R, w, hq⟩ => h.run pos pins s σ H Q I (up_then R w fun d1 M1 v1 H1 e1 R1 r1 z1 => upA_then R1 z1 fun ds M2 vs H2 e2 R2 r2 z2 hl => hq _ _ _ _ (e1.trans e2) R2.heap (Reps.cons (Rep.ext e2 _ _ r1) r2) z2 (by rw [List.length_cons, hl]))⟩
theorem fin_call {fi : Fi} {z : ZC} {k : Nat} {fa : Addr} {fd : FuncData} (F : FnG X.prog X.w X.K X.mg X.base k fa fd fi.ps z) (hr : Room k X.A) (hgd : X.A.guards = some []) (b1 : ∀ us : List Value, us.length = fi.ps.length → bindArgs fd ⟨us, []⟩ = pure (fi.ps.zip us))
    {pins : List (Addr × Obj)} {σ : L2.St} {Q : VK} (us : List Value) (s1 : Shared) (vs : List V) (H1 : Hp) (I1 : Inv X pins σ H1 s1) (r : Vals vs us) (l : vs.length = fi.ps.length) (sp : spV X.K z vs H1 Q) : wpAny (model X.prog X.w) X.A (call (.ref fa) ([] ++ us)) (EP X pins σ Q) X.xe s1 :=
  call_fnG (ks := []) (ws := []) F hr hgd I1 (.of_eq (b1 us (by rw [← r.length]; exact l))) r l sp
theorem u_call0 {fi : Fi} {z : ZC} {p : Pos} (cb : Callable X fi z) (hgd : X.A.guards = some []) (hg : Gl X fi.name) (hdb : (fi.name == ("__debug__" : Str)) = false) (hn : fi.ps.length = 0) :
    PE X (.Call (.Name fi.name p) [] [] pos) (up X.K (zCallK z zANil zANil)) := by
  obtain ⟨k, fa, fd, hm, hk, hr, F, b1, b2⟩ := cb.ex
  refine ⟨fun pins s σ H Q I ⟨s', M, q, R, w, hq⟩ => ?_⟩
  refine wpAny_Call_Name_kw (ld_glob I hg hm ?_ hdb)
  exact PySem.W.callWith_K0 I.kIn hk (fin_call F hr hgd b1 [] s [] H I .nil hn.symm ⟨[], M, q, Reps.nil, R.heap, w, hq⟩)
theorem u_call1 {fi : Fi} {z : ZC} {za : ZA} {p : Pos} {e : Expr} {es : List Expr} (cb : Callable X fi z) (hgd : X.A.guards = some []) (hg : Gl X fi.name) (hdb : (fi.name == ("__debug__" : Str)) = false) (hp : plainX (e :: es) = true) (ha : PA X (e :: es) (upN X.K fi.ps.length za)) :
    PE X (.Call (.Name fi.name p) (e :: es) [] pos) (up X.K (zCallK z za zANil)) := by
  obtain ⟨k, fa, fd, hm, hk, hr, F, b1, b2⟩ := cb.ex
  unfold plainX at hp
  rw [Bool.and_eq_true] at hp
  refine ⟨fun pins s σ H Q I ⟨s', M, q, R, w, hq⟩ => ?_⟩
  refine wpAny_Call_Name_kw (ld_glob I hg hm ?_ hdb)
  refine PySem.W.callWith_K (h₀ := X.base) I.ok.mod.kin hk (thn (ha.run pos pins s σ H (fun vs H1 => vs.length = fi.ps.length ∧ spV X.K z vs H1 Q) I ⟨s', M, _, R, w, fun ds M2 vs H2 e2 hr2 r2 w2 l => ⟨l, ds ++ [], M2, q, by rw [List.append_nil]; exact r2, hr2, w2, hq.at e2⟩⟩) fun us s1 ⟨vs, H1, I1, r, l, sp⟩ => ⟨I1.kIn, ?_⟩) (star_no (by simpa using hp.1)) (plain_any hp.2)
  exact fin_call F hr hgd b1 us s1 vs H1 I1 r l sp
theorem u_callK {fi : Fi} {z : ZC} {zk : ZA} {p : Pos} {kws : List Keyword} (cb : Callable X fi z) (hgd : X.A.guards = some []) (hg : Gl X fi.name) (hdb : (fi.name == ("__debug__" : Str)) = false) (hkw : fi.kw = true) (hnm : ∀ pos, (backToKw pos (keywordEach kws X.env)).map (·.1) = fi.ps.map some) (ha : PK X kws (upN X.K fi.ps.length zk)) :
    PE X (.Call (.Name fi.name p) [] kws pos) (up X.K (zCallK z zANil zk)) := by
  obtain ⟨k, fa, fd, hm, hk, hr, F, b1, b2⟩ := cb.ex
  obtain ⟨n1, n2, n3⟩ := all_some (hnm pos)
  refine ⟨fun pins s σ H Q I ⟨s', M, q, R, w, hq⟩ => ?_⟩
  refine wpAny_Call_Name_kw (ld_glob I hg hm ?_ hdb)
  refine PySem.W.callWith_KW0 (h₀ := X.base) I.ok.mod.kin hk n1 (thn (ha.run pos pins s σ H (fun vs H1 => vs.length = fi.ps.length ∧ spV X.K z vs H1 Q) I ⟨s', M, _, R, w, fun ds M2 vs H2 e2 hr2 r2 w2 l => ⟨l, ds, M2, q, r2, hr2, w2, hq.at e2⟩⟩) fun ws s1 ⟨vs, H1, I1, r, l, sp⟩ => ⟨I1.kIn, ?_⟩) (by rw [n3]; rfl)
  rw [n2]
  exact call_fnG (us := []) F hr hgd I1 (.of_eq (b2 hkw ws (by rw [← r.length]; exact l))) r l sp
end
end Zz
end
section
/-! ZL: list(zip(a, b)) of two tuples. -/
namespace Zz
open PySem PySem.Spec PyProof.Rows L2 PySem.W
open PySem.Sem (wp)
section
variable {prog : Program} {w : World} {A : Around} {E : Value → Shared → Prop} {s : Shared}
theorem zipT_next_item_held {z TI TO T i1 i2 l1 l2 : Addr} {f : Bool} {oT : Obj} {k1 k2 : Nat} {xs ys : Array Value} {x y : Value} {Q : Value → Shared → Prop} (D : ZipApart z TI TO i1 i2 l1 l2)
    (hz : IsZipHeld s.heap z TI TO T f) (hT : s.heap.get? T = some oT) (hTI : IsPair s.heap TI (.ref i1) (.ref i2))
    (h1 : s.heap.IsTupleIter i1 l1 k1) (h2 : s.heap.IsTupleIter i2 l2 k2) (hl1 : s.heap.IsTuple l1 xs) (hl2 : s.heap.IsTuple l2 ys) (hx : xs[k1]? = some x) (hy : ys[k2]? = some y)
    (hQ : ∀ h', IsZipHeld h' z TI TO T true → h'.IsTupleIter i1 l1 (k1 + 1) → h'.IsTupleIter i2 l2 (k2 + 1) → IsPair h' s.heap.objs.size x y → h'.objs.size = s.heap.objs.size + 1 →
      (∀ c o, c ≠ z → c ≠ i1 → c ≠ i2 → s.heap.get? c = some o → h'.get? c = some o) → Q (.ref s.heap.objs.size) { s with heap := h' }) :
    wpAny (model prog w) A (Builtin.«zip.__next__» ⟨[.ref z], []⟩) (fun fin s' => ∃ v, fin = .done (.ret v) ∧ Q v s') E s := by
  show wpAny _ _ (field (.ref z) 2 >>= _) _ _ _
  refine wpAny_bind (wpAny_field hz rfl (x := .bool false) rfl ?_)
  show wpAny _ _ (field (.ref z) 3 >>= _) _ _ _
  refine wpAny_bind (wpAny_field hz rfl (x := .ref TI) rfl ?_)
  refine wpAny_bind (wpAny_seqItems hTI rfl ?_)
  show wpAny _ _ (Builtin.SmallTypes.ownedTupleIsFree (.ref z) >>= _) _ _ _
  refine wpAny_bind (wpAny_tupleHeld_zip hz hT fun h₁ hz₁ hs₁ => ?_)
  simp only [Bool.false_eq_true, if_false]
  refine wpAny_bind ?_
  rw [← Array.forIn_toList]
  simp only [List.forIn_cons, List.forIn_nil]
  refine wpAny_bind (wpAny_bind (wpAny_holding ?_))
  show wpAny _ _ (Builtin.SmallTypes.nextOf (.ref i1) >>= _) _ _ _
  refine wpAny_bind (RZ.nextOf_tuple_item (s := { s with heap := h₁ }) (h1.extBut hs₁.extBut D.i1z) (hl1.extBut hs₁.extBut D.l1z) hx fun h₂ h1₂ hs₂ => wpAny_pure ?_)
  refine wpAny_pure ?_
  refine wpAny_bind (wpAny_bind (wpAny_holding ?_))
  show wpAny _ _ (Builtin.SmallTypes.nextOf (.ref i2) >>= _) _ _ _
  refine wpAny_bind (RZ.nextOf_tuple_item (s := { s with heap := h₂ }) ((h2.extBut hs₁.extBut D.i2z).extBut hs₂.extBut D.i12.symm) ((hl2.extBut hs₁.extBut D.l2z).extBut hs₂.extBut D.l2i1) hy fun h₃ h2₃ hs₃ => wpAny_pure ?_)
  refine wpAny_pure (wpAny_pure ?_)
  show wpAny _ _ (newTuple [x, y] >>= _) _ _ _
  refine wpAny_bind (wpAny_newTuple ?_)
  have hsz : h₃.objs.size = s.heap.objs.size := by rw [hs₃.1, hs₂.1, hs₁.1]
  have hz₃ : IsZipHeld h₃ z TI TO T true := hs₃.extBut _ _ D.i2z.symm (hs₂.extBut _ _ D.i1z.symm hz₁)
  have hk : ∀ c o, c ≠ z → c ≠ i1 → c ≠ i2 → s.heap.get? c = some o → h₃.get? c = some o := fun c o c1 c2 c3 e => hs₃.extBut _ _ c3 (hs₂.extBut _ _ c2 (hs₁.extBut _ _ c1 e))
  have h1₃ : h₃.IsTupleIter i1 l1 (k1 + 1) := h1₂.extBut hs₃.extBut D.i12
  refine wpAny_pure ⟨_, rfl, ?_⟩
  show Q (.ref h₃.objs.size) _
  have hp : IsPair (h₃.push { cls := .type "tuple", data := .seq #[x, y] }) h₃.objs.size x y := Heap.get?_push_size _ rfl
  have hz4 : (h₃.push { cls := .type "tuple", data := .seq #[x, y] }).objs.size = h₃.objs.size + 1 := Heap.size_push ..
  rw [hsz] at hp hz4 ⊢
  exact hQ _ (Heap.get?_push_of_some _ hz₃) (h1₃.at fun o e => Heap.get?_push_of_some _ e) (h2₃.at fun o e => Heap.get?_push_of_some _ e) hp hz4 fun c o c1 c2 c3 e => Heap.get?_push_of_some _ (hk c o c1 c2 c3 e)

theorem zipT_next_end_held {z TI TO T i1 i2 l1 l2 : Addr} {f : Bool} {oT : Obj} {k1 k2 : Nat} {xs ys : Array Value} {Q : Fin → Shared → Prop} (hh : A.handled = none) (D : ZipApart z TI TO i1 i2 l1 l2)
    (hz : IsZipHeld s.heap z TI TO T f) (hT : s.heap.get? T = some oT) (hTI : IsPair s.heap TI (.ref i1) (.ref i2))
    (h1 : s.heap.IsTupleIter i1 l1 k1) (h2 : s.heap.IsTupleIter i2 l2 k2) (hl1 : s.heap.IsTuple l1 xs) (hl2 : s.heap.IsTuple l2 ys) (hend : xs[k1]? = none ∨ ys[k2]? = none)
    (hE : ∀ h' e, (∀ c o, c ≠ z → c ≠ i1 → c ≠ i2 → s.heap.get? c = some o → h'.get? c = some o) → (∃ o, h'.get? e = some o ∧ o.cls = .type "StopIteration") → E (.ref e) { s with heap := h' }) :
    wpAny (model prog w) A (Builtin.«zip.__next__» ⟨[.ref z], []⟩) Q E s := by
  show wpAny _ _ (field (.ref z) 2 >>= _) _ _ _
  refine wpAny_bind (wpAny_field hz rfl (x := .bool false) rfl ?_)
  show wpAny _ _ (field (.ref z) 3 >>= _) _ _ _
  refine wpAny_bind (wpAny_field hz rfl (x := .ref TI) rfl ?_)
  refine wpAny_bind (wpAny_seqItems hTI rfl ?_)
  show wpAny _ _ (Builtin.SmallTypes.ownedTupleIsFree (.ref z) >>= _) _ _ _
  refine wpAny_bind (wpAny_tupleHeld_zip hz hT fun h₁ hz₁ hs₁ => ?_)
  simp only [Bool.false_eq_true, if_false]
  refine wpAny_bind ?_
  rw [← Array.forIn_toList]
  simp only [List.forIn_cons, List.forIn_nil]
  refine wpAny_bind (wpAny_bind (wpAny_holding ?_))
  show wpAny _ _ (Builtin.SmallTypes.nextOf (.ref i1) >>= _) _ _ _
  cases hx : xs[k1]? with
  | none =>
    refine wpAny_bind (RZ.nextOf_tuple_end (s := { s with heap := h₁ }) hh (h1.extBut hs₁.extBut D.i1z) (hl1.extBut hs₁.extBut D.l1z) hx fun h₂ e hs₂ he => ?_)
    exact hE h₂ e (fun c o c1 c2 _ x => hs₂ _ _ c2 (hs₁.extBut _ _ c1 x)) he
  | some x =>
    have hy : ys[k2]? = none := by rcases hend with h | h; rw [hx] at h; cases h; exact h
    refine wpAny_bind (RZ.nextOf_tuple_item (s := { s with heap := h₁ }) (h1.extBut hs₁.extBut D.i1z) (hl1.extBut hs₁.extBut D.l1z) hx fun h₂ h1₂ hs₂ => wpAny_pure ?_)
    refine wpAny_pure ?_
    refine wpAny_bind (wpAny_bind (wpAny_holding ?_))
    show wpAny _ _ (Builtin.SmallTypes.nextOf (.ref i2) >>= _) _ _ _
    refine wpAny_bind (RZ.nextOf_tuple_end (s := { s with heap := h₂ }) hh ((h2.extBut hs₁.extBut D.i2z).extBut hs₂.extBut D.i12.symm) ((hl2.extBut hs₁.extBut D.l2z).extBut hs₂.extBut D.l2i1) hy fun h₃ e hs₃ he => ?_)
    exact hE h₃ e (fun c o c1 c2 c3 x => hs₃ _ _ c3 (hs₂.extBut _ _ c2 (hs₁.extBut _ _ c1 x))) he

theorem pyNext_zipT_item_held {z TI TO T i1 i2 l1 l2 : Addr} {f : Bool} {oT : Obj} {k1 k2 : Nat} {xs ys : Array Value} {x y : Value} {Q : Option Value → Shared → Prop} (D : ZipApart z TI TO i1 i2 l1 l2)
    (hz : IsZipHeld s.heap z TI TO T f) (hT : s.heap.get? T = some oT) (hTI : IsPair s.heap TI (.ref i1) (.ref i2))
    (h1 : s.heap.IsTupleIter i1 l1 k1) (h2 : s.heap.IsTupleIter i2 l2 k2) (hl1 : s.heap.IsTuple l1 xs) (hl2 : s.heap.IsTuple l2 ys) (hx : xs[k1]? = some x) (hy : ys[k2]? = some y)
    (hQ : ∀ h', IsZipHeld h' z TI TO T true → h'.IsTupleIter i1 l1 (k1 + 1) → h'.IsTupleIter i2 l2 (k2 + 1) → IsPair h' s.heap.objs.size x y → h'.objs.size = s.heap.objs.size + 1 →
      (∀ c o, c ≠ z → c ≠ i1 → c ≠ i2 → s.heap.get? c = some o → h'.get? c = some o) → Q (some (.ref s.heap.objs.size)) { s with heap := h' }) :
    wpAny (model prog w) A (pyNext (.ref z)) Q E s := by
  have hTy : s.TypeIs (.ref z) "zip" := ⟨_, hz, rfl⟩
  unfold pyNext
  exact wpAny_bind (wpAny_attempt (wpAny_callSpecial?_slot (name := Str.ofString "__next__") hTy F.slot_zip_next
    (wpAny_call_entry F.slot_zip_next hTy F.entry_zip_next
      (zipT_next_item_held D hz hT hTI h1 h2 hl1 hl2 hx hy fun h' a1 a3 a4 a5 a6 a7 => wpAny_pure (hQ h' a1 a3 a4 a5 a6 a7)) (F.args_zip_next_1 _))))
theorem pyNext_zipT_end_held {z TI TO T i1 i2 l1 l2 : Addr} {f : Bool} {oT : Obj} {k1 k2 : Nat} {xs ys : Array Value} {Q : Option Value → Shared → Prop} (hh : A.handled = none) (D : ZipApart z TI TO i1 i2 l1 l2)
    (hz : IsZipHeld s.heap z TI TO T f) (hT : s.heap.get? T = some oT) (hTI : IsPair s.heap TI (.ref i1) (.ref i2))
    (h1 : s.heap.IsTupleIter i1 l1 k1) (h2 : s.heap.IsTupleIter i2 l2 k2) (hl1 : s.heap.IsTuple l1 xs) (hl2 : s.heap.IsTuple l2 ys) (hend : xs[k1]? = none ∨ ys[k2]? = none)
    (hQ : ∀ h', (∀ c o, c ≠ z → c ≠ i1 → c ≠ i2 → s.heap.get? c = some o → h'.get? c = some o) → Q none { s with heap := h' }) : wpAny (model prog w) A (pyNext (.ref z)) Q E s := by
  have hTy : s.TypeIs (.ref z) "zip" := ⟨_, hz, rfl⟩
  unfold pyNext
  refine wpAny_bind (wpAny_attempt (wpAny_callSpecial?_slot (name := Str.ofString "__next__") hTy F.slot_zip_next
    (wpAny_call_entry F.slot_zip_next hTy F.entry_zip_next (zipT_next_end_held hh D hz hT hTI h1 h2 hl1 hl2 hend fun h' e hk he => ?_) (F.args_zip_next_1 _))))
  obtain ⟨o, ho, hc⟩ := he
  refine wpAny_bind (wpAny_isInstance (T := "StopIteration") (b := true) ⟨o, ho, hc⟩ isSubtype_stop ?_)
  exact wpAny_pure (hQ _ hk)


/-- a zip of two tuples ahead of turn i; the tuple of the last turn is still out -/
structure ZSt (h : Heap) (z TI TO i1 i2 a b S : Addr) (i : Nat) : Prop where
  z : (IsZip h z TI TO .none ∧ ∃ x y, IsPair h TO x y) ∨ ∃ (T : Addr) (f : Bool) (oT : Obj), IsZipHeld h z TI TO T f ∧ h.get? T = some oT ∧ z < T ∧ TO < T ∧ i1 < T ∧ i2 < T ∧ S < T
  TI : IsPair h TI (.ref i1) (.ref i2)
  TO : TO < h.objs.size
  h1 : h.IsTupleIter i1 a i
  h2 : h.IsTupleIter i2 b i
theorem ZSt.typeIs {z TI TO i1 i2 a b S : Addr} {i : Nat} (st : ZSt s.heap z TI TO i1 i2 a b S i) : s.TypeIs (.ref z) "zip" := by
  rcases st.z with ⟨h, _⟩ | ⟨T, f, oT, h, _⟩
  · exact ⟨_, h, rfl⟩
  · exact ⟨_, h, rfl⟩
theorem zst_item {z TI TO i1 i2 a b S : Addr} {i : Nat} {xs ys : Array Value} {x y : Value} {Q : Option Value → Shared → Prop} (D : ZipApart z TI TO i1 i2 a b) (st : ZSt s.heap z TI TO i1 i2 a b S i) (hS : S < s.heap.objs.size)
    (hl1 : s.heap.IsTuple a xs) (hl2 : s.heap.IsTuple b ys) (hx : xs[i]? = some x) (hy : ys[i]? = some y)
    (hQ : ∀ h', ZSt h' z TI TO i1 i2 a b S (i + 1) → IsPair h' s.heap.objs.size x y → (∀ c o, c ≠ z → c ≠ TO → c ≠ i1 → c ≠ i2 → s.heap.get? c = some o → h'.get? c = some o) → Q (some (.ref s.heap.objs.size)) { s with heap := h' }) :
    wpAny (model prog w) A (pyNext (.ref z)) Q E s := by
  have l1 : i1 < s.heap.objs.size := let ⟨_, e, _⟩ := st.h1; Heap.lt_size e
  have l2 : i2 < s.heap.objs.size := let ⟨_, e, _⟩ := st.h2; Heap.lt_size e
  rcases st.z with ⟨hz, x0, y0, hTO⟩ | ⟨T, f, oT, hz, hT, q1, q2, q3, q4, q5⟩
  · refine RZ.pyNext_zipT_item D hz st.TI hTO st.h1 st.h2 hl1 hl2 hx hy fun h' b1 b2 b3 b4 b5 b6 b7 => ?_
    exact hQ h' ⟨.inr ⟨_, false, _, b1, b5, Heap.lt_size hz, st.TO, l1, l2, hS⟩, b7 _ _ D.TIz D.TITO D.TIi1 D.TIi2 st.TI, by rw [b6]; exact Nat.lt_succ_of_lt st.TO, b3, b4⟩ b5 b7
  · refine pyNext_zipT_item_held D hz hT st.TI st.h1 st.h2 hl1 hl2 hx hy fun h' b1 b3 b4 b5 b6 b7 => ?_
    exact hQ h' ⟨.inr ⟨T, true, oT, b1, b7 _ _ (Nat.ne_of_gt q1) (Nat.ne_of_gt q3) (Nat.ne_of_gt q4) hT, q1, q2, q3, q4, q5⟩, b7 _ _ D.TIz D.TIi1 D.TIi2 st.TI, by rw [b6]; exact Nat.lt_succ_of_lt st.TO, b3, b4⟩ b5 fun c o c1 _ c3 c4 e => b7 c o c1 c3 c4 e
theorem zst_end {z TI TO i1 i2 a b S : Addr} {i : Nat} {xs ys : Array Value} {Q : Option Value → Shared → Prop} (hh : A.handled = none) (D : ZipApart z TI TO i1 i2 a b) (st : ZSt s.heap z TI TO i1 i2 a b S i)
    (hl1 : s.heap.IsTuple a xs) (hl2 : s.heap.IsTuple b ys) (hend : xs[i]? = none ∨ ys[i]? = none)
    (hQ : ∀ h', (∀ c o, c ≠ z → c ≠ TO → c ≠ i1 → c ≠ i2 → s.heap.get? c = some o → h'.get? c = some o) → Q none { s with heap := h' }) : wpAny (model prog w) A (pyNext (.ref z)) Q E s := by
  rcases st.z with ⟨hz, x0, y0, hTO⟩ | ⟨T, f, oT, hz, hT, q1, q2, q3, q4, q5⟩
  · exact RZ.pyNext_zipT_end hh D hz st.TI hTO st.h1 st.h2 hl1 hl2 hend fun h' k => hQ h' k
  · exact pyNext_zipT_end_held hh D hz hT st.TI st.h1 st.h2 hl1 hl2 hend fun h' k => hQ h' fun c o c1 _ c3 c4 e => k c o c1 c3 c4 e
theorem ZSt.at {h h' : Heap} {z TI TO i1 i2 a b S : Addr} {i : Nat} (st : ZSt h z TI TO i1 i2 a b S i) (hS : S ≠ z ∧ S ≠ TI ∧ S ≠ TO ∧ S ≠ i1 ∧ S ≠ i2) (hz : h.objs.size ≤ h'.objs.size) (k : ∀ c o, c ≠ S → h.get? c = some o → h'.get? c = some o) : ZSt h' z TI TO i1 i2 a b S i where
  z := by
    rcases st.z with ⟨hz, x0, y0, hTO⟩ | ⟨T, f, oT, hz, hT, q1, q2, q3, q4, q5⟩
    · exact .inl ⟨k _ _ hS.1.symm hz, x0, y0, k _ _ hS.2.2.1.symm hTO⟩
    · exact .inr ⟨T, f, oT, k _ _ hS.1.symm hz, k _ _ (Nat.ne_of_gt q5) hT, q1, q2, q3, q4, q5⟩
  TI := k _ _ hS.2.1.symm st.TI
  TO := Nat.lt_of_lt_of_le st.TO hz
  h1 := st.h1.at fun o e => k _ _ hS.2.2.2.1.symm e
  h2 := st.h2.at fun o e => k _ _ hS.2.2.2.2.symm e
end
end Zz
end
section
/-! ZL2: list(zip(a, b)) of two tuples, the loop and the call. -/
namespace Zz
open PySem PySem.Spec PyProof.Rows L2 PySem.W
open PySem.Sem (wp)

theorem zip_nolen : typeLookup (.type "zip") "__len__" = pure none := by rw [typeLookup_type, builtinLookup_eq_fast]; kernel_rfl
theorem zip_nohint : typeLookup (.type "zip") "__length_hint__" = pure none := by rw [typeLookup_type, builtinLookup_eq_fast]; kernel_rfl
/-- the list's items: new pairs -/
def PairsOk (H0 H : Hp) (vs xs ys : List V) (n : Nat) : Prop := vs.length = n ∧ ∀ j, j < n → ∃ (T : Addr) (x y : V), vs[j]? = some (.ref T) ∧ xs[j]? = some x ∧ ys[j]? = some y ∧ H T = some (.tup [x, y]) ∧ H0 T = none
theorem SqT.but {K : Frag} {H H' : Hp} {S a : Addr} {vs xs : List V} (h : SqT K H a xs) (hS : H S = some (.lst vs)) (k : ∀ c o, c ≠ S → H c = some o → H' c = some o) : SqT K H' a xs := by
  rcases h with (h | ⟨o, h⟩) | h
  · exact .inl (.inl (k _ _ (fun e => by rw [e, hS] at h; cases h) h))
  · exact .inl (.inr ⟨o, k _ _ (fun e => by rw [e, hS] at h; cases h) h⟩)
  · exact .inr h
theorem SqT.sup {K : Frag} {H H' : Hp} {a : Addr} {xs : List V} (h : SqT K H a xs) (k : ∀ c o, H c = some o → H' c = some o) : SqT K H' a xs := by
  rcases h with (h | ⟨o, h⟩) | h
  · exact .inl (.inl (k _ _ h))
  · exact .inl (.inr ⟨o, k _ _ h⟩)
  · exact .inr h
section
variable {X : Cx} {pins : List (Addr × Obj)} {σ : L2.St}
theorem FpOk.same {H H' : Hp} {c : Addr} (h : FpOk X pins H c) (n : H' c = none) : FpOk X pins H' c := ⟨n, h.2⟩
theorem zl_loop {z TI TO i1 i2 a b S : Addr} {xs ys : List V} {R : Result → Shared → Prop} {res : Value} {H0 : Hp} (A : Around) (hh : A.handled = none) (D : ZipApart z TI TO i1 i2 a b) (hS : S ≠ z ∧ S ≠ TI ∧ S ≠ TO ∧ S ≠ i1 ∧ S ≠ i2) (hn : min xs.length ys.length ≤ sizeLine) :
    ∀ (k i : Nat) (s : Shared) (H : Hp) (vs : List V), min xs.length ys.length - i = k → i ≤ min xs.length ys.length → Inv X pins σ H s → (∀ c ∈ [z, TI, TO, i1, i2], FpOk X pins H c) → H S = some (.lst vs) → (∀ T, s.heap.objs.size ≤ T → H0 T = none) → PairsOk H0 H vs xs ys i → ZSt s.heap z TI TO i1 i2 a b S i → SqT X.K H a xs → SqT X.K H b ys →
      (∀ s' H' vs', Inv X pins σ H' s' → (∀ c o, c ≠ S → H c = some o → H' c = some o) → H' S = some (.lst vs') → PairsOk H0 H' vs' xs ys (min xs.length ys.length) → R (.ok (.ret res)) s') →
      codeAny (model X.prog X.w) A (.builtin "list.extend.loop" ⟨[.ref S, .ref z, res], []⟩) R s := by
  intro k
  induction k with
  | zero =>
    intro i s H vs hk hi I hf hHS h0 hp st ha hb hR
    have hin : i = min xs.length ys.length := by omega
    subst hin
    obtain ⟨its, rv, p, _⟩ := I.tuple ha
    obtain ⟨its2, rv2, p2, _⟩ := I.tuple hb
    refine codeAny_builtin PySem.F.entry_extend_loop ?_
    rw [Around.under_plainId PySem.F.plain_extend_loop _]
    show wpAny _ A.in1 (pyNext (.ref z) >>= _) _ _ s
    have l1 := rv.length
    have l2 := rv2.length
    have he : its.toArray[min xs.length ys.length]? = none ∨ its2.toArray[min xs.length ys.length]? = none := by
      rcases Nat.le_total xs.length ys.length with q | q
      · exact .inl (by simp; omega)
      · exact .inr (by simp; omega)
    refine wpAny_bind (zst_end hh D st p p2 he fun h' hk' => ?_)
    have I1 : Inv X pins σ H { s with heap := h' } := I.turnedL (t' := s.toks) (ch := [z, TI, TO, i1, i2]) (fun c o hb q => hk' c o (fun e => hb (by simp [e])) (fun e => hb (by simp [e])) (fun e => hb (by simp [e])) (fun e => hb (by simp [e])) q) hf
    exact wpAny_pure (hR _ H vs I1 (fun _ _ _ e => e) hHS hp)
  | succ k ih =>
    intro i s H vs hk hi I hf hHS h0 hp st ha hb hR
    have hlt : i < min xs.length ys.length := by omega
    obtain ⟨its, rv, p, _⟩ := I.tuple ha
    obtain ⟨its2, rv2, p2, _⟩ := I.tuple hb
    have g1 : xs[i]? = some xs[i] := List.getElem?_eq_getElem (by omega)
    have g2 : ys[i]? = some ys[i] := List.getElem?_eq_getElem (by omega)
    obtain ⟨u, hu, ru⟩ := rv.get g1
    obtain ⟨u2, hu2, ru2⟩ := rv2.get g2
    obtain ⟨hlen, iv, c0, rvs, eS⟩ := I.hok S _ hHS
    have hSlt : S < s.heap.objs.size := Heap.lt_size eS
    refine codeAny_builtin PySem.F.entry_extend_loop ?_
    rw [Around.under_plainId PySem.F.plain_extend_loop _]
    show wpAny _ A.in1 (pyNext (.ref z) >>= _) _ _ s
    refine wpAny_bind (zst_item D st hSlt p p2 (x := u) (y := u2) (by simpa using hu) (by simpa using hu2) fun h' st' hT hk' => ?_)
    have hnT : H s.heap.objs.size = none := I.hok.fresh (Nat.le_refl _)
    have lt5 : ∀ c ∈ [z, TI, TO, i1, i2], c < s.heap.objs.size := fun c hc => by
      have e' : c = z ∨ c = TI ∨ c = TO ∨ c = i1 ∨ c = i2 := by simpa using hc
      rcases e' with q | q | q | q | q
      · rw [q]
        obtain ⟨o, ho, _⟩ := st.typeIs
        exact Heap.lt_size ho
      · rw [q]; exact Heap.lt_size st.TI
      · rw [q]; exact st.TO
      · rw [q]; obtain ⟨_, e1, _⟩ := st.h1; exact Heap.lt_size e1
      · rw [q]; obtain ⟨_, e1, _⟩ := st.h2; exact Heap.lt_size e1
    have new : ObjOk X.prog X.w (upd H s.heap.objs.size (.tup [xs[i], ys[i]])) h' s.heap.objs.size (.tup [xs[i], ys[i]]) :=
      ⟨by show 2 ≤ sizeLine; decide, [u, u2], .cons ru (.cons ru2 .nil), ⟨_, hT, rfl, _, rfl⟩⟩
    have I1 : Inv X pins σ (upd H s.heap.objs.size (.tup [xs[i], ys[i]])) { s with heap := h' } :=
      I.turnedNew (t' := s.toks) (ch := [z, TI, TO, i1, i2]) (fun c o hb q => hk' c o (fun e => hb (by simp [e])) (fun e => hb (by simp [e])) (fun e => hb (by simp [e])) (fun e => hb (by simp [e])) q) hf (Nat.le_refl _) new
    have hS5 : ∀ c ∈ [z, TI, TO, i1, i2], c ≠ S := fun c hc e => by
      have e' : c = z ∨ c = TI ∨ c = TO ∨ c = i1 ∨ c = i2 := by simpa using hc
      rcases e' with q | q | q | q | q
      · exact hS.1 (e.symm.trans q)
      · exact hS.2.1 (e.symm.trans q)
      · exact hS.2.2.1 (e.symm.trans q)
      · exact hS.2.2.2.1 (e.symm.trans q)
      · exact hS.2.2.2.2 (e.symm.trans q)
    have eS' : h'.get? S = some { cls := .type "list", data := .seq iv.toArray c0 } := hk' _ _ hS.1 hS.2.2.1 hS.2.2.2.1 hS.2.2.2.2 eS
    have hTS : s.heap.objs.size ≠ S := Nat.ne_of_gt hSlt
    have hHS1 : upd H s.heap.objs.size (.tup [xs[i], ys[i]]) S = some (.lst vs) := by rw [upd_ne hTS.symm]; exact hHS
    have hz : s.heap.objs.size < h'.objs.size := Heap.lt_size hT
    show wpAny _ A.in1 (updateSeq S (·.push (.ref s.heap.objs.size)) >>= _) _ _ _
    refine wpAny_bind ?_
    have lv := rvs.length
    refine wpAny_updateSeq eS' rfl (wpAny_pure ⟨plainId_quiet PySem.F.plain_extend_loop _, ?_⟩) (by
        have := hp.1
        first | (show iv.toArray.size ≤ sizeLine; simp; omega) | (show _ ≤ _; simp; omega)) (by
        have := hp.1
        show (iv.toArray.push _).size ≤ sizeLine + 1
        simp; omega)
    have eS2 := Heap.get?_update_self (Obj.mapSeq (·.push (.ref s.heap.objs.size))) eS' rfl
    have oth : ∀ c o, c ≠ S → h'.get? c = some o → (h'.update S (Obj.mapSeq (·.push (.ref s.heap.objs.size)))).get? c = some o := fun c o hc e => (Heap.get?_update_other _ _ (Ne.symm hc)).trans e
    have new2 : ObjOk X.prog X.w (upd (upd H s.heap.objs.size (.tup [xs[i], ys[i]])) S (.lst (vs ++ [.ref s.heap.objs.size]))) (h'.update S (Obj.mapSeq (·.push (.ref s.heap.objs.size)))) S (.lst (vs ++ [.ref s.heap.objs.size])) := by
      have e0 : ∃ n : Nat, (h'.update S (Obj.mapSeq (·.push (.ref s.heap.objs.size)))).get? S = some { cls := .type "list", data := .seq (iv ++ [Value.ref s.heap.objs.size]).toArray n } := by
        refine ⟨if ((iv.toArray.push (Value.ref s.heap.objs.size)).size == iv.toArray.size) = true then c0 else c0 + 1, eS2.trans ?_⟩
        rw [show (iv ++ [Value.ref s.heap.objs.size]).toArray = iv.toArray.push (Value.ref s.heap.objs.size) from by simp]
        rfl
      obtain ⟨n0, e0⟩ := e0
      exact ⟨by rw [List.length_append, List.length_singleton, hp.1]; omega, iv ++ [.ref s.heap.objs.size], _, rvs.append (.cons (show L2.RelV (V.ref s.heap.objs.size) (Value.ref s.heap.objs.size) from rfl) .nil), e0⟩
    have I2 : Inv X pins σ (upd (upd H s.heap.objs.size (.tup [xs[i], ys[i]])) S (.lst (vs ++ [.ref s.heap.objs.size]))) { s with heap := h'.update S (Obj.mapSeq (·.push (.ref s.heap.objs.size))) } :=
      I1.write (x := S) (e := S) (t' := s.toks) (by rw [hHS1]; exact trivial) (.inl rfl) (fun c o hc e => oth c o hc e) ⟨_, eS2⟩ new2
    have kk : ∀ c o, c ≠ S → H c = some o → upd (upd H s.heap.objs.size (.tup [xs[i], ys[i]])) S (.lst (vs ++ [.ref s.heap.objs.size])) c = some o := fun c o hc e => by
      rw [upd_ne hc, upd_ne (ne_of_none e hnT)]; exact e
    refine ih (i + 1) _ _ (vs ++ [.ref s.heap.objs.size]) (by omega) (by omega) I2 (fun c hc => ?_) upd_same (fun T hT' => h0 T ?_) ⟨by rw [List.length_append, hp.1]; rfl, fun j hj => ?_⟩ (st'.at hS (by rw [Heap.size_update]; exact Nat.le_refl _) oth) (SqT.but ha hHS kk) (SqT.but hb hHS kk) fun s' H' vs' I' k' hS' p' => ?_
    · exact FpOk.same (hf c hc) (by rw [upd_ne (hS5 c hc), upd_ne (Nat.ne_of_lt (lt5 c hc))]; exact (hf c hc).1)
    · have h2 : (h'.update S (Obj.mapSeq (·.push (.ref s.heap.objs.size)))).objs.size ≤ T := hT'
      rw [Heap.size_update] at h2
      omega
    · by_cases hj' : j < i
      · obtain ⟨T, x, y, q1, q2, q3, q4, q5⟩ := hp.2 j hj'
        exact ⟨T, x, y, by rw [List.getElem?_append_left (by rw [hp.1]; exact hj')]; exact q1, q2, q3, kk _ _ (fun e => by rw [e, hHS] at q4; cases q4) q4, q5⟩
      · obtain rfl : j = i := by omega
        refine ⟨s.heap.objs.size, xs[j], ys[j], by rw [List.getElem?_append_right (by rw [hp.1]; exact Nat.le_refl _), hp.1]; simp, g1, g2, by rw [upd_ne hTS, upd_same], h0 _ (Nat.le_refl _)⟩
    · exact hR s' H' vs' I' (fun c o hc e => k' c o hc (kk c o hc e)) hS' p'
theorem zl_call {z TI TO i1 i2 a b : Addr} {xs ys : List V} {H : Hp} {s : Shared} {Q : Value → Shared → Prop} {E : Value → Shared → Prop} (A : Around) (hh : A.handled = none) (D : ZipApart z TI TO i1 i2 a b) (hn : min xs.length ys.length ≤ sizeLine)
    (I : Inv X pins σ H s) (hf : ∀ c ∈ [z, TI, TO, i1, i2], FpOk X pins H c) (lt5 : ∀ c ∈ [z, TI, TO, i1, i2], c < s.heap.objs.size) (hz : IsZip s.heap z TI TO .none) (hTO : ∃ x y, IsPair s.heap TO x y) (hTI : IsPair s.heap TI (.ref i1) (.ref i2)) (h1 : s.heap.IsTupleIter i1 a 0) (h2 : s.heap.IsTupleIter i2 b 0)
    (ha : SqT X.K H a xs) (hb : SqT X.K H b ys)
    (hQ : ∀ s' H' vs', Inv X pins σ H' s' → (∀ c o, H c = some o → H' c = some o) → H s.heap.objs.size = none → H' s.heap.objs.size = some (.lst vs') → PairsOk H H' vs' xs ys (min xs.length ys.length) → Q (.ref s.heap.objs.size) s') :
    wpAny (model X.prog X.w) A (call (.type "list") [.ref z]) Q E s := by
  refine callType_codes (Q₁ := fun obj s₁ => obj = .ref s.heap.objs.size ∧ s₁ = { s with heap := s.heap.push { cls := .type "list", data := .seq #[] } }) PySem.F.called_list (PySem.F.typeCall_list_1 _) PySem.F.entry_list_init
    (code_list_new _ ⟨rfl, rfl⟩) fun obj s₁ h₁ => ?_
  obtain ⟨rfl, rfl⟩ := h₁
  have hS : (s.heap.push { cls := .type "list", data := .seq #[] }).get? s.heap.objs.size = some { cls := .type "list", data := .seq #[] } := Heap.get?_push_size _ rfl
  have nS : ∀ c ∈ [z, TI, TO, i1, i2], s.heap.objs.size ≠ c := fun c hc => Nat.ne_of_gt (lt5 c hc)
  refine ⟨⟨_, hS, rfl⟩, PySem.F.args_list_init_2 _ _, ?_⟩
  show wpAny _ _ (do let old ← Builtin.List.listItems (.ref s.heap.objs.size); Builtin.List.listUpdate (.ref s.heap.objs.size) (fun _ => #[]); letGo old.toList.reverse; Builtin.List.listExtendWith (.ref s.heap.objs.size) (.ref z) .none) _ _ _
  refine wpAny_bind ?_
  unfold Builtin.List.listItems
  refine wpAny_bind (wpAny_seqItems hS rfl (wpAny_pure ?_))
  show wpAny _ _ (updateSeq s.heap.objs.size (fun _ => #[]) >>= fun _ => letGo (#[] : Array Value).toList.reverse >>= fun _ => Builtin.List.listExtendWith (.ref s.heap.objs.size) (.ref z) .none) _ _ _
  refine wpAny_bind (wpAny_updateSeq hS rfl ?_)
  have hS₂ := Heap.get?_update_self (Obj.mapSeq (fun _ => (#[] : Array Value))) hS rfl
  have oth2 : ∀ c o, c ≠ s.heap.objs.size → s.heap.get? c = some o → ((s.heap.push { cls := .type "list", data := .seq #[] }).update s.heap.objs.size (Obj.mapSeq (fun _ => (#[] : Array Value)))).get? c = some o :=
    fun c o hc e => (Heap.get?_update_other _ _ (Ne.symm hc)).trans (Heap.get?_push_of_some _ e)
  refine wpAny_bind (wpAny_letGo ?_)
  have nz : z ≠ s.heap.objs.size := (nS z (by simp)).symm
  have hz2 := oth2 z _ nz hz
  unfold Builtin.List.listExtendWith
  refine wpAny_bind (wpAny_typeOf (T := "zip") ⟨_, hz2, rfl⟩ ?_)
  have e1 : Builtin.List.listSameRef (.ref s.heap.objs.size) (.ref z) = false := by simp [Builtin.List.listSameRef, nz.symm]
  have e2 : (Value.type "zip" == Value.type "list") = false := by decide
  have e3 : (Value.type "zip" == Value.type "tuple") = false := by decide
  simp only [e1, e2, e3, Bool.or_false, Bool.false_eq_true, if_false]
  refine wpAny_bind (wpAny_pyIter_zip hz2 ?_)
  refine wpAny_bind (wpAny_holding ?_)
  unfold Builtin.List.listLengthHint
  refine wpAny_bind (wpAny_specialOf (T := "zip") ⟨_, hz2, rfl⟩ zip_nolen ?_)
  show wpAny _ _ (specialOf (Value.ref z) (Str.ofString "__length_hint__") >>= _) _ _ _
  refine wpAny_bind (wpAny_specialOf (T := "zip") ⟨_, hz2, rfl⟩ zip_nohint ?_)
  refine wpAny_pure ?_
  show wpAny _ _ (rule "list.extend.makes-room" >>= fun _ => Builtin.List.listTouch (.ref s.heap.objs.size) >>= fun _ =>
    again (.builtin "list.extend.loop" ⟨[.ref s.heap.objs.size, .ref z, .none], []⟩)) _ _ _
  refine wpAny_bind (wpAny_rule ?_)
  refine wpAny_bind ?_
  show wpAny _ _ (updateSeq s.heap.objs.size (·.push .none) >>= fun _ => updateSeq s.heap.objs.size (·.pop)) _ _ _
  refine wpAny_bind (wpAny_updateSeq hS₂ rfl ?_)
  have hS₃ := Heap.get?_update_self (Obj.mapSeq (·.push Value.none)) hS₂ rfl
  refine wpAny_updateSeq (hz := by seq_fits) hS₃ rfl ?_
  have hS₄ := Heap.get?_update_self (Obj.mapSeq (·.pop)) hS₃ rfl
  have oth4 : ∀ c o, s.heap.get? c = some o → ((((s.heap.push { cls := .type "list", data := .seq #[] }).update s.heap.objs.size (Obj.mapSeq (fun _ => (#[] : Array Value)))).update s.heap.objs.size (Obj.mapSeq (·.push Value.none))).update s.heap.objs.size (Obj.mapSeq (·.pop))).get? c = some o :=
    fun c o e => (Heap.get?_update_other _ _ (Nat.ne_of_gt (Heap.lt_size e))).trans ((Heap.get?_update_other _ _ (Nat.ne_of_gt (Heap.lt_size e))).trans (oth2 c o (Nat.ne_of_lt (Heap.lt_size e)) e))
  refine wpAny_pure ⟨plainId_quiet PySem.F.plain_extend_loop _, ?_⟩
  have sz : ((((s.heap.push { cls := .type "list", data := .seq #[] }).update s.heap.objs.size (Obj.mapSeq (fun _ => (#[] : Array Value)))).update s.heap.objs.size (Obj.mapSeq (·.push Value.none))).update s.heap.objs.size (Obj.mapSeq (·.pop))).objs.size = s.heap.objs.size + 1 := by
    rw [Heap.size_update, Heap.size_update, Heap.size_update, Heap.size_push]
  have hnS : H s.heap.objs.size = none := I.hok.fresh (Nat.le_refl _)
  have I2 := I.laid (t' := s.toks) (a := s.heap.objs.size) (o := .lst []) oth4 (Nat.le_refl _) ⟨Nat.zero_le _, [], _, .nil, hS₄⟩
  have kk : ∀ c o, H c = some o → upd H s.heap.objs.size (.lst []) c = some o := fun c o e => by rw [upd_ne (ne_of_none e hnS)]; exact e
  obtain ⟨x0, y0, hTO⟩ := hTO
  refine zl_loop A.in1 hh D ⟨nS z (by simp), nS TI (by simp), nS TO (by simp), nS i1 (by simp), nS i2 (by simp)⟩ hn _ 0 _ _ [] rfl (Nat.zero_le _) I2 (fun c hc => FpOk.same (hf c hc) (by rw [upd_ne (nS c hc).symm]; exact (hf c hc).1)) upd_same (H0 := H) (fun T hT => I.hok.fresh ?_) ⟨rfl, fun j hj => absurd hj (Nat.not_lt_zero _)⟩
    ⟨.inl ⟨oth4 _ _ hz, x0, y0, oth4 _ _ hTO⟩, oth4 _ _ hTI, by rw [sz]; exact Nat.lt_succ_of_lt (lt5 TO (by simp)), h1.at fun o e => oth4 _ _ e, h2.at fun o e => oth4 _ _ e⟩ (SqT.sup ha kk) (SqT.sup hb kk) fun s' H' vs' I' k' hS' p' => ?_
  · have hT : ((((s.heap.push { cls := .type "list", data := .seq #[] }).update s.heap.objs.size (Obj.mapSeq (fun _ => (#[] : Array Value)))).update s.heap.objs.size (Obj.mapSeq (·.push Value.none))).update s.heap.objs.size (Obj.mapSeq (·.pop))).objs.size ≤ T := hT
    rw [sz] at hT
    omega
  · exact ⟨rfl, hQ s' H' vs' I' (fun c o e => k' c o (fun z => by rw [z, hnS] at e; cases e) (kk c o e)) hnS hS' p'⟩

def tLzip (K : PySem.W.Frag) (ta : TA) : TE := fun σ H Q => ta σ H fun vs H1 => ∃ a b xs ys, vs = [.ref a, .ref b] ∧ SqT K H1 a xs ∧ SqT K H1 b ys ∧ ∀ (S : Addr) (H' : Hp) (vs' : List V), (∀ c o, H1 c = some o → H' c = some o) → H1 S = none → H' S = some (.lst vs') → PairsOk H1 H' vs' xs ys (min xs.length ys.length) → Q (.ref S) H'
theorem pe_lzip {u v : Expr} {ta : TA} {p p2 pos pos2 : Pos} (hc : X.calm = true) (hg : Gl X "list") (hm : X.mg "list" = none) (hg2 : Gl X "zip") (hm2 : X.mg "zip" = none) (hsu : isStar u = false) (hsv : isStar v = false) (ha : PA X [u, v] ta) :
    PE X (.Call (.Name "list" p) [.Call (.Name "zip" p2) [u, v] [] pos2] [] pos) (tLzip X.K ta) := by
  refine ⟨fun pins s σ H Q I h => ?_⟩
  refine Call_ (ld_blt I hg hm PyProof.Rows.boot_list (PyProof.Rows.callWith_type1 ?_))
  refine Calls.spliced_cons ?_
  refine Call_ (ld_blt I hg2 hm2 PyProof.Rows.boot_zip (PyProof.Rows.callWith_type1 (thn (ha.run pos2 pins s σ H _ I h) fun us s1 ⟨vs, H1, I1, r1, q1⟩ => ?_) (star_no hsu) (by rw [star_no hsv]; rfl)))
  obtain ⟨a, b, xs, ys, ex, hqx, hqy, q⟩ := q1
  subst ex
  cases r1 with
  | cons r rr =>
    cases rr with
    | cons r' rr =>
      cases rr
      cases r
      cases r'
      obtain ⟨its, rv, p1, lx⟩ := I1.tuple hqx
      obtain ⟨its2, rv2, p2, ly⟩ := I1.tuple hqy
      obtain ⟨o1, ho1, _⟩ := id p1
      obtain ⟨o2, ho2, _⟩ := id p2
      refine RZ.call_zipT (show s1.heap.IsTuple a its.toArray from p1) (show s1.heap.IsTuple b its2.toArray from p2) fun h' hz hTI hTO h1 h2 hsz hk => ?_
      refine Calls.spliced_nil ?_
      have I2 : Inv X pins σ H1 { s1 with heap := h' } := I1.kept (t' := s1.toks) hk
      have fresh5 : ∀ c, c ∈ [s1.heap.objs.size + 4, s1.heap.objs.size + 2, s1.heap.objs.size + 3, s1.heap.objs.size, s1.heap.objs.size + 1] → FpOk X pins H1 c ∧ c < h'.objs.size := fun c hcm => by
        have e' : c = s1.heap.objs.size + 4 ∨ c = s1.heap.objs.size + 2 ∨ c = s1.heap.objs.size + 3 ∨ c = s1.heap.objs.size ∨ c = s1.heap.objs.size + 1 := by simpa using hcm
        have hle : s1.heap.objs.size ≤ c ∧ c < s1.heap.objs.size + 5 := by
          rcases e' with z | z | z | z | z <;> rw [z] <;> exact ⟨by omega, by omega⟩
        exact ⟨I1.fpOk hle.1 (I1.hok.fresh hle.1), by rw [hsz]; exact hle.2⟩
      refine zl_call X.A (I1.ok.hd hc) (PySem.W.ktu_apart s1.heap.objs.size a b (Heap.lt_size ho1) (Heap.lt_size ho2)) (Nat.le_trans (Nat.min_le_left _ _) lx) I2 (fun c hc => (fresh5 c hc).1) (fun c hc => (fresh5 c hc).2) hz ⟨_, _, hTO⟩ hTI h1 h2 hqx hqy fun s' H' vs' I' k' hn' hS' p' => ?_
      exact ⟨.ref _, H', I', rfl, q _ H' vs' k' hn' hS' p'⟩
end
end Zz
end
section
/-! ZD: len({p: True for p in t}): p a tuple of tuples of plain data, no two the same. -/
namespace Zz
open PySem PySem.Spec PyProof.Rows L2

section
variable {X : Cx} {pins : List (Addr × Obj)} {σ : L2.St} {H : Hp} {s : Shared}
mutual
theorem nested_of (I : Inv X pins σ H s) {M : Mh} : ∀ (d : D) (v : V) (u : Value), keyOk d = true → Rep X.K H M d v → RelV v u → NestedIs s.heap (keyOf d) u
  | .non, v, u, _, r, h => by
    have e : v = .non := r
    subst e
    obtain rfl : u = Value.none := h
    exact .none
  | .bl b, v, u, _, r, h => by
    have e : v = .bl b := r
    subst e
    obtain rfl : u = Value.bool b := h
    exact .bool rfl
  | .int i, v, u, _, r, h => by
    have e : v = .int i := r
    subst e
    obtain ⟨t, rfl⟩ : ∃ t, u = Value.int i t := h
    exact .int i t
  | .str x, v, u, _, r, h => by
    have e : v = .str x := r
    subst e
    obtain ⟨t, rfl⟩ : ∃ t, u = Value.str x t := h
    exact .text x t
  | .lst _, _, _, k, _, _ => by unfold keyOk at k; cases k
  | .ref _, _, _, k, _, _ => by unfold keyOk at k; cases k
  | .tup ds, v, u, k, r, h => by
    obtain ⟨p, vs, rfl, st, t⟩ := rep_tup r
    obtain rfl : u = Value.ref p := h
    obtain ⟨its, rv, ⟨o, ho, hc, n, hd⟩, _⟩ := I.tuple st.sq
    unfold keyOk at k
    exact .tup ho hc hd (nested_all I ds vs its k t rv)
theorem nested_all (I : Inv X pins σ H s) {M : Mh} : ∀ (ds : List D) (vs : List V) (us : List Value), keysOk ds = true → Reps X.K H M ds vs → Vals vs us → NestedAll s.heap (keysOf ds) us
  | [], vs, us, _, r, h => by
    have e := Reps.nil_iff.mp r
    subst e
    cases h
    exact .nil
  | d :: ds, vs, us, k, r, h => by
    obtain ⟨v, vr, rfl, r1, r2⟩ := r.uncons
    unfold keysOk at k
    rw [Bool.and_eq_true] at k
    cases h with
    | cons h1 h2 => exact .cons (nested_of I d v _ k.1 r1 h1) (nested_all I ds vr _ k.2 r2 h2)
end
/-- b is the key k wherever H and K are held -/
def Keyed (K : PySem.W.Frag) (H : Hp) (k : NestedKey) (b : Addr) : Prop := ∃ M d, keyOk d = true ∧ keyOf d = k ∧ k.depth ≤ 8 ∧ Rep K H M d (.ref b)
theorem Keyed.is (I : Inv X pins σ H s) {k : NestedKey} {b : Addr} (h : Keyed X.K H k b) : (nestedKind X.prog X.w).is s.heap k b := by
  obtain ⟨M, d, h1, rfl, h2, h3⟩ := h
  exact ⟨nested_of I d _ _ h1 h3 rfl, h2⟩
/-- the dict as it stands, its keys told apart -/
def RawD (P : Program) (w : World) (h : Heap) (D : Addr) (xs : List (NestedKey × Addr × Value)) : Prop :=
  ∃ o es ep, h.get? D = some o ∧ o.ExactDict ∧ o.data = .dict es ep ∧ es.toList = xs.map (entryOfKey (nestedKind P w)) ∧ (xs.map (·.1)).Nodup
theorem RawD.of {P : Program} {w : World} {h : Heap} {D : Addr} {xs : List (NestedKey × Addr × Value)} (r : h.DictOfH (nestedKind P w) D xs) : RawD P w h D xs := by
  obtain ⟨o, es, ep, a, b, c, d, _, e⟩ := r
  exact ⟨o, es, ep, a, b, c, d, e⟩
theorem RawD.dict {P : Program} {w : World} {h : Heap} {D : Addr} {xs : List (NestedKey × Addr × Value)} (r : RawD P w h D xs) (k : ∀ x ∈ xs, (nestedKind P w).is h x.1 x.2.1) : h.DictOfH (nestedKind P w) D xs := by
  obtain ⟨o, es, ep, a, b, c, d, e⟩ := r
  exact ⟨o, es, ep, a, b, c, d, k, e⟩
theorem RawD.at {P : Program} {w : World} {h h' : Heap} {D : Addr} {xs : List (NestedKey × Addr × Value)} (r : RawD P w h D xs) (k : ∀ o, h.get? D = some o → h'.get? D = some o) : RawD P w h' D xs := by
  obtain ⟨o, es, ep, a, b, c, d, e⟩ := r
  exact ⟨o, es, ep, k _ a, b, c, d, e⟩
theorem RawD.noCell {P : Program} {w : World} {h : Heap} {D : Addr} {xs : List (NestedKey × Addr × Value)} (r : RawD P w h D xs) : ∃ o, h.get? D = some o ∧ ∀ v, o.data ≠ .cell v := by
  obtain ⟨o, es, ep, a, b, c, d, e⟩ := r
  exact ⟨o, a, fun v z => by rw [c] at z; cases z⟩
theorem atKey_none {xs : List (NestedKey × Addr × Value)} {k : NestedKey} (h : k ∉ xs.map (·.1)) : atKey xs k = none := by
  unfold atKey
  rw [Option.map_eq_none_iff, List.find?_eq_none]
  intro x hx
  simp only [decide_eq_true_eq]
  intro e
  exact h (List.mem_map.mpr ⟨x, hx, e⟩)
end

def tDn (K : PySem.W.Frag) (te : TE) : TE := fun σ H Q => te σ H fun x H1 => ∃ (a : Addr) (xs : List V) (ks : List NestedKey), x = .ref a ∧ SqT K H1 a xs ∧ ks.length = xs.length ∧ ks.Nodup ∧ xs.length ≤ 1000 ∧ (∀ (j : Nat) (k : NestedKey), ks[j]? = some k → ∃ b, xs[j]? = some (.ref b) ∧ Keyed K H1 k b) ∧ Q (.int (xs.length : Nat)) H1
section
variable {X : Cx} {pins : List (Addr × Obj)} {σ : L2.St} {H : Hp} {s : Shared}
theorem dn_core {Q : Value → Shared → Prop} {kx vx tg iter : Expr} {scope : Scope} {own : List (Str × Nat)} {pos pos' : Pos} {te : TE} {i0 : Nat} {vc : V} (hc : X.calm = true) (hu : X.A.units + 100 < cLine) (hN : X.N.Nodup) (I : Inv X pins σ H s) (hi : PE X iter te) (ok : BlkOk X.N X.env.scope scope own) (hio : i0 ∈ own.map (·.2)) (hil : i0 < X.N.length)
    (hg : ∀ (s : Shared) (H : Hp) (C : Addr) (cl : List (Str × Addr)) (fp : List Addr), PG (X.blk s H scope (compEnvC scope cl C X.env) fp) tg (gName i0))
    (hk : ∀ (s : Shared) (H : Hp) (C : Addr) (cl : List (Str × Addr)) (fp : List Addr), PE (X.blk s H scope (compEnvC scope cl C X.env) fp) kx (tVar i0))
    (he : ∀ (s : Shared) (H : Hp) (C : Addr) (cl : List (Str × Addr)) (fp : List Addr), PE (X.blk s H scope (compEnvC scope cl C X.env) fp) vx (tC vc)) (hs : ∀ x, foldedSetIterable iter X.env x = pure x)
    (h : te σ H fun x H1 => ∃ (a : Addr) (xs : List V) (ks : List NestedKey), x = .ref a ∧ SqT X.K H1 a xs ∧ ks.length = xs.length ∧ ks.Nodup ∧ xs.length ≤ 1000 ∧ (∀ (j : Nat) (k : NestedKey), ks[j]? = some k → ∃ b, xs[j]? = some (.ref b) ∧ Keyed X.K H1 k b) ∧
      ∀ (D : Addr) (s' : Shared) (ds : List (NestedKey × Addr × Value)), Inv X pins σ H1 s' → (D == sysModules) = false → s'.heap.DictOfH (nestedKind X.prog X.w) D ds → ds.length = xs.length → Q (.ref D) s') :
    wpAny (model X.prog X.w) X.A (comprehension (.DictComp kx vx [⟨tg, iter, [], 0⟩] scope pos) scope X.env pos' newDict false (eval iter X.env) none) Q X.xe s := by
  have hfree : ∀ y ∈ scope.names, y.2 = .free → ∃ c, X.env.cells.lookup y.1 = some c := fun y hy e => by
    rcases ok.free y hy e with k | k
    · exact I.ok.has _ (.inl k)
    · exact I.ok.has _ (.inr k)
  refine wpAny_comprehension_free (use := none) rfl hs (closure_ok hfree) ok.kind (fun y hy e => by rw [ok.uniq y hy, e])
    (thn (hi.run pins s σ H _ I h) fun xv s1 ⟨xV, H2, I1, r1, a, xs, ks, ex, hsq, hkl, hknd, hlen, hkeyed, q⟩ => ?_)
  subst ex
  cases r1
  obtain ⟨its, rv, ptup, hzl⟩ := I1.tuple hsq
  refine wpAny_pyIter_tuple (show s1.heap.IsTuple a its.toArray from ptup) ?_
  generalize hit : s1.heap.objs.size = it
  generalize hs2 : ({ s1 with heap := s1.heap.push { cls := .type "tuple_iterator", data := .fields #[.ref a, .int 0 0] } } : Shared) = s2
  have I2 : Inv X pins σ H2 s2 := by rw [← hs2]; exact I1.kept (t' := s1.toks) fun b o e => Heap.get?_push_of_some _ e
  have T : Turn X.prog X.w X.K tg (Itt X.K a) [it] it (fun i h => h.IsTupleIter it a i) := turn_tuple a it
  have st2 : s2.heap.IsTupleIter it a 0 := by rw [← hs2, ← hit]; exact ⟨_, Heap.get?_push_size _ rfl, rfl, rfl⟩
  have f2 : ∀ b ∈ [it], FpOk X pins H2 b := fun b hb => by
    obtain rfl : b = it := by simpa using hb
    exact I1.fpOk (Nat.le_of_eq hit) (I1.hok.fresh (Nat.le_of_eq hit))
  refine wpAny_newObj_type (newEnv_comp ?_)
  generalize hD : s2.heap.objs.size = D
  have hDn : H2 D = none := I2.hok.fresh (Nat.le_of_eq hD)
  have itlt : it < s2.heap.objs.size := by obtain ⟨_, e, _⟩ := st2; exact Heap.lt_size e
  have itD : it ≠ D := by rw [← hD]; exact Nat.ne_of_lt itlt
  have bigD : (D == sysModules) = false := by
    have := I2.big
    rw [hD] at this
    exact beq_eq_false_iff_ne.mpr (Nat.ne_of_gt this)
  generalize hs3 : ({ s2 with heap := s2.heap.push { cls := .type "dict", data := .dict #[] } } : Shared) = s3
  have h3 : s3.heap = s2.heap.push { cls := .type "dict", data := .dict #[] } := by rw [← hs3]
  have I3 : Inv X pins σ H2 s3 := by
    rw [← hs3]
    exact I2.kept (t' := s2.toks) fun b o e => Heap.get?_push_of_some _ e
  have raw3 : RawD X.prog X.w s3.heap D [] := by
    rw [h3, ← hD]
    exact RawD.of (Heap.DictOfH.new s2.heap)
  have f3 : ∀ b ∈ [D, it], FpOk X pins H2 b ∧ b < s3.heap.objs.size := fun b hb => by
    have e' : b = D ∨ b = it := by simpa using hb
    rcases e' with e | e
    · subst e
      exact ⟨I2.fpOk (Nat.le_of_eq hD) hDn, by rw [h3, Heap.size_push, hD]; exact Nat.lt_succ_self _⟩
    · subst e
      exact ⟨f2 _ (by simp), by rw [h3, Heap.size_push]; exact Nat.lt_succ_of_lt itlt⟩
  have st3 : s3.heap.IsTupleIter it a 0 := st2.at fun o e => by rw [h3]; exact Heap.get?_push_of_some _ e
  have I4 := block_start I3 ok hN f3
  have pg := hg s3 H2 s3.heap.objs.size (cellsFrom (s3.heap.objs.size + 1) scope.names (cloFrom X.env.cells scope.names [])) [D, it]
  have pk := hk s3 H2 s3.heap.objs.size (cellsFrom (s3.heap.objs.size + 1) scope.names (cloFrom X.env.cells scope.names [])) [D, it]
  have pe := he s3 H2 s3.heap.objs.size (cellsFrom (s3.heap.objs.size + 1) scope.names (cloFrom X.env.cells scope.names [])) [D, it]
  show codeAny _ _ (.compStart (.DictComp kx vx [⟨tg, iter, [], 0⟩] scope pos) 0 (.ref it) (.ref D) (compEnvC scope (cellsFrom (s3.heap.objs.size + 1) scope.names (cloFrom X.env.cells scope.names [])) s3.heap.objs.size X.env)) (compPost (model X.prog X.w) X.A X.xe none Q (.ref D) s3.heap.objs.size) { s3 with heap := pushCells (s3.heap.push { cls := .type "dict", data := .dict #[] }) scope.names }
  generalize hce : compEnvC scope (cellsFrom (s3.heap.objs.size + 1) scope.names (cloFrom X.env.cells scope.names [])) s3.heap.objs.size X.env = ce at I4 pg pk pe ⊢
  have cL : ce.locals = s3.heap.objs.size := by subst hce; rfl
  generalize hs4 : ({ s3 with heap := pushCells (s3.heap.push { cls := .type "dict", data := .dict #[] }) scope.names } : Shared) = s4 at I4 ⊢
  have k34 : ∀ b o, s3.heap.get? b = some o → s4.heap.get? b = some o := fun b o e => by rw [← hs4]; exact pushCells_keeps _ _ _ _ (Heap.get?_push_of_some _ e)
  have st4 : s4.heap.IsTupleIter it a 0 := st3.at fun o e => k34 _ _ e
  have raw4 : RawD X.prog X.w s4.heap D [] := raw3.at fun o e => k34 _ _ e
  have hn2 : ∀ b ∈ [D, it], H2 b = none := fun b hb => (f3 b hb).1.1
  have stat : ∀ {σ' : L2.St} {s' : Shared}, Inv (X.blk s3 H2 scope ce [D, it]) [] σ' H2 s' → ∀ b ∈ [D, it], FpOk (X.blk s3 H2 scope ce [D, it]) [] H2 b := fun {σ' s'} I' b hb =>
    ⟨hn2 b hb, (I'.ok.exf b hb).1, I'.ok.exfs b hb, .inl hb, fun x c e => (I'.ok.exf b hb).2 x c e, fun p hp => absurd (show p ∈ ([] : List (Addr × Obj)) ++ [] from hp) (by simp)⟩
  have Keys : ∀ {pins' : List (Addr × Obj)} {σ' : L2.St} {s' : Shared} {ds : List (NestedKey × Addr × Value)}, Inv (X.blk s3 H2 scope ce [D, it]) pins' σ' H2 s' → (∀ x ∈ ds, Keyed X.K H2 x.1 x.2.1) → ∀ x ∈ ds, (nestedKind X.prog X.w).is s'.heap x.1 x.2.1 := fun {pins' σ' s' ds} I' hd x hx => Keyed.is (X := X.blk s3 H2 scope ce [D, it]) I' (hd x hx)
  have loop : codeAny (model X.prog X.w) X.A (.compLoop (.DictComp kx vx [⟨tg, iter, [], 0⟩] scope pos) 0 (.ref it) (.ref D) ce) (compPost (model X.prog X.w) X.A X.xe none Q (.ref D) s3.heap.objs.size) s4 := by
    refine compLoop_anyD (fun n s' => ∃ (i : Nat) (ds : List (NestedKey × Addr × Value)), Inv (X.blk s3 H2 scope ce [D, it]) [] (L2.wipe σ (own.map (·.2))) H2 s' ∧ s'.heap.IsTupleIter it a i ∧ RawD X.prog X.w s'.heap D ds ∧ ds.map (·.1) = ks.take i ∧ (∀ x ∈ ds, Keyed X.K H2 x.1 x.2.1) ∧ i ≤ xs.length ∧ n = xs.length - i) ?_ xs.length
      ⟨0, [], I4, st4, raw4, rfl, fun x hx => absurd hx (by simp), Nat.zero_le _, rfl⟩
    rintro n s5 ⟨i, ds, I5, st5, raw5, hds, hkd, hil', rfl⟩
    have I5p := I5.pinned (fp := [D]) (fun b hb => stat I5 b (by rw [show b = D by simpa using hb]; simp)) (fun b hb => by rw [show b = D by simpa using hb]; exact raw5.noCell)
    have statP : ∀ b ∈ [it], FpOk (X.blk s3 H2 scope ce [D, it]) ([] ++ pinsAt [D] s5.heap) H2 b := fun b hb => by
      obtain rfl : b = it := by simpa using hb
      obtain ⟨g0, g1, g2, g3, g4, _⟩ := stat I5 b (by simp)
      refine ⟨g0, g1, g2, g3, g4, fun p hp e => ?_⟩
      have hp : p ∈ pinsAt [D] s5.heap := by simpa using hp
      have := (of_pinsAt hp).1
      have : p.1 = D := by simpa using this
      exact itD (e.symm.trans this)
    have pinD : ∀ {pl : List (Addr × Obj)} {σ' : L2.St} {s' : Shared}, Inv (X.blk s3 H2 scope ce [D, it]) (([] ++ pinsAt [D] s5.heap) ++ pl) σ' H2 s' → RawD X.prog X.w s'.heap D ds := fun {pl σ' s'} I' =>
      raw5.at fun o e => (I'.pin (D, o) (List.mem_append_right _ (List.mem_append_left _ (List.mem_append_right _ (mem_pinsAt (by simp) e))))).1
    by_cases hlt : i < xs.length
    · have gx : xs[i]? = some xs[i] := List.getElem?_eq_getElem hlt
      have gk : ks[i]? = some ks[i] := List.getElem?_eq_getElem (by omega)
      obtain ⟨b, hb, hkb⟩ := hkeyed i _ gk
      have ti := T.item (X.blk s3 H2 scope ce [D, it]) rfl rfl rfl hc i ([] ++ pinsAt [D] s5.heap) s5 _ H2 (fun _ _ => False) I5p statP st5 ⟨xs, _, hsq, gx⟩
      refine thnF ti fun r s6 ⟨u, hr, h6⟩ => ?_
      subst hr
      refine thnF h6 fun _ s7 ⟨x, H7, I7, r7, ⟨e7, y7⟩, st7, n7⟩ => ?_
      subst e7
      have ex := y7 xs hsq
      rw [hb] at ex
      cases ex
      have I7' := I7.pinned (fp := [it]) statP (T.obj _ _ st7)
      refine thnF (pg.run _ s7 _ H7 (.ref b) u (fun (σ2 : L2.St) (H' : Hp) => σ2 = (L2.wipe σ (own.map (·.2))).set i0 (some (.ref b)) ∧ H' = H7) I7' r7 ⟨rfl, rfl⟩) fun _ s8 ⟨σ8, H8, I8, e8, e8'⟩ => ?_
      subst e8 e8'
      refine wpAny_pure ?_
      rw [if_pos rfl]
      have g8 : ((L2.wipe σ (own.map (·.2))).set i0 (some (V.ref b)))[i0]? = some (some (.ref b)) := by
        rw [List.getElem?_set_self]
        rw [wipe_length, I.len]
        exact hil
      refine thnF (pk.run _ s8 _ H8 (fun v H' => v = .ref b ∧ H' = H8) I8 ⟨_, g8, rfl, rfl⟩) fun z s10 ⟨yk, H10, I10, r10, ek, ek'⟩ => ?_
      subst ek ek'
      refine thnF (pe.run _ s10 _ H10 (fun v H' => H' = H10) I10 rfl) fun z2 s11 ⟨yv, H11, I11, r11, ev⟩ => ?_
      subst ev
      obtain rfl : z = Value.ref b := r10
      have raw11 := pinD I11
      have dict11 := raw11.dict (Keys I11 hkd)
      have hnot : ks[i] ∉ ds.map (·.1) := by
        rw [hds]
        intro hm
        obtain ⟨j, hj, hj'⟩ := List.mem_take_iff_getElem.mp hm
        have := (List.getElem_inj hknd).mp hj'
        omega
      have hdl : ds.length = i := by
        have := congrArg List.length hds
        rw [List.length_map, List.length_take] at this
        omega
      refine wpAny_dictSet_heap (hsz := by rw [hdl]; exact Nat.le_trans (Nat.le_of_lt hlt) hzl) (show X.A.units + 8 < cLine by omega) (Keyed.is (X := X.blk s3 H11 scope ce [D, it]) I11 hkb) dict11 fun h' dict' sb => ?_
      rw [storedH_new (atKey_none hnot)] at dict'
      have I12 := (I11.unpinned.unpinned (pins := [])).turnedL (h' := h') (t' := s11.toks + (nestedKind X.prog X.w).draws ks[i]) (ch := [D]) (fun c o hc' e => (sb.2 c (by simpa using hc')).trans e) (fun c hc' => stat (I11.unpinned.unpinned (pins := [])) c (by rw [show c = D by simpa using hc']; simp))
      refine ⟨xs.length - (i + 1), by omega, i + 1, ds ++ [(ks[i], b, z2)], ?_, ?_, RawD.of dict', ?_, ?_, hlt, rfl⟩
      · refine I12.weak (by rw [List.length_set]) fun j v e => ?_
        have hj : i0 ≠ j := fun z => by
          subst z
          exact (wipe_some e).2 hio
        rw [List.getElem?_set_ne hj]
        exact e
      · obtain ⟨oi, ei, _, _⟩ := id st7
        refine st7.at fun o e => ?_
        have := (I11.pin (it, o) (List.mem_append_right _ (List.mem_append_right _ (mem_pinsAt (by simp) e)))).1
        exact (sb.2 it itD).trans this
      · rw [List.map_append, hds, List.map_singleton, List.take_succ, gk]
        rfl
      · intro x hx
        rcases List.mem_append.mp hx with hx | hx
        · exact hkd x hx
        · obtain rfl : x = (ks[i], b, z2) := by simpa using hx
          exact hkb
    · have hi' : i = xs.length := by omega
      subst hi'
      have td := T.done (X.blk s3 H2 scope ce [D, it]) rfl rfl rfl hc xs.length ([] ++ pinsAt [D] s5.heap) s5 _ H2 (fun _ _ => False) I5p statP st5 ⟨xs, hsq, Nat.le_refl _⟩
      refine thnF td fun r s6 ⟨hr, I6⟩ => ?_
      subst hr
      have raw6 : RawD X.prog X.w s6.heap D ds := pinD (pl := []) (by rw [List.append_nil]; exact I6)
      have I6' := I6.unpinned (pins := [])
      have I7 : Inv X pins σ H2 s6 := I3.call' (ch := [D, it]) I6'.os I6'.base I6'.hok I6'.bare fun b hb => ⟨(f3 b hb).1.2.2.2.1, (f3 b hb).1.2.1, (f3 b hb).1.2.2.2.2.1, (f3 b hb).1.2.2.2.2.2⟩
      have nC : H2 s3.heap.objs.size = none := by
        have z : H2 ce.locals = none := I6'.free
        rw [cL] at z
        exact z
      obtain ⟨m, hn, _⟩ := I6'.loc
      have hn : s6.heap.Ns ce.locals m := hn
      rw [cL] at hn
      have fC := I3.fpOk (Nat.le_refl _) nC
      have DC : D ≠ s3.heap.objs.size := Nat.ne_of_lt (f3 D (by simp)).2
      refine ⟨m, hn, fun h'' sb => ?_⟩
      obtain ⟨g0, g1, g2, g3, g4, g5⟩ := fC
      have I8 := I7.turned (t' := s6.toks) (fun b o hb e => (sb.2 b hb).trans e) g0 g1 g3 g4 g5
      refine q D _ ds I8 bigD ((raw6.at fun o e => (sb.2 D DC).trans e).dict fun x hx => Keyed.is (X := X) I8 (hkd x hx)) ?_
      have := congrArg List.length hds
      rw [List.length_map, List.length_take] at this
      omega
  exact codeAny_compStart_dict loop (T.self X.A 0 _ _ _ st4 loop)
theorem keysOf_len : ∀ xs : List D, (keysOf xs).length = xs.length
  | [] => rfl
  | _ :: xs => by unfold keysOf; rw [List.length_cons, List.length_cons, keysOf_len xs]
theorem keysOf_get : ∀ {xs : List D} {j : Nat} {k : NestedKey}, (keysOf xs)[j]? = some k → ∃ d, xs[j]? = some d ∧ keyOf d = k
  | [], _, _, h => by unfold keysOf at h; simp at h
  | x :: xs, 0, k, h => by unfold keysOf at h; simp at h; exact ⟨x, rfl, h⟩
  | x :: xs, j + 1, k, h => by
    unfold keysOf at h
    obtain ⟨d, h1, h2⟩ := keysOf_get (xs := xs) (j := j) (by simpa using h)
    exact ⟨d, by simpa using h1, h2⟩
theorem u_dlen {t : Str} {kp cp tp fpos p pos : Pos} {ck : Nat} {it : Expr} {z : ZE} {scope : Scope} {i0 : Nat} (hc : X.calm = true) (hu : X.A.units + 100 < cLine) (hN : X.N.Nodup) (hgl : Gl X "len") (hml : X.mg "len" = none) (ok : BlkOk X.N X.env.scope scope [(t, i0)]) (hti : X.N[i0]? = some t)
    (htl : (relS scope X.env.scope).names.lookup t = some .local) (h1 : (t == ("__debug__" : Str)) = false) (h2 : (t == ("__classdict__" : Str)) = false) (hi : PE X it (up X.K z)) (hs : ∀ x, foldedSetIterable it X.env x = pure x) :
    PE X (.Call (.Name "len" fpos) [.DictComp (.Name t kp) (.Constant (.bool true) ck cp) [⟨.Name t tp, it, [], 0⟩] scope pos] [] p) (up X.K (zDlen z)) := by
  refine ⟨fun pins s σ H Q I ⟨s', M, q, R, w, hq⟩ => ?_⟩
  refine Call_ (ld_blt I hgl hml PySem.boot_len (PyProof.Rows.callWith_builtin1 ?_))
  refine Calls.spliced_cons ?_
  rw [arm_eval_DictComp]
  refine dn_core (own := [(t, i0)]) (i0 := i0) (te := up X.K z) (vc := .bl true) hc hu hN I hi ok (by simp) (List.getElem?_eq_some_iff.mp hti).1
    (fun s H C cl fp => pg_name hN hti (.inl htl) (.inr htl)) (fun s H C cl fp => pe_var hti (.inl htl) h1 h2) (fun s H C cl fp => pe_bl) hs ?_
  refine up_then R w fun d1 M1 v1 H1 e1 R1 r1 z1 => ?_
  cases d1 <;> first | exact False.elim z1 | skip
  rename_i xs
  obtain ⟨⟨l1, l2, l3⟩, z1⟩ := z1
  obtain ⟨pa, vs, rfl, st, rr⟩ := rep_tup r1
  refine ⟨pa, vs, keysOf xs, rfl, st.sq, by rw [keysOf_len, rr.length], l3, by rw [rr.length]; exact l1, fun j k hk => ?_, fun D s2 ds I2 hD hd hl => ?_⟩
  · obtain ⟨d, hd, rfl⟩ := keysOf_get hk
    obtain ⟨v, hv, rv⟩ := rr.get hd
    have hkt := List.all_eq_true.mp l2 d (List.mem_of_getElem? hd)
    unfold keyT at hkt
    rw [Bool.and_eq_true, Bool.and_eq_true, decide_eq_true_eq] at hkt
    cases d <;> first | exact Bool.noConfusion hkt.1.1 | skip
    obtain ⟨pb, us, rfl, st2, rr2⟩ := rep_tup rv
    exact ⟨pb, hv, M1, _, hkt.1.2, rfl, hkt.2, mk_tup st2 rr2⟩
  · refine Calls.spliced_nil ?_
    refine call_len_dictH hD hd (by rw [hl, rr.length]; omega) ?_
    refine ⟨.int (xs.length : Nat), H1, I2.tok _, ⟨_, by rw [hl, rr.length]⟩, hq _ _ _ _ e1 R1.heap mk_int z1⟩
end

/-! ### list(zip(a, b)) -/
section
variable {X : Cx}
theorem reps_zip {K : PySem.W.Frag} {M : Mh} {H0 H1 : Hp} (hk : ∀ c o, H0 c = some o → H1 c = some o) (hd : ∀ p, H0 p = none → M p = none) : ∀ {xs ys : List D} {vs us ws : List V}, Reps K H1 M xs us → Reps K H1 M ys ws → PairsOk H0 H1 vs us ws (min us.length ws.length) → Reps K H1 M (zipD xs ys) vs
  | [], ys, vs, us, ws, r1, r2, h => by
    have e := Reps.nil_iff.mp r1
    subst e
    have : vs = [] := List.eq_nil_of_length_eq_zero (by rw [h.1]; simp)
    subst this
    unfold zipD
    exact Reps.nil
  | x :: xs, [], vs, us, ws, r1, r2, h => by
    have e := Reps.nil_iff.mp r2
    subst e
    have : vs = [] := List.eq_nil_of_length_eq_zero (by rw [h.1]; simp)
    subst this
    unfold zipD
    exact Reps.nil
  | x :: xs, y :: ys, vs, us, ws, r1, r2, h => by
    obtain ⟨u, ur, rfl, q1, q2⟩ := r1.uncons
    obtain ⟨v, vr, rfl, q3, q4⟩ := r2.uncons
    obtain ⟨h0, h1⟩ := h
    have hm : min (u :: ur).length (v :: vr).length = min ur.length vr.length + 1 := by rw [List.length_cons, List.length_cons]; omega
    rw [hm] at h0 h1
    obtain ⟨T, x', y', e1, e2, e3, e4, e5⟩ := h1 0 (Nat.succ_pos _)
    cases vs with
    | nil => simp at e1
    | cons v0 vs =>
      simp only [List.getElem?_cons_zero, Option.some.injEq] at e1 e2 e3
      subst e1 e2 e3
      unfold zipD
      refine Reps.cons (mk_tup (.inl ⟨SqT.of e4, hd _ e5, by rw [e4]; simp⟩) (Reps.cons q1 (Reps.cons q3 Reps.nil))) (reps_zip hk hd q2 q4 ⟨by simpa using h0, fun j hj => ?_⟩)
      obtain ⟨T2, x2, y2, f1, f2, f3, f4, f5⟩ := h1 (j + 1) (by omega)
      exact ⟨T2, x2, y2, by simpa using f1, by simpa using f2, by simpa using f3, f4, f5⟩
theorem u_lzip {a b : Expr} {p p2 pos pos2 : Pos} {z z2 : ZE} (hc : X.calm = true) (hg : Gl X "list") (hm : X.mg "list" = none) (hg2 : Gl X "zip") (hm2 : X.mg "zip" = none) (hs : isStar a = false) (hs2 : isStar b = false) (ha : PE X a (up X.K z)) (hb : PE X b (up X.K z2)) :
    PE X (.Call (.Name "list" p) [.Call (.Name "zip" p2) [a, b] [] pos2] [] pos) (up X.K (zBin zLzip z z2)) :=
  PE.imp (pe_lzip hc hg hm hg2 hm2 hs hs2 (pa_cons ha (pa_cons hb pa_nil (star_no hs2)) (star_no hs))) fun σ H Q ⟨s, M, q, R, h, hq⟩ => up_then R h fun d1 M1 v1 H1 e1 R1 r1 z1 => up_then R1 z1 fun d2 M2 v2 H2 e2 R2 r2 z3 => by
    cases d1 <;> cases d2 <;> first | exact False.elim z3 | skip
    obtain ⟨p1, vs, rfl, s1, t1⟩ := rep_tup (Rep.ext e2 _ _ r1)
    obtain ⟨p2, ws, rfl, s2, t2⟩ := rep_tup r2
    refine ⟨p1, p2, vs, ws, rfl, s1.sq, s2.sq, fun S H' vs' hk hn hS hp => ?_⟩
    have ex : Ext M2 H2 M2 H' := ⟨fun c o e _ => hk c o e, fun c e _ => e⟩
    have hr' : HRel X.K M2 H' := fun c ds e => by
      obtain ⟨us, u1, u2⟩ := R2.heap c ds e
      exact ⟨us, hk _ _ u1, Reps.ext ex _ _ u2⟩
    exact hq _ _ _ _ ((e1.trans e2).trans ex) hr' (mk_lst (.inl ⟨SqL.of hS, HRel.nil R2.heap hn, by rw [hS]; simp⟩) (reps_zip hk (fun p hp => HRel.nil R2.heap hp) (Reps.ext ex _ _ t1) (Reps.ext ex _ _ t2) hp)) z3
end
end Zz
end
section
/-! Z11: the check is right: every expression's reading is right. -/
namespace Zz
open PySem PySem.Spec PyProof.Rows L2

theorem vis_of {c : Ctx} {X : Cx} {x : Str} (hs : X.env.scope = c.sc) (h : visB c x = true) : Vis X.env.scope x := by
  unfold visB at h
  simp only [Bool.or_eq_true, decide_eq_true_eq] at h
  unfold Vis
  rw [hs]
  rcases h with (h | h) | h
  · exact .inl h
  · exact .inr (.inl h)
  · exact .inr (.inr h)
theorem dbg_of {x : Str} (h : nodbg x = true) : (x == ("__debug__" : Str)) = false ∧ (x == ("__classdict__" : Str)) = false ∧ x ≠ "__name__" := by
  unfold nodbg at h
  simp only [Bool.and_eq_true] at h
  refine ⟨by simpa using h.1.1, by simpa using h.1.2, ?_⟩
  have := h.2
  intro e
  rw [e] at this
  revert this
  decide +kernel
theorem loc_of {c : Ctx} {X : Cx} {G : Ge} {x : Str} (F : Fit G c X) (h : locB c x = true) : L2.Loc X.env.scope x ∧ (X.fn x = true ∨ X.env.scope.names.lookup x = some .local) := by
  unfold locB at h
  simp only [Bool.or_eq_true, Bool.and_eq_true, decide_eq_true_eq] at h
  unfold L2.Loc
  rw [F.sc]
  rcases h with h | ⟨h, h2⟩
  · exact ⟨.inl h, .inr h⟩
  · exact ⟨.inr h, .inl (F.fn x h2)⟩
theorem blk_kind {N : List Str} {sc scope : Scope} {own : List (Str × Nat)} (h : BlkOk N sc scope own) : scope.kind = .function := h.kind
theorem isSet_fold {it : Expr} {env : Env} (h : isSet it = false) : ∀ x, foldedSetIterable it env x = pure x := by
  intro x
  cases it <;> first | exact Bool.noConfusion h | rfl
theorem hu65 {G : Ge} {c : Ctx} {X : Cx} (F : Fit G c X) : X.A.units + 65 < cLine := by have := F.units; omega

mutual
theorem sE (G : Ge) : ∀ (e : E) (c : Ctx) (X : Cx) (ex : Expr), Fit G c X → chkE c e ex = true → PE X ex (up X.K (rd G e).v) ∧ PT X ex (upT X.K (rd G e).t)
  | .var i, c, X, ex, F, h => by
    cases ex <;> first | exact Bool.noConfusion h | skip
    rename_i x p
    have h : (decide (c.N[i]? = some x) && visB c x && nodbg x) = true := h
    simp only [Bool.and_eq_true, decide_eq_true_eq] at h
    obtain ⟨⟨h1, h2⟩, h3⟩ := h
    obtain ⟨d1, d2, _⟩ := dbg_of h3
    exact both_ofV rfl (u_var (by rw [F.N]; exact h1) (vis_of F.sc h2) d1 d2)
  | .int i, c, X, ex, F, h => by
    cases ex <;> first | exact Bool.noConfusion h | skip
    rename_i v k p
    cases v <;> first | exact Bool.noConfusion h | skip
    have e := of_decide_eq_true h
    subst e
    exact both_ofV rfl (u_cst pe_int fun _ _ => mk_int)
  | .bl i, c, X, ex, F, h => by
    cases ex <;> first | exact Bool.noConfusion h | skip
    rename_i v k p
    cases v <;> first | exact Bool.noConfusion h | skip
    have e := of_decide_eq_true h
    subst e
    exact both_ofV rfl (u_cst pe_bl fun _ _ => mk_bl)
  | .non, c, X, ex, F, h => by
    cases ex <;> first | exact Bool.noConfusion h | skip
    rename_i v k p
    cases v <;> first | exact Bool.noConfusion h | skip
    exact both_ofV rfl (u_cst pe_non fun _ _ => mk_non)
  | .str i, c, X, ex, F, h => by
    cases ex <;> first | exact Bool.noConfusion h | skip
    rename_i v k p
    cases v <;> first | exact Bool.noConfusion h | skip
    have e := of_decide_eq_true h
    subst e
    exact both_ofV rfl (u_cst pe_str fun _ _ => mk_str)
  | .con i, c, X, ex, F, h => by
    cases ex <;> first | exact Bool.noConfusion h | skip
    rename_i x p
    have h : (decide (c.cns[i]? = some x) && glB c x && nodbg x) = true := h
    simp only [Bool.and_eq_true, decide_eq_true_eq] at h
    obtain ⟨⟨h1, h2⟩, h3⟩ := h
    obtain ⟨d1, d2, _⟩ := dbg_of h3
    obtain ⟨u, v, e1, e2, e3⟩ := F.cns i x h1
    exact both_ofV rfl (u_cst (pe_glob (glob_of F.sc h2) e1 e2 d1) e3)
  | .bin o a b, c, X, ex, F, h => by
    cases ex <;> first | exact Bool.noConfusion h | skip
    rename_i l op r p
    have h : (decide (op = opOf o) && chkE c a l && chkE c b r) = true := h
    simp only [Bool.and_eq_true, decide_eq_true_eq] at h
    obtain ⟨⟨rfl, h1⟩, h2⟩ := h
    exact both_ofV rfl (u_bin (sE G a c X l F h1).1 (sE G b c X r F h2).1)
  | .neg a, c, X, ex, F, h => by
    cases ex <;> first | exact Bool.noConfusion h | skip
    rename_i op x p
    cases op <;> first | exact Bool.noConfusion h | skip
    exact both_ofV rfl (u_neg (sE G a c X x F h).1)
  | .cmp o a b, c, X, ex, F, h => by
    cases ex <;> first | exact Bool.noConfusion h | skip
    rename_i l ops rs p
    rcases ops with _ | ⟨op, _ | ⟨op2, ops⟩⟩ <;> rcases rs with _ | ⟨r, _ | ⟨r2, rs⟩⟩ <;> first | exact Bool.noConfusion h | skip
    have h : (decide (op = coOf o) && !isSet r && chkE c a l && chkE c b r) = true := h
    simp only [Bool.and_eq_true, decide_eq_true_eq, Bool.not_eq_true'] at h
    obtain ⟨⟨⟨rfl, h0⟩, h1⟩, h2⟩ := h
    exact u_cmp (hu65 F) h0 (sE G a c X l F h1).1 (sE G b c X r F h2).1
  | .chain o o' a b d, c, X, ex, F, h => by
    cases ex <;> first | exact Bool.noConfusion h | skip
    rename_i l ops rs p
    rcases ops with _ | ⟨op, _ | ⟨op2, _ | ⟨op3, ops⟩⟩⟩ <;> rcases rs with _ | ⟨r, _ | ⟨r2, _ | ⟨r3, rs⟩⟩⟩ <;> first | exact Bool.noConfusion h | skip
    have h : (decide (op = coOf o) && decide (op2 = coOf o') && !isSet r && !isSet r2 && chkE c a l && chkE c b r && chkE c d r2) = true := h
    simp only [Bool.and_eq_true, decide_eq_true_eq, Bool.not_eq_true'] at h
    obtain ⟨⟨⟨⟨⟨⟨rfl, rfl⟩, h0⟩, h00⟩, h1⟩, h2⟩, h3⟩ := h
    exact u_chain (hu65 F) h0 h00 (sE G a c X l F h1).1 (sE G b c X r F h2).1 (sE G d c X r2 F h3).1
  | .andd a es, c, X, ex, F, h => by
    cases ex <;> first | exact Bool.noConfusion h | skip
    rename_i op xs p
    cases op <;> cases xs <;> first | exact Bool.noConfusion h | skip
    rename_i x xs
    have h : (chkE c a x && chkB c es xs) = true := h
    simp only [Bool.and_eq_true] at h
    have ha := sE G a c X x F h.1
    exact ⟨sAV G es c X xs F h.2 x _ ha.1 p, (sAT G es c X xs F h.2 x _ ha.2 p).pt⟩
  | .orr a es, c, X, ex, F, h => by
    cases ex <;> first | exact Bool.noConfusion h | skip
    rename_i op xs p
    cases op <;> cases xs <;> first | exact Bool.noConfusion h | skip
    rename_i x xs
    have h : (chkE c a x && chkB c es xs) = true := h
    simp only [Bool.and_eq_true] at h
    have ha := sE G a c X x F h.1
    exact ⟨sOV G es c X xs F h.2 x _ ha.1 p, (sOT G es c X xs F h.2 x _ ha.2 p).pt⟩
  | .nott a, c, X, ex, F, h => by
    cases ex <;> first | exact Bool.noConfusion h | skip
    rename_i op x p
    cases op <;> first | exact Bool.noConfusion h | skip
    have ha := sE G a c X x F h
    exact ⟨u_notV ha.1, u_notT ha.2⟩
  | .ite t a b, c, X, ex, F, h => by
    cases ex <;> first | exact Bool.noConfusion h | skip
    rename_i x y z p
    have h : (chkE c t x && chkE c a y && chkE c b z) = true := h
    simp only [Bool.and_eq_true] at h
    have ht := sE G t c X x F h.1.1
    have ha := sE G a c X y F h.1.2
    have hb := sE G b c X z F h.2
    exact ⟨u_ite ht.2 ha.1 hb.1, u_iteT ht.2 ha.2 hb.2⟩
  | .tup es, c, X, ex, F, h => by
    cases ex <;> first | exact Bool.noConfusion h | skip
    rename_i xs k p
    have h : (es.plain && decide (es.len ≤ 1000) && chkEs c es xs) = true := h
    simp only [Bool.and_eq_true, decide_eq_true_eq] at h
    exact both_ofV rfl (u_tup h.1.2 (sEsN G es c X xs F h.1.1 h.2))
  | .tupS es, c, X, ex, F, h => by
    cases ex <;> first | exact Bool.noConfusion h | skip
    rename_i xs k p
    exact both_ofV rfl (u_tupS (sEs G es c X xs F h))
  | .lst mu es, c, X, ex, F, h => by
    cases ex <;> first | exact Bool.noConfusion h | skip
    rename_i xs p
    have h : (es.plain && decide (es.len ≤ 1000) && chkEs c es xs) = true := h
    simp only [Bool.and_eq_true, decide_eq_true_eq] at h
    exact both_ofV rfl (u_lst h.1.2 (sEsN G es c X xs F h.1.1 h.2))
  | .sub a i, c, X, ex, F, h => by
    cases ex <;> first | exact Bool.noConfusion h | skip
    rename_i x y p
    have h : (!isSlice y && chkE c a x && chkE c i y) = true := h
    simp only [Bool.and_eq_true, Bool.not_eq_true'] at h
    exact both_ofV rfl (u_sub h.1.1 (sE G a c X x F h.1.2).1 (sE G i c X y F h.2).1)
  | .slice a lo hi, c, X, ex, F, h => by
    cases ex <;> first | exact Bool.noConfusion h | skip
    rename_i x y p
    cases y <;> first | exact Bool.noConfusion h | skip
    rename_i l u st p2
    cases st <;> first | exact Bool.noConfusion h | skip
    have h : (chkE c a x && chkO c lo l && chkO c hi u) = true := h
    simp only [Bool.and_eq_true] at h
    exact both_ofV rfl (u_slice (sE G a c X x F h.1.1).1 (sO G lo c X l F h.1.2) (sO G hi c X u F h.2))
  | .call f es ks, c, X, ex, F, h => by
    cases ex <;> first | exact Bool.noConfusion h | skip
    rename_i fx args kws p
    cases fx <;> first | exact Bool.noConfusion h | skip
    rename_i x px
    have h : (match c.fns[f]? with
      | some fi => decide (fi.name = x) && glB c x && nodbg x && es.plain && chkEs c es args && ((decide (kws.length = 0) && decide (ks.len = 0) && decide (es.len = fi.ps.length)) ||
          (fi.kw && decide (es.len = 0) && decide (args.length = 0) && ks.plain && decide (ks.len = fi.ps.length) && chkK c ks kws fi.ps))
      | none => false) = true := h
    cases hf : c.fns[f]? with
    | none => rw [hf] at h; exact Bool.noConfusion h
    | some fi =>
      rw [hf] at h
      simp only [Bool.and_eq_true, Bool.or_eq_true, decide_eq_true_eq] at h
      obtain ⟨⟨⟨⟨⟨rfl, h1⟩, h2⟩, h3⟩, h4⟩, h5⟩ := h
      obtain ⟨d1, _, _⟩ := dbg_of h2
      have cb := F.fns f fi hf
      have gg := glob_of F.sc h1
      rcases h5 with ⟨⟨k1, k2⟩, k3⟩ | ⟨⟨⟨⟨⟨k1, k2⟩, k3⟩, k4⟩, k5⟩, k6⟩
      · have e1 : kws = [] := List.eq_nil_of_length_eq_zero k1
        subst e1
        cases ks with
        | cons _ _ _ => exact absurd k2 (Nat.succ_ne_zero _)
        | nil =>
          have hp := plain_of es args h3 h4
          cases args with
          | nil =>
            cases es with
            | nil => exact both_ofV rfl (u_call0 cb F.guards gg d1 k3.symm)
            | cons s e r => exact absurd hp.2 (by intro z; exact absurd z.symm (Nat.succ_ne_zero _))
          | cons y ys => exact both_ofV rfl (u_call1 cb F.guards gg d1 hp.1 (by rw [← k3]; exact sEsN G es c X (y :: ys) F h3 h4))
      · have e1 : args = [] := List.eq_nil_of_length_eq_zero k3
        subst e1
        cases es with
        | cons _ _ _ => exact absurd k2 (Nat.succ_ne_zero _)
        | nil => exact both_ofV rfl (u_callK cb F.guards gg d1 k1 (fun pos => kw_names ks kws fi.ps k6) (by rw [← k5]; exact sK G ks c X kws fi.ps F k6))
  | .bi b es, c, X, ex, F, h => by
    cases ex <;> first | exact Bool.noConfusion h | skip
    rename_i fx args kws p
    cases fx <;> cases kws <;> first | exact Bool.noConfusion h | skip
    rename_i x px
    have h : (decide (x = biName b) && glB c x && es.plain && decide (0 < es.len) && chkEs c es args) = true := h
    simp only [Bool.and_eq_true, decide_eq_true_eq] at h
    obtain ⟨⟨⟨⟨rfl, h1⟩, h2⟩, h3⟩, h4⟩ := h
    have hp := plain_of es args h2 h4
    exact both_ofV rfl (u_bi F.calm F.guards (by have := F.units; omega) F.bn (glob_of F.sc h1) hp.1 (by intro e; rw [e] at hp; have := hp.2; simp at this; omega) (sEs G es c X args F h4))
  | .isi a T, c, X, ex, F, h => by
    cases ex <;> first | exact Bool.noConfusion h | skip
    rename_i fx args kws p
    cases fx <;> first | exact Bool.noConfusion h | skip
    rename_i x px
    rcases args with _ | ⟨v, _ | ⟨w, args⟩⟩ <;> first | exact Bool.noConfusion h | skip
    cases w <;> first | exact Bool.noConfusion h | skip
    rename_i y py
    cases args <;> cases kws <;> first | exact Bool.noConfusion h | skip
    have h : (decide (x = "isinstance") && glB c x && decide (y = Str.ofString (tyName T)) && glB c y && !isStar v && chkE c a v) = true := h
    simp only [Bool.and_eq_true, decide_eq_true_eq, Bool.not_eq_true'] at h
    obtain ⟨⟨⟨⟨⟨rfl, h1⟩, rfl⟩, h2⟩, h3⟩, h4⟩ := h
    exact both_ofV rfl (u_isi F.bn (glob_of F.sc h1) (glob_of F.sc h2) h3 (sE G a c X v F h4).1)
  | .bits a, c, X, ex, F, h => by
    cases ex <;> first | exact Bool.noConfusion h | skip
    rename_i fx args kws p
    cases fx <;> cases kws <;> cases args <;> first | exact Bool.noConfusion h | skip
    rename_i o m ap
    have h : (decide (m = "bit_length") && !isCall o && (ap.endLine == p.line) && chkE c a o) = true := h
    simp only [Bool.and_eq_true, decide_eq_true_eq, Bool.not_eq_true'] at h
    obtain ⟨⟨⟨rfl, h1⟩, h2⟩, h3⟩ := h
    exact both_ofV rfl (u_bits h1 h2 (sE G a c X o F h3).1)
  | .index o a, c, X, ex, F, h => by
    cases ex <;> first | exact Bool.noConfusion h | skip
    rename_i fx args kws p
    cases fx <;> first | exact Bool.noConfusion h | skip
    rename_i x m ap
    rcases args with _ | ⟨y, _ | ⟨w2, args⟩⟩ <;> cases kws <;> first | exact Bool.noConfusion h | skip
    have h : (decide (m = "index") && !isCall x && !isStar y && (ap.endLine == p.line) && chkE c o x && chkE c a y) = true := h
    simp only [Bool.and_eq_true, decide_eq_true_eq, Bool.not_eq_true'] at h
    obtain ⟨⟨⟨⟨⟨rfl, h1⟩, h2⟩, h3⟩, h4⟩, h5⟩ := h
    exact both_ofV rfl (u_index (hu65 F) h1 h2 h3 (sE G o c X x F h4).1 (sE G a c X y F h5).1)
  | .app o a, c, X, ex, F, h => by
    cases ex <;> first | exact Bool.noConfusion h | skip
    rename_i fx args kws p
    cases fx <;> first | exact Bool.noConfusion h | skip
    rename_i x m ap
    rcases args with _ | ⟨y, _ | ⟨w2, args⟩⟩ <;> cases kws <;> first | exact Bool.noConfusion h | skip
    have h : (decide (m = "append") && !isCall x && !isStar y && (ap.endLine == p.line) && chkE c o x && chkE c a y) = true := h
    simp only [Bool.and_eq_true, decide_eq_true_eq, Bool.not_eq_true'] at h
    obtain ⟨⟨⟨⟨⟨rfl, h1⟩, h2⟩, h3⟩, h4⟩, h5⟩ := h
    exact both_ofV rfl (u_app h1 h2 h3 (sE G o c X x F h4).1 (sE G a c X y F h5).1)
  | .pop o, c, X, ex, F, h => by
    cases ex <;> first | exact Bool.noConfusion h | skip
    rename_i fx args kws p
    cases fx <;> cases kws <;> cases args <;> first | exact Bool.noConfusion h | skip
    rename_i x m ap
    have h : (decide (m = "pop") && !isCall x && (ap.endLine == p.line) && chkE c o x) = true := h
    simp only [Bool.and_eq_true, decide_eq_true_eq, Bool.not_eq_true'] at h
    obtain ⟨⟨⟨rfl, h1⟩, h2⟩, h3⟩ := h
    exact both_ofV rfl (u_pop h1 h2 (sE G o c X x F h3).1)
  | .lrange es, c, X, ex, F, h => by
    cases ex <;> first | exact Bool.noConfusion h | skip
    rename_i fx args kws p
    cases fx <;> first | exact Bool.noConfusion h | skip
    rename_i x px
    rcases args with _ | ⟨y, more⟩ <;> first | exact Bool.noConfusion h | skip
    cases y <;> first | exact Bool.noConfusion h | skip
    rename_i fy args ky p2
    cases fy <;> first | exact Bool.noConfusion h | skip
    rename_i y py
    cases ky <;> cases more <;> cases kws <;> first | exact Bool.noConfusion h | skip
    have h : (decide (x = "list") && glB c x && decide (y = "range") && glB c y && es.plain && decide (es.len ≤ 2) && decide (0 < es.len) && chkEs c es args) = true := h
    simp only [Bool.and_eq_true, decide_eq_true_eq] at h
    obtain ⟨⟨⟨⟨⟨⟨⟨rfl, h1⟩, rfl⟩, h2⟩, h3⟩, q1⟩, q2⟩, h4⟩ := h
    have hp := plain_of es args h3 h4
    have gx := glob_of F.sc h1
    have gy := glob_of F.sc h2
    refine both_ofV rfl ?_
    match es, args, h3, h4, q1, q2 with
    | .cons false e .nil, [a], _, h4, _, _ =>
      have h4 : (!isStar a && chkE c e a && true) = true := h4
      simp only [Bool.and_eq_true, Bool.not_eq_true'] at h4
      exact u_lrange1 F.calm F.bn gx gy h4.1.1 (sE G e c X a F h4.1.2).1
    | .cons false e (.cons false e2 .nil), [a, b], _, h4, _, _ =>
      have h4 : (!isStar a && chkE c e a && (!isStar b && chkE c e2 b && true)) = true := h4
      simp only [Bool.and_eq_true, Bool.not_eq_true'] at h4
      exact u_lrange2 F.calm F.bn gx gy h4.1.1 h4.2.1.1 (sE G e c X a F h4.1.2).1 (sE G e2 c X b F h4.2.1.2).1
    | .nil, _, _, _, _, q2 => exact absurd q2 (Nat.lt_irrefl _)
    | .cons true _ _, _, h3, _, _, _ => exact Bool.noConfusion h3
    | .cons false _ (.cons true _ _), _, h3, _, _, _ => exact Bool.noConfusion h3
    | .cons false _ .nil, [], _, h4, _, _ => exact Bool.noConfusion h4
    | .cons false e .nil, a :: b :: _, _, h4, _, _ => exact absurd h4 (by intro z; have z : (!isStar a && chkE c e a && false) = true := z; simp at z)
    | .cons false _ (.cons false _ .nil), [], _, h4, _, _ => exact Bool.noConfusion h4
    | .cons false e (.cons false _ .nil), [a], _, h4, _, _ => exact absurd h4 (by intro z; have z : (!isStar a && chkE c e a && false) = true := z; simp at z)
    | .cons false e (.cons false e2 .nil), a :: b :: d :: _, _, h4, _, _ => exact absurd h4 (by intro z; have z : (!isStar a && chkE c e a && (!isStar b && chkE c e2 b && false)) = true := z; simp at z)
    | .cons false _ (.cons false _ (.cons _ _ es)), _, _, _, q1, _ => exact absurd q1 (by show ¬ (es.len + 1 + 1 + 1 ≤ 2); omega)
  | .lzip a b, c, X, ex, F, h => by
    cases ex <;> first | exact Bool.noConfusion h | skip
    rename_i fx args kws p
    cases fx <;> first | exact Bool.noConfusion h | skip
    rename_i x px
    rcases args with _ | ⟨y, more⟩ <;> first | exact Bool.noConfusion h | skip
    cases y <;> first | exact Bool.noConfusion h | skip
    rename_i fy args ky p2
    cases fy <;> first | exact Bool.noConfusion h | skip
    rename_i y py
    rcases args with _ | ⟨u, _ | ⟨v, _ | ⟨w, ar⟩⟩⟩ <;> cases ky <;> cases more <;> cases kws <;> first | exact Bool.noConfusion h | skip
    have h : (decide (x = "list") && glB c x && decide (y = "zip") && glB c y && !isStar u && !isStar v && chkE c a u && chkE c b v) = true := h
    simp only [Bool.and_eq_true, decide_eq_true_eq, Bool.not_eq_true'] at h
    obtain ⟨⟨⟨⟨⟨⟨⟨rfl, h1⟩, rfl⟩, h2⟩, h3⟩, h4⟩, h5⟩, h6⟩ := h
    exact both_ofV rfl (u_lzip F.calm (glob_of F.sc h1) (F.bn _ (by decide +kernel)) (glob_of F.sc h2) (F.bn _ (by decide +kernel)) h3 h4 (sE G a c X u F h5).1 (sE G b c X v F h6).1)
  | .comp mu own tg src cs elt, c, X, ex, F, h => by
    cases ex <;> first | exact Bool.noConfusion h | skip
    rename_i el gens scope p
    rcases gens with _ | ⟨⟨t, it, ifs, asy⟩, more⟩ <;> first | exact Bool.noConfusion h | skip
    by_cases ha : asy = 0
    · subst ha
      cases more <;> first | exact Bool.noConfusion h | skip
      have h : (blkC c.N c.sc scope own && (tgIx tg).all (fun i => own.any fun p => p.2 == i) && !isSet it && chkG (c.blk scope) tg t && chkI c src it t && cs.plain && chkIf (c.blk scope) cs ifs && chkE (c.blk scope) elt el) = true := h
      simp only [Bool.and_eq_true, Bool.not_eq_true'] at h
      obtain ⟨⟨⟨⟨⟨⟨⟨h1, h2⟩, h3⟩, h4⟩, h5⟩, h6⟩, h7⟩, h8⟩ := h
      have ok := blkOk_by h1
      have FB := fun s H C cl fp => F.blk (blk_kind ok) s H C cl fp
      have tI := sI G src c X it t F h5
      have tG : ∀ (s : Shared) (H : Hp) (C : Addr) (cl : List (Str × Addr)) (fp : List Addr), PG (X.blk s H scope (compEnvC scope cl C X.env) fp) t (upG X.K (tgIx tg) (rdg G tg)) := fun s H C cl fp => sG G tg (c.blk scope) _ t (FB s H C cl fp) h4
      have tC : ∀ (s : Shared) (H : Hp) (C : Addr) (cl : List (Str × Addr)) (fp : List Addr), PTs (X.blk s H scope (compEnvC scope cl C X.env) fp) ifs (upT X.K (rdc G cs)) := fun s H C cl fp => sIf G cs (c.blk scope) _ ifs (FB s H C cl fp) h7
      have tE : ∀ (s : Shared) (H : Hp) (C : Addr) (cl : List (Str × Addr)) (fp : List Addr), PE (X.blk s H scope (compEnvC scope cl C X.env) fp) el (up X.K (rd G elt).v) := fun s H C cl fp => (sE G elt (c.blk scope) _ el (FB s H C cl fp) h8).1
      have nd : X.N.Nodup := by rw [F.N]; exact F.nd
      have ok2 : BlkOk X.N X.env.scope scope own := by rw [F.N, F.sc]; exact ok
      refine both_ofV rfl (PE.imp (pe_lc F.calm nd tI ok2 tG tC tE (isSet_fold h3)) fun σ H Q w => ?_)
      refine u_comp F.calm nd tI ok2 (fun i hi => ?_) tG tC tE σ H Q w
      have := List.all_eq_true.mp h2 i hi
      obtain ⟨p, hp, e⟩ := List.any_eq_true.mp this
      exact List.mem_map.mpr ⟨p, hp, by simpa using e⟩
    · exact absurd h (by simp [chkE, ha])
  | .dlen own i x, c, X, ex, F, h => by
    cases ex <;> first | exact Bool.noConfusion h | skip
    rename_i fx args kws p
    cases fx <;> first | exact Bool.noConfusion h | skip
    rename_i f px
    rcases args with _ | ⟨y, more⟩ <;> first | exact Bool.noConfusion h | skip
    cases y <;> first | exact Bool.noConfusion h | skip
    rename_i kx vx gens scope p2
    cases kx <;> first | exact Bool.noConfusion h | skip
    rename_i k kp
    cases vx <;> first | exact Bool.noConfusion h | skip
    rename_i cv ck cp
    cases cv <;> first | exact Bool.noConfusion h | skip
    rename_i bv
    cases bv <;> first | exact Bool.noConfusion h | skip
    rcases gens with _ | ⟨⟨t, it, ifs, asy⟩, mg⟩ <;> first | exact Bool.noConfusion h | skip
    cases t <;> first | exact Bool.noConfusion h | skip
    rename_i t tp
    by_cases ha : asy = 0
    · subst ha
      cases ifs <;> cases mg <;> cases more <;> cases kws <;> first | exact Bool.noConfusion h | skip
      have h : (decide (f = "len") && glB c f && blkC c.N c.sc scope own && decide (k = t) && decide (own = [(t, i)]) && decide (c.N[i]? = some t) && decide ((relS scope c.sc).names.lookup t = some .local) && nodbg t && !isSet it && chkE c x it) = true := h
      simp only [Bool.and_eq_true, decide_eq_true_eq, Bool.not_eq_true'] at h
      obtain ⟨⟨⟨⟨⟨⟨⟨⟨⟨rfl, h1⟩, h2⟩, rfl⟩, rfl⟩, h3⟩, h4⟩, h5⟩, h6⟩, h7⟩ := h
      have ok2 : BlkOk X.N X.env.scope scope [(k, i)] := by rw [F.N, F.sc]; exact blkOk_by h2
      obtain ⟨d1, d2, _⟩ := dbg_of h5
      exact both_ofV rfl (u_dlen F.calm F.units (by rw [F.N]; exact F.nd) (glob_of F.sc h1) (F.bn _ (by decide +kernel)) ok2 (by rw [F.N]; exact h3) (by rw [F.sc]; exact h4) d1 d2 (sE G x c X it F h7).1 (isSet_fold h6))
    · exact absurd h (by simp [chkE, ha])
theorem sAV (G : Ge) : ∀ (es : Es) (c : Ctx) (X : Cx) (xs : List Expr), Fit G c X → chkB c es xs = true → ∀ (x : Expr) (za : ZE), PE X x (up X.K za) → ∀ p, PE X (.BoolOp .And (x :: xs) p) (up X.K (rdAV G za es))
  | .nil, c, X, [], F, h, x, za, ha, p => pe_one ha
  | .nil, c, X, _ :: _, F, h, x, za, ha, p => Bool.noConfusion h
  | .cons _ e es, c, X, [], F, h, x, za, ha, p => Bool.noConfusion h
  | .cons s e es, c, X, y :: ys, F, h, x, za, ha, p => by
    have h : (chkE c e y && chkB c es ys) = true := h
    simp only [Bool.and_eq_true] at h
    exact PE.imp (pe_and ha (sAV G es c X ys F h.2 y _ (sE G e c X y F h.1).1 p)) fun σ H Q w => imp_andV w
theorem sOV (G : Ge) : ∀ (es : Es) (c : Ctx) (X : Cx) (xs : List Expr), Fit G c X → chkB c es xs = true → ∀ (x : Expr) (za : ZE), PE X x (up X.K za) → ∀ p, PE X (.BoolOp .Or (x :: xs) p) (up X.K (rdOV G za es))
  | .nil, c, X, [], F, h, x, za, ha, p => pe_one ha
  | .nil, c, X, _ :: _, F, h, x, za, ha, p => Bool.noConfusion h
  | .cons _ e es, c, X, [], F, h, x, za, ha, p => Bool.noConfusion h
  | .cons s e es, c, X, y :: ys, F, h, x, za, ha, p => by
    have h : (chkE c e y && chkB c es ys) = true := h
    simp only [Bool.and_eq_true] at h
    exact PE.imp (pe_or ha (sOV G es c X ys F h.2 y _ (sE G e c X y F h.1).1 p)) fun σ H Q w => imp_orV w
theorem sAT (G : Ge) : ∀ (es : Es) (c : Ctx) (X : Cx) (xs : List Expr), Fit G c X → chkB c es xs = true → ∀ (x : Expr) (za : ZT), PT X x (upT X.K za) → ∀ p, PW X (.BoolOp .And (x :: xs) p) (upT X.K (rdAT G za es))
  | .nil, c, X, [], F, h, x, za, ha, p => pw_and1 ha
  | .nil, c, X, _ :: _, F, h, x, za, ha, p => Bool.noConfusion h
  | .cons _ e es, c, X, [], F, h, x, za, ha, p => Bool.noConfusion h
  | .cons s e es, c, X, y :: ys, F, h, x, za, ha, p => by
    have h : (chkE c e y && chkB c es ys) = true := h
    simp only [Bool.and_eq_true] at h
    have w := pw_and ha (sAT G es c X ys F h.2 y _ (sE G e c X y F h.1).2 p)
    exact ⟨fun wh pins s σ H Q I z => w.run wh pins s σ H Q I (imp_andT z)⟩
theorem sOT (G : Ge) : ∀ (es : Es) (c : Ctx) (X : Cx) (xs : List Expr), Fit G c X → chkB c es xs = true → ∀ (x : Expr) (za : ZT), PT X x (upT X.K za) → ∀ p, PW X (.BoolOp .Or (x :: xs) p) (upT X.K (rdOT G za es))
  | .nil, c, X, [], F, h, x, za, ha, p => pw_or1 ha
  | .nil, c, X, _ :: _, F, h, x, za, ha, p => Bool.noConfusion h
  | .cons _ e es, c, X, [], F, h, x, za, ha, p => Bool.noConfusion h
  | .cons s e es, c, X, y :: ys, F, h, x, za, ha, p => by
    have h : (chkE c e y && chkB c es ys) = true := h
    simp only [Bool.and_eq_true] at h
    have w := pw_or ha (sOT G es c X ys F h.2 y _ (sE G e c X y F h.1).2 p)
    exact ⟨fun wh pins s σ H Q I z => w.run wh pins s σ H Q I (imp_orT z)⟩
theorem sEs (G : Ge) : ∀ (es : Es) (c : Ctx) (X : Cx) (xs : List Expr), Fit G c X → chkEs c es xs = true → PA X xs (upA X.K (rds G es))
  | .nil, c, X, [], F, h => a_nil
  | .nil, c, X, _ :: _, F, h => Bool.noConfusion h
  | .cons false e es, c, X, [], F, h => Bool.noConfusion h
  | .cons true e es, c, X, [], F, h => Bool.noConfusion h
  | .cons false e es, c, X, y :: ys, F, h => by
    have h : (!isStar y && chkE c e y && chkEs c es ys) = true := h
    simp only [Bool.and_eq_true, Bool.not_eq_true'] at h
    exact a_cons h.1.1 (sE G e c X y F h.1.2).1 (sEs G es c X ys F h.2)
  | .cons true e es, c, X, y :: ys, F, h => by
    cases y <;> first | exact Bool.noConfusion h | skip
    rename_i y p
    have h : (chkE c e y && chkEs c es ys) = true := h
    simp only [Bool.and_eq_true] at h
    exact a_star (sE G e c X y F h.1).1 (sEs G es c X ys F h.2)
theorem sEsN (G : Ge) : ∀ (es : Es) (c : Ctx) (X : Cx) (xs : List Expr), Fit G c X → es.plain = true → chkEs c es xs = true → PA X xs (upN X.K es.len (rds G es))
  | .nil, c, X, [], F, hp, h => n_nil
  | .nil, c, X, _ :: _, F, hp, h => Bool.noConfusion h
  | .cons false e es, c, X, [], F, hp, h => Bool.noConfusion h
  | .cons true e es, c, X, _, F, hp, h => Bool.noConfusion hp
  | .cons false e es, c, X, y :: ys, F, hp, h => by
    have h : (!isStar y && chkE c e y && chkEs c es ys) = true := h
    simp only [Bool.and_eq_true, Bool.not_eq_true'] at h
    have hp : (!false && es.plain) = true := hp
    exact n_cons h.1.1 (sE G e c X y F h.1.2).1 (sEsN G es c X ys F (by simpa using hp) h.2)
theorem sK (G : Ge) : ∀ (es : Es) (c : Ctx) (X : Cx) (kws : List Keyword) (ps : List Str), Fit G c X → chkK c es kws ps = true → PK X kws (upN X.K es.len (rds G es))
  | .nil, c, X, [], [], F, h => k_nil
  | .nil, c, X, _ :: _, _, F, h => Bool.noConfusion h
  | .nil, c, X, [], _ :: _, F, h => Bool.noConfusion h
  | .cons true _ _, _, _, _, _, F, h => Bool.noConfusion h
  | .cons false _ _, _, _, [], _, F, h => Bool.noConfusion h
  | .cons false _ _, _, _, ⟨none, _, _⟩ :: _, _, F, h => Bool.noConfusion h
  | .cons false _ _, _, _, ⟨some _, _, _⟩ :: _, [], F, h => Bool.noConfusion h
  | .cons false e es, c, X, ⟨some n, x, kp⟩ :: xs, q :: ps, F, h => by
    have h : (decide (n = q) && chkE c e x && chkK c es xs ps) = true := h
    simp only [Bool.and_eq_true] at h
    exact k_cons (sE G e c X x F h.1.2).1 (sK G es c X xs ps F h.2)
theorem sIf (G : Ge) : ∀ (es : Es) (c : Ctx) (X : Cx) (xs : List Expr), Fit G c X → chkIf c es xs = true → PTs X xs (upT X.K (rdc G es))
  | .nil, c, X, [], F, h => ⟨fun pins s σ H Q I ⟨s', M, q, R, w, hq⟩ => pts_nil.run pins s σ H Q I (hq _ _ _ Ext.refl R.heap w)⟩
  | .nil, c, X, _ :: _, F, h => Bool.noConfusion h
  | .cons _ e .nil, c, X, [], F, h => Bool.noConfusion h
  | .cons _ e .nil, c, X, _ :: _ :: _, F, h => Bool.noConfusion h
  | .cons _ e (.cons _ _ _), c, X, _, F, h => Bool.noConfusion h
  | .cons _ e .nil, c, X, [y], F, h => pts_one (sE G e c X y F h).2
theorem sO (G : Ge) : ∀ (o : Oe) (c : Ctx) (X : Cx) (x : Option Expr), Fit G c X → chkO c o x = true → PZ X x (rdo G o)
  | .none, c, X, none, F, h => o_none
  | .none, c, X, some _, F, h => Bool.noConfusion h
  | .some e, c, X, none, F, h => Bool.noConfusion h
  | .some e, c, X, some x, F, h => o_some (sE G e c X x F h).1
theorem sG (G : Ge) : ∀ (t : Tg) (c : Ctx) (X : Cx) (x : Expr), Fit G c X → chkG c t x = true → PG X x (upG X.K (tgIx t) (rdg G t))
  | .name i, c, X, ex, F, h => by
    cases ex <;> first | exact Bool.noConfusion h | skip
    rename_i x p
    have h : (decide (c.N[i]? = some x) && locB c x) = true := h
    simp only [Bool.and_eq_true, decide_eq_true_eq] at h
    obtain ⟨l1, l2⟩ := loc_of F h.2
    exact g_name (by rw [F.N]; exact F.nd) (by rw [F.N]; exact h.1) l1 l2
  | .tup ts, c, X, ex, F, h => by
    cases ex <;> first | exact Bool.noConfusion h | skip
    rename_i xs k p
    obtain ⟨i1, i2, i3⟩ := sGs G ts c X xs F h
    exact g_tup F.calm i2 i3 i1
  | .item o i, c, X, ex, F, h => by
    cases ex <;> first | exact Bool.noConfusion h | skip
    rename_i x y p
    have h : (!isSlice y && chkE c o x && chkE c i y) = true := h
    simp only [Bool.and_eq_true, Bool.not_eq_true'] at h
    exact g_item h.1.1 (sE G o c X x F h.1.2).1 (sE G i c X y F h.2).1
theorem sGs (G : Ge) : ∀ (ts : Tgs) (c : Ctx) (X : Cx) (xs : List Expr), Fit G c X → chkGs c ts xs = true → PGs X xs (upGs X.K (tgIx.tgsIx ts) (rdgs G ts)) ∧ plainX xs = true ∧ xs.length = ts.len
  | .nil, c, X, [], F, h => ⟨gs_nil, rfl, rfl⟩
  | .nil, c, X, _ :: _, F, h => Bool.noConfusion h
  | .cons t ts, c, X, [], F, h => Bool.noConfusion h
  | .cons t ts, c, X, y :: ys, F, h => by
    have h : (!isStar y && chkG c t y && chkGs c ts ys) = true := h
    simp only [Bool.and_eq_true, Bool.not_eq_true'] at h
    obtain ⟨i1, i2, i3⟩ := sGs G ts c X ys F h.2
    refine ⟨gs_cons h.1.1 (sG G t c X y F h.1.2) i1, ?_, ?_⟩
    · unfold plainX; rw [h.1.1, i2]; rfl
    · rw [List.length_cons, i3]; rfl
theorem sI (G : Ge) : ∀ (r : Src) (c : Ctx) (X : Cx) (it t : Expr), Fit G c X → chkI c r it t = true → PI X t it (upI X.K (rdi G r))
  | .seq e, c, X, it, t, F, h => i_seq (sE G e c X it F h).1
  | .range es, c, X, it, t, F, h => by
    cases it <;> first | exact Bool.noConfusion h | skip
    rename_i fy args ky p2
    cases fy <;> cases ky <;> first | exact Bool.noConfusion h | skip
    rename_i y py
    have h : (decide (y = "range") && glB c y && es.plain && decide (es.len ≤ 2) && decide (0 < es.len) && chkEs c es args) = true := h
    simp only [Bool.and_eq_true, decide_eq_true_eq] at h
    obtain ⟨⟨⟨⟨⟨rfl, h2⟩, h3⟩, q1⟩, q2⟩, h4⟩ := h
    have hp := plain_of es args h3 h4
    have gy := glob_of F.sc h2
    have mr : X.mg "range" = none := F.bn _ (by decide +kernel)
    match es, args, h3, h4, q1, q2 with
    | .cons false e .nil, [a], _, h4, _, _ =>
      have h4 : (!isStar a && chkE c e a && true) = true := h4
      simp only [Bool.and_eq_true, Bool.not_eq_true'] at h4
      exact i_rng1 gy mr h4.1.1 (sE G e c X a F h4.1.2).1
    | .cons false e (.cons false e2 .nil), [a, b], _, h4, _, _ =>
      have h4 : (!isStar a && chkE c e a && (!isStar b && chkE c e2 b && true)) = true := h4
      simp only [Bool.and_eq_true, Bool.not_eq_true'] at h4
      exact i_rng2 gy mr h4.1.1 h4.2.1.1 (sE G e c X a F h4.1.2).1 (sE G e2 c X b F h4.2.1.2).1
    | .nil, _, _, _, _, q2 => exact absurd q2 (Nat.lt_irrefl _)
    | .cons true _ _, _, h3, _, _, _ => exact Bool.noConfusion h3
    | .cons false _ (.cons true _ _), _, h3, _, _, _ => exact Bool.noConfusion h3
    | .cons false _ .nil, [], _, h4, _, _ => exact Bool.noConfusion h4
    | .cons false e .nil, a :: b :: _, _, h4, _, _ => exact absurd h4 (by intro z; have z : (!isStar a && chkE c e a && false) = true := z; simp at z)
    | .cons false _ (.cons false _ .nil), [], _, h4, _, _ => exact Bool.noConfusion h4
    | .cons false e (.cons false _ .nil), [a], _, h4, _, _ => exact absurd h4 (by intro z; have z : (!isStar a && chkE c e a && false) = true := z; simp at z)
    | .cons false e (.cons false e2 .nil), a :: b :: d :: _, _, h4, _, _ => exact absurd h4 (by intro z; have z : (!isStar a && chkE c e a && (!isStar b && chkE c e2 b && false)) = true := z; simp at z)
    | .cons false _ (.cons false _ (.cons _ _ es)), _, _, _, q1, _ => exact absurd q1 (by show ¬ (es.len + 1 + 1 + 1 ≤ 2); omega)
  | .zip a b, c, X, it, t, F, h => by
    cases it <;> first | exact Bool.noConfusion h | skip
    rename_i fy args ky p2
    cases fy <;> first | exact Bool.noConfusion h | skip
    rename_i y py
    rcases args with _ | ⟨u, _ | ⟨v, _ | ⟨w2, args⟩⟩⟩ <;> cases ky <;> first | exact Bool.noConfusion h | skip
    have h : (decide (y = "zip") && glB c y && !isStar u && !isStar v && isTupE t && chkE c a u && chkE c b v) = true := h
    simp only [Bool.and_eq_true, decide_eq_true_eq, Bool.not_eq_true'] at h
    obtain ⟨⟨⟨⟨⟨⟨rfl, h1⟩, h2⟩, h3⟩, h4⟩, h5⟩, h6⟩ := h
    cases t <;> first | exact Bool.noConfusion h4 | skip
    · exact i_zip (glob_of F.sc h1) (F.bn _ (by decide +kernel)) h2 h3 (sE G a c X u F h5).1 (sE G b c X v F h6).1
  | .enum a, c, X, it, t, F, h => by
    cases it <;> first | exact Bool.noConfusion h | skip
    rename_i fy args ky p2
    cases fy <;> first | exact Bool.noConfusion h | skip
    rename_i y py
    rcases args with _ | ⟨u, _ | ⟨w2, args⟩⟩ <;> cases ky <;> first | exact Bool.noConfusion h | skip
    have h : (decide (y = "enumerate") && glB c y && !isStar u && isTupE t && chkE c a u) = true := h
    simp only [Bool.and_eq_true, decide_eq_true_eq, Bool.not_eq_true'] at h
    obtain ⟨⟨⟨⟨rfl, h1⟩, h2⟩, h4⟩, h5⟩ := h
    cases t <;> first | exact Bool.noConfusion h4 | skip
    · exact i_enum (glob_of F.sc h1) (F.bn _ (by decide +kernel)) h2 (sE G a c X u F h5).1
end
end Zz
end
section
/-! Z12: every statement's reading is right. -/
namespace Zz
open PySem PySem.Spec PyProof.Rows L2

structure ERel (K : PySem.W.Frag) (M : Mh) (H : Hp) (Z : ZEnds) (D : Ends) : Prop where
  nx : ∀ s2 M2 σ2 H2, Ext M H M2 H2 → Rel K s2 M2 σ2 H2 → Z.nx s2 M2 → D.nx σ2 H2
  rt : QRel K M H Z.rt D.rt
  bk : ∀ s2 M2 σ2 H2, Ext M H M2 H2 → Rel K s2 M2 σ2 H2 → Z.bk s2 M2 → D.bk σ2 H2
  ct : ∀ s2 M2 σ2 H2, Ext M H M2 H2 → Rel K s2 M2 σ2 H2 → Z.ct s2 M2 → D.ct σ2 H2
def upS (K : PySem.W.Frag) (t : ZS) : TS := fun D σ H => ∃ s M Z, Rel K s M σ H ∧ t Z s M ∧ ERel K M H Z D
theorem ERel.at {K : PySem.W.Frag} {M M1 : Mh} {H H1 : Hp} {Z : ZEnds} {D : Ends} (h : ERel K M H Z D) (e : Ext M H M1 H1) : ERel K M1 H1 Z D :=
  ⟨fun s2 M2 σ2 H2 e2 => h.nx s2 M2 σ2 H2 (e.trans e2), h.rt.at e, fun s2 M2 σ2 H2 e2 => h.bk s2 M2 σ2 H2 (e.trans e2), fun s2 M2 σ2 H2 e2 => h.ct s2 M2 σ2 H2 (e.trans e2)⟩

section
variable {X : Cx} {pos : Pos} {st : Stmt} {sts : List Stmt}
theorem PS.imp {t t' : TS} (h : PS X st t) (i : ∀ D σ H, t' D σ H → t D σ H) : PS X st t' := ⟨fun pins s σ H D I w => h.run pins s σ H D I (i D σ H w)⟩
theorem PSs.imp {t t' : TS} (h : PSs X sts t) (i : ∀ D σ H, t' D σ H → t D σ H) : PSs X sts t' := ⟨fun pins s σ H D I w => h.run pins s σ H D I (i D σ H w)⟩
theorem s_nil : PSs X [] (upS X.K zNext) := PSs.imp pss_nil fun D σ H ⟨s, M, Z, R, h, e⟩ => e.nx _ _ _ _ Ext.refl R h
theorem s_cons {a b : ZS} (h1 : PS X st (upS X.K a)) (h2 : PSs X sts (upS X.K b)) : PSs X (st :: sts) (upS X.K (zSeq a b)) :=
  PSs.imp (pss_cons h1 h2) fun D σ H ⟨s, M, Z, R, h, e⟩ => ⟨s, M, _, R, h, ⟨fun s2 M2 σ2 H2 e2 R2 w => ⟨s2, M2, Z, R2, w, e.at e2⟩, e.rt, e.bk, e.ct⟩⟩
theorem s_freeze {i : Nat} {b : ZS} (h : PSs X sts (upS X.K b)) : PSs X sts (upS X.K (zFreeze i b)) :=
  PSs.imp h fun D σ H ⟨s, M, Z, R, w, e⟩ => by
    unfold zFreeze at w
    split at w
    · rename_i a ha
      obtain ⟨xs, m, w⟩ := w
      have hs : Sub (mdel M a) M := fun p o hp => by
        unfold mdel at hp
        by_cases z : p = a
        · rw [if_pos z] at hp; cases hp
        · rw [if_neg z] at hp; exact hp
      obtain ⟨us, u1, u2⟩ := R.heap a _ m
      have ha2 := slot_get ha
      obtain ⟨v, hv, rv⟩ := R.at' i _ ha2
      have ev := rep_ref rv
      subst ev
      have R1 : Rel X.K s (mdel M a) σ H := R.ext (Ext.sub hs) (HRel.sub hs R.heap)
      have R2 := R1.set (mk_lst (.inl ⟨SqL.of u1, if_pos rfl, by rw [u1]; simp⟩) (Reps.ext (Ext.sub hs) _ _ u2) : Rep X.K H (mdel M a) (.lst xs) (.ref a)) i
      have e3 : σ.set i (some (.ref a)) = σ := by
        refine List.ext_getElem? fun j => ?_
        by_cases hj : i = j
        · subst hj
          have := (List.getElem?_eq_some_iff.mp hv).1
          rw [List.getElem?_set_self this, hv]
        · rw [List.getElem?_set_ne hj]
      rw [e3] at R2
      exact ⟨_, _, Z, R2, w, e.at (Ext.sub hs)⟩
    · exact w.elim
theorem imp_asg {ix : List Nat} {g : ZG} {z : ZE} {K : PySem.W.Frag} {D : Ends} {σ : L2.St} {H : Hp} (h : upS K (zAsg g z) D σ H) : tAsg (up K z) (upG K ix g) D σ H := by
  obtain ⟨s, M, Z, R, w, e⟩ := h
  exact up_then R w fun d1 M1 v1 H1 e1 R1 r1 z1 => ⟨s, M1, d1, _, R1, r1, z1, fun s2 M2 σ2 H2 e2 R2 _ w2 => e.nx _ _ _ _ (e1.trans e2) R2 w2⟩
theorem nocmp {v : Expr} {t : Option Expr} {l : Nat} {env : Env} (h : isCmp v = false) : swapsWith v t l env = pure false := by
  cases v <;> first | exact Bool.noConfusion h | rfl
theorem nocmpS {v t : Expr} {l : Nat} {env : Env} (h : isCmp v = false) : swapsWithSole [t] v l env = pure false := nocmp h
theorem assign1 {t : Expr} {env : Env} (h : isStar t = false) : (assignEach [t] env).map (·.2) = [assign t env] := by rw [assign_no h]; rfl
theorem s_aug {i : Nat} {x : Str} {e : Expr} {op : Operator} {o : Op} {z : ZE} {p : Pos} (ho : (o = .add ∧ op = .Add) ∨ (o = .sub ∧ op = .Sub)) (hN : X.N.Nodup) (hi : X.N[i]? = some x) (hx : L2.Loc X.env.scope x) (hf : X.fn x = true ∨ X.env.scope.names.lookup x = some .local) (he : PE X e (up X.K z)) :
    PS X (.AugAssign (.Name x p) op e pos) (upS X.K (zAug i o z)) := by
  have key : ∀ {f : Int → Int → Int}, (∀ a b M q, zAugD o a b M q → ∃ i j, a = .int i ∧ b = .int j ∧ q (.int (f i j)) M) → ∀ D σ H, upS X.K (zAug i o z) D σ H → tAug i (up X.K z) (ipI f) D σ H := fun {f} hf D σ H ⟨s, M, Z, R, w, e⟩ => by
    unfold zAug at w
    split at w
    · rename_i d hd
      obtain ⟨v, hv, rv⟩ := R.at' i _ (slot_get hd)
      refine ⟨v, hv, up_then R w fun d1 M1 v1 H1 e1 R1 r1 z1 => ?_⟩
      obtain ⟨a, b, ea, eb, w2⟩ := hf _ _ _ _ z1
      subst ea eb
      exact ⟨a, b, rep_int rv, rep_int r1, e.nx _ _ _ _ e1 (R1.set mk_int i) w2⟩
    · exact w.elim
  rcases ho with ⟨rfl, rfl⟩ | ⟨rfl, rfl⟩
  · exact PS.imp (ps_aug hN hi hx he ip_add hf) (key fun a b M q w => by cases a <;> cases b <;> first | exact False.elim w | exact ⟨_, _, rfl, rfl, w⟩)
  · exact PS.imp (ps_aug hN hi hx he ip_sub hf) (key fun a b M q w => by cases a <;> cases b <;> first | exact False.elim w | exact ⟨_, _, rfl, rfl, w⟩)
theorem s_ret {e : Expr} {z : ZE} (he : PE X e (up X.K z)) : PS X (.Return (some e) pos) (upS X.K (zRet z)) :=
  PS.imp (ps_ret he) fun D σ H ⟨s, M, Z, R, w, e⟩ => ⟨s, M, _, R, w, e.rt⟩
theorem s_retN : PS X (.Return none pos) (upS X.K zRetN) :=
  PS.imp ps_retN fun D σ H ⟨s, M, Z, R, w, e⟩ => e.rt.use R.heap mk_non w
theorem s_expr {e : Expr} {z : ZE} (hn : isCmp e = false) (he : PE X e (up X.K z)) : PS X (.Expr e pos) (upS X.K (zExpr z)) :=
  PS.imp (ps_expr he (nocmp hn)) fun D σ H ⟨s, M, Z, R, w, e⟩ => up_then R w fun d1 M1 v1 H1 e1 R1 r1 z1 => e.nx _ _ _ _ e1 R1 z1
theorem s_if {c : Expr} {a b : List Stmt} {zc : ZT} {za zb : ZS} (hc : PT X c (upT X.K zc)) (ha : PSs X a (upS X.K za)) (hb : PSs X b (upS X.K zb)) : PS X (.If c a b pos) (upS X.K (zIff zc za zb)) :=
  PS.imp (ps_if hc ha hb) fun D σ H ⟨s, M, Z, R, w, e⟩ => upT_then R w fun k M1 H1 e1 R1 z1 => by
    cases k with
    | true => rw [if_pos rfl] at z1 ⊢; exact ⟨s, M1, Z, R1, z1, e.at e1⟩
    | false => rw [if_neg (by decide)] at z1 ⊢; exact ⟨s, M1, Z, R1, z1, e.at e1⟩
theorem s_while {c : Expr} {b : List Stmt} {zc : ZT} {zb : ZS} (hp : PassesOwn (model X.prog X.w) X.A X.env X.xe) (hc : PT X c (upT X.K zc)) (hb : PSs X b (upS X.K zb)) : PS X (.While c b [] pos) (upS X.K (zWhl zc zb)) :=
  PS.imp (ps_while hp hc hb) fun D σ H ⟨s, M, Z, R, ⟨n, w⟩, e⟩ => by
    refine ⟨fun m σ' H' => ∃ s' M', Ext M H M' H' ∧ Rel X.K s' M' σ' H' ∧ zWh zc zb m Z s' M', ⟨n, s, M, Ext.refl, R, w⟩, ?_⟩
    rintro m σ' H' ⟨s', M', e', R', w'⟩
    cases m with
    | zero => exact False.elim w'
    | succ m =>
      refine upT_then R' w' fun k M1 H1 e1 R1 z1 => ?_
      cases k with
      | true =>
        rw [if_pos rfl] at z1 ⊢
        refine ⟨fun σ2 H2 => ∃ s' M', Ext M H M' H2 ∧ Rel X.K s' M' σ2 H2 ∧ zWh zc zb m Z s' M', fun σ2 H2 h => ⟨m, Nat.lt_succ_self m, h⟩, s', M1, _, R1, z1, ?_⟩
        have ee := e.at (e'.trans e1)
        exact ⟨fun s2 M2 σ2 H2 e2 R2 w2 => ⟨s2, M2, (e'.trans e1).trans e2, R2, w2⟩, ee.rt, ee.nx, fun s2 M2 σ2 H2 e2 R2 w2 => ⟨s2, M2, (e'.trans e1).trans e2, R2, w2⟩⟩
      | false =>
        rw [if_neg (by decide)] at z1 ⊢
        exact e.nx _ _ _ _ (e'.trans e1) R1 z1
theorem s_for {tg it : Expr} {b : List Stmt} {zi : ZI} {g : ZG} {zb : ZS} {ix : List Nat} (hp : PassesOwn (model X.prog X.w) X.A X.env X.xe) (hc : X.calm = true) (hs : isSet it = false) (hi : PI X tg it (upI X.K zi)) (hg : PG X tg (upG X.K ix g)) (hb : PSs X b (upS X.K zb)) : PS X (.For tg it b [] pos) (upS X.K (zFor zi g zb)) :=
  PS.imp (ps_for hp hc hi hg hb (isSet_fold hs)) fun D σ H ⟨s, M, Z, R, w, e⟩ => by
    refine ⟨s, M, _, R, w, fun items M2 H2 J e2 R2 jk hk => ?_⟩
    refine ⟨fun i m σ' H' => m = items.length - i ∧ i ≤ items.length ∧ ∃ s' M', Ext M2 H2 M' H' ∧ Rel X.K s' M' σ' H' ∧ zLoop g zb (items.drop i) Z s' M', ⟨items.length, by simp, Nat.zero_le _, s, M2, Ext.refl, R2, hk⟩, ?_⟩
    rintro i m σ' H' ⟨rfl, hil, s', M', e', R', w'⟩
    obtain ⟨jgo, jst⟩ := jk M' H' e' R'.heap
    by_cases hlt : i < items.length
    · have hget : items[i]? = some items[i] := List.getElem?_eq_getElem hlt
      obtain ⟨go, yl⟩ := jgo i _ hget
      rw [List.drop_eq_getElem_cons hlt] at w'
      refine .inr ⟨go, fun σ2 H3 => ∃ s' M', Ext M2 H2 M' H3 ∧ Rel X.K s' M' σ2 H3 ∧ zLoop g zb (items.drop (i + 1)) Z s' M', fun σ2 H3 h => ⟨items.length - (i + 1), by omega, rfl, hlt, h⟩, fun x H'' hy => ?_⟩
      obtain ⟨ey, hry, rx⟩ := yl x H'' hy
      refine ⟨s', M', _, _, R'.ext ey hry, rx, w', fun s1 M1 σ1 H1 e1 R1 _ z1 => ⟨s1, M1, _, R1, z1, ?_⟩⟩
      have ea := ((e'.trans ey).trans e1)
      have ee := (e.at e2).at ea
      exact ⟨fun s3 M3 σ3 H3 e3 R3 w3 => ⟨s3, M3, ea.trans e3, R3, w3⟩, ee.rt, ee.nx, fun s3 M3 σ3 H3 e3 R3 w3 => ⟨s3, M3, ea.trans e3, R3, w3⟩⟩
    · have hi' : i = items.length := by omega
      subst hi'
      rw [List.drop_length] at w'
      exact .inl ⟨jst, (e.at e2).nx _ _ _ _ e' R' w'⟩
end
end Zz
end
section
/-! Z13: assignments; the check of statements is right. -/
namespace Zz
open PySem PySem.Spec PyProof.Rows L2

theorem sw_eq {env : Env} {ts vs : List Expr} {k k2 : Nat} {p p2 : Pos} {r : Option (List Str)} (hk : env.scope.kind = .function) (h : swP env.scope ts vs = some r) : swappedStores [.Tuple ts k p] (.Tuple vs k2 p2) env = pure r := by
  have hb : env.blockKind = .function := by unfold Env.blockKind; rw [hk]; rfl
  have hb2 : (env.blockKind != ScopeKind.function) = false := by rw [hb]; rfl
  unfold swP at h
  unfold swappedStores
  simp only [hb2, Bool.or_false]
  by_cases c1 : ((!(ts.length == 2 || ts.length == 3) || vs.length != ts.length) = true)
  · rw [if_pos c1] at h ⊢
    cases h; rfl
  · rw [if_neg c1] at h ⊢
    by_cases c2 : (vs.any isStar = true)
    · rw [if_pos c2] at h
      cases h
      exact if_pos c2
    · rw [if_neg c2] at h
      refine (if_neg c2).trans ?_
      by_cases c3 : (((swNames env.scope ts).length != ts.length || (swNames env.scope ts).eraseDups.length != (swNames env.scope ts).length) = true)
      · rw [if_pos c3] at h
        cases h
        exact if_pos c3
      · rw [if_neg c3] at h
        refine (if_neg c3).trans ?_
        by_cases c4 : (vs.all (foldedForSure 8) = true)
        · rw [if_pos c4] at h ⊢
          cases h; rfl
        · rw [if_neg c4] at h ⊢
          by_cases c5 : (vs.all (constantsAlone 8) = true)
          · rw [if_pos c5] at h; cases h
          · rw [if_neg c5] at h ⊢
            cases h; rfl

theorem sw_none {env : Env} {t v : Expr} (h : ∀ ts k p vs k2 p2, t = .Tuple ts k p → v = .Tuple vs k2 p2 → False) (hl : ∀ ts p, t = .List ts p → False) : swappedStores [t] v env = pure none := by
  unfold swappedStores
  cases t <;> first
    | exact absurd rfl (fun e => hl _ _ e)
    | rfl
    | (cases v <;> first | rfl | exact (h _ _ _ _ _ _ rfl rfl).elim)
theorem sw_comp {elt : Expr} {gs : List Comprehension} {scope : Scope} {pos py : Pos} {y : Str} {l : Nat} {env : Env} :
    swapsWith (.ListComp elt gs scope pos) (some (.Name y py)) l env = pure (env.blockKind == .function && env.kindOf y == some .local && py.line == pos.line && !(scope.names.any fun (n, k) => n == y && (k == .local || k == .cell))) := rfl
theorem filt_all {α β : Type} {f : α → Option β} : ∀ {l : List α}, (l.filterMap f).length = l.length → l.map f = (l.filterMap f).map some
  | [], _ => rfl
  | x :: xs, h => by
    cases e : f x with
    | none =>
      rw [List.filterMap_cons_none e] at h
      have := List.length_filterMap_le f xs
      rw [List.length_cons] at h; omega
    | some y =>
      rw [List.filterMap_cons_some e] at h ⊢
      rw [List.map_cons, e, List.map_cons, filt_all (by simpa using h)]
def swName (sc : Scope) (l : Nat) : Expr → Option Str
  | .Name id pos => if sc.names.lookup id == some .local && pos.line == l then some id else none
  | _ => none
theorem swName_some {sc : Scope} {l : Nat} {e : Expr} {x : Str} (h : swName sc l e = some x) : ∃ p, e = .Name x p ∧ sc.names.lookup x = some .local := by
  unfold swName at h
  split at h
  · split at h
    · rename_i id pos hc
      cases h
      refine ⟨pos, rfl, ?_⟩
      rw [Bool.and_eq_true] at hc
      exact eq_of_beq hc.1
    · cases h
  · cases h
theorem swNames_eq {sc : Scope} {ts : List Expr} : swNames sc ts = ts.filterMap (swName sc ((ts.head?.map (·.pos.line)).getD 0)) := by
  unfold swNames
  refine congrArg (fun f => List.filterMap f ts) (funext fun e => ?_)
  cases e <;> rfl
theorem swP_some {sc : Scope} {ts vs : List Expr} {xs : List Str} (h : swP sc ts vs = some (some xs)) : (ts.length = 2 ∨ ts.length = 3) ∧ vs.length = ts.length ∧ xs.length = ts.length ∧ ts.map (swName sc ((ts.head?.map (·.pos.line)).getD 0)) = xs.map some := by
  unfold swP at h
  split at h
  · cases h
  · rename_i c1
    split at h
    · cases h
    · split at h
      · cases h
      · rename_i c3
        split at h
        · cases h
        · split at h
          · cases h
          · cases h
            rw [Bool.not_eq_true, Bool.or_eq_false_iff] at c1 c3
            have e1 : ts.length = 2 ∨ ts.length = 3 := by
              have := c1.1
              simp only [Bool.not_eq_false', Bool.or_eq_true, beq_iff_eq] at this
              exact this
            have e2 : vs.length = ts.length := by simpa using c1.2
            have e3 : (swNames sc ts).length = ts.length := by simpa using c3.1
            refine ⟨e1, e2, e3, ?_⟩
            rw [swNames_eq]
            exact filt_all (by rw [← swNames_eq]; exact e3)

section
variable {G : Ge} {c : Ctx} {X : Cx} {pos : Pos}
theorem imp_par {i j : Nat} {za : ZA} {K : PySem.W.Frag} {D : Ends} {σ : L2.St} {H : Hp} (hz : upS K (fun Z s M => za s M fun ds M1 => zGTup 2 (zGsCons (zGName i) (zGsCons (zGName j) zGsNil)) (.tup ds) s M1 Z.nx) D σ H) : tPar i j (upA K za) D σ H := by
  obtain ⟨s, M, Z, R, w, e⟩ := hz
  refine upA_then R w fun ds M1 vs H1 e1 R1 r1 z1 => ?_
  obtain ⟨hl, z1⟩ := z1
  rcases ds with _ | ⟨d1, _ | ⟨d2, ds⟩⟩
  · exact z1.elim
  · exact z1.elim
  · obtain ⟨v1, vr, rfl, q1, q2⟩ := r1.uncons
    obtain ⟨v2, vr2, rfl, q3, q4⟩ := q2.uncons
    have z2 : ds = [] ∧ Z.nx ((s.set i (some d1)).set j (some d2)) M1 := z1
    obtain ⟨rfl, z3⟩ := z2
    have := Reps.nil_iff.mp q4
    subst this
    exact ⟨v1, v2, rfl, e.nx _ _ _ _ e1 ((R1.set q1 i).set q3 j) z3⟩
theorem imp_par3 {i j l : Nat} {za : ZA} {K : PySem.W.Frag} {D : Ends} {σ : L2.St} {H : Hp} (hz : upS K (fun Z s M => za s M fun ds M1 => zGTup 3 (zGsCons (zGName i) (zGsCons (zGName j) (zGsCons (zGName l) zGsNil))) (.tup ds) s M1 Z.nx) D σ H) : tPar3 i j l (upA K za) D σ H := by
  obtain ⟨s, M, Z, R, w, e⟩ := hz
  refine upA_then R w fun ds M1 vs H1 e1 R1 r1 z1 => ?_
  obtain ⟨hl, z1⟩ := z1
  rcases ds with _ | ⟨d1, _ | ⟨d2, _ | ⟨d3, ds⟩⟩⟩
  · exact z1.elim
  · exact z1.elim
  · exact z1.elim
  · obtain ⟨v1, vr, rfl, q1, q2⟩ := r1.uncons
    obtain ⟨v2, vr2, rfl, q3, q4⟩ := q2.uncons
    obtain ⟨v3, vr3, rfl, q5, q6⟩ := q4.uncons
    have z2 : ds = [] ∧ Z.nx (((s.set i (some d1)).set j (some d2)).set l (some d3)) M1 := z1
    obtain ⟨rfl, z3⟩ := z2
    have := Reps.nil_iff.mp q6
    subst this
    exact ⟨v1, v2, v3, rfl, e.nx _ _ _ _ e1 (((R1.set q1 i).set q3 j).set q5 l) z3⟩
/-- the written tuple of an expression's reading -/
theorem tup_read {G : Ge} {c : Ctx} {X : Cx} {e : E} {vs : List Expr} {k : Nat} {p : Pos} (F : Fit G c X) (h : chkE c e (.Tuple vs k p) = true) : ∃ za, PA X vs (upA X.K za) ∧ ∀ (s : Sl) (M : Mh) (q : KD), (rd G e).v s M q → za s M fun ds M1 => q (.tup ds) M1 := by
  cases e <;> first | exact Bool.noConfusion h | skip
  · rename_i es
    have h : (es.plain && decide (es.len ≤ 1000) && chkEs c es vs) = true := h
    rw [Bool.and_eq_true] at h
    exact ⟨rds G es, sEs G es c X vs F h.2, fun s M q w => w⟩
  · rename_i es
    have h : chkEs c es vs = true := h
    refine ⟨fun s M q => rds G es s M fun ds M1 => ds.length ≤ sizeLine ∧ q ds M1, PA.imp (sEs G es c X vs F h) fun σ H Q ⟨s, M, q, R, w, hq⟩ => ⟨s, M, _, R, w, fun ds M2 vs H2 e2 R2 r2 z2 => hq _ _ _ _ e2 R2 r2 z2.2⟩, fun s M q w => w⟩
theorem gname_ix {G : Ge} {c : Ctx} {X : Cx} {t : Tg} {x : Str} {p : Pos} (F : Fit G c X) (h : chkG c t (.Name x p) = true) : ∃ i, t = .name i ∧ c.N[i]? = some x ∧ L2.Loc X.env.scope x ∧ (X.fn x = true ∨ X.env.scope.names.lookup x = some .local) := by
  cases t <;> first | exact Bool.noConfusion h | skip
  rename_i i
  have h : (decide (c.N[i]? = some x) && locB c x) = true := h
  simp only [Bool.and_eq_true, decide_eq_true_eq] at h
  have := loc_of F h.2
  exact ⟨i, rfl, h.1, this.1, this.2⟩
end
end Zz
end
section
/-! Z14: the check of statements is right. -/
namespace Zz
open PySem PySem.Spec PyProof.Rows L2

theorem er_le : ∀ (n : Nat) (l : List Str), l.length ≤ n → l.eraseDups.length ≤ l.length
  | _, [], _ => by simp
  | 0, _ :: _, h => by simp at h
  | n + 1, a :: as, h => by
    rw [List.eraseDups_cons, List.length_cons, List.length_cons]
    have h1 := List.length_filter_le (fun b => !b == a) as
    have := er_le n (as.filter fun b => !b == a) (by simp at h; omega)
    omega
theorem nub_nodup : ∀ (n : Nat) (l : List Str), l.length ≤ n → l.eraseDups.length = l.length → l.Nodup
  | _, [], _, _ => by simp
  | 0, _ :: _, h, _ => by simp at h
  | n + 1, a :: as, h, e => by
    rw [List.eraseDups_cons, List.length_cons, List.length_cons] at e
    have h1 := List.length_filter_le (fun b => !b == a) as
    have h2 := er_le as.length (as.filter fun b => !b == a) h1
    have hf : (as.filter fun b => !b == a).length = as.length := by omega
    have ha := List.length_filter_eq_length_iff.mp hf
    have hs : (as.filter fun b => !b == a) = as := List.filter_eq_self.mpr ha
    rw [hs] at e
    rw [List.nodup_cons]
    refine ⟨fun z => ?_, nub_nodup n as (by simp at h; omega) (by omega)⟩
    have := ha a z
    simp at this

section
variable {G : Ge} {c : Ctx} {X : Cx} {pos : Pos}
theorem nd_ne {N : List Str} (hN : N.Nodup) {i j : Nat} {x y : Str} (hi : N[i]? = some x) (hj : N[j]? = some y) (h : x ≠ y) : i ≠ j := by
  rintro rfl
  rw [hi] at hj
  cases hj
  exact h rfl
theorem s_swap {t : Tg} {e : E} {ts vs : List Expr} {k1 k2 : Nat} {p1 p2 : Pos} {xs : List Str} (F : Fit G c X) (hs : swP c.sc ts vs = some (some xs)) (ht : chkG c t (.Tuple ts k1 p1) = true) (he : chkE c e (.Tuple vs k2 p2) = true) :
    PS X (.Assign [.Tuple ts k1 p1] (.Tuple vs k2 p2) pos) (upS X.K (zAsg (rdg G t) (rd G e).v)) := by
  obtain ⟨l1, l2, l3, nm⟩ := swP_some hs
  obtain ⟨za, ha, hz⟩ := tup_read F he
  have hsw : swappedStores [.Tuple ts k1 p1] (.Tuple vs k2 p2) X.env = pure (some xs) := sw_eq (by rw [F.sc]; exact F.kind) (by rw [F.sc]; exact hs)
  have ndX : xs.Nodup := by
    unfold swP at hs
    split at hs
    · cases hs
    · split at hs
      · cases hs
      · split at hs
        · cases hs
        · rename_i c3
          split at hs
          · cases hs
          · split at hs
            · cases hs
            · cases hs
              rw [Bool.not_eq_true, Bool.or_eq_false_iff] at c3
              have := c3.2
              simp only [bne_eq_false_iff_eq] at this
              exact nub_nodup _ _ (Nat.le_refl _) this
  cases t <;> first | exact Bool.noConfusion ht | skip
  rename_i tgs
  have ht : chkGs c tgs ts = true := ht
  have nd : X.N.Nodup := by rw [F.N]; exact F.nd
  rcases l1 with l1 | l1
  · -- two
    rcases ts with _ | ⟨a1, _ | ⟨a2, _ | ⟨_, _⟩⟩⟩ <;> first | (exfalso; simp at l1; done) | skip
    rcases vs with _ | ⟨b1, _ | ⟨b2, _ | ⟨_, _⟩⟩⟩ <;> first | (exfalso; simp at l2; done) | skip
    rcases xs with _ | ⟨x1, _ | ⟨x2, _ | ⟨_, _⟩⟩⟩ <;> first | (exfalso; simp at l3; done) | skip
    simp only [List.map_cons, List.map_nil, List.cons.injEq, and_true] at nm
    obtain ⟨q1, hl1⟩ := swName_some nm.1
    obtain ⟨q2, hl2⟩ := swName_some nm.2
    obtain ⟨rfl, hl1⟩ := hl1
    obtain ⟨rfl, hl2⟩ := hl2
    rcases tgs with _ | ⟨t1, _ | ⟨t2, _ | ⟨t3, tt⟩⟩⟩
    · exact Bool.noConfusion ht
    · exact absurd ht (by intro z; have z : (true && chkG c t1 (.Name x1 q1) && false) = true := z; simp at z)
    · have ht : (true && chkG c t1 (.Name x1 q1) && (true && chkG c t2 (.Name x2 q2) && true)) = true := ht
      simp only [Bool.true_and, Bool.and_true, Bool.and_eq_true] at ht
      obtain ⟨i, rfl, hi, _, _⟩ := gname_ix (X := X) F ht.1
      obtain ⟨j, rfl, hj, _, _⟩ := gname_ix (X := X) F ht.2
      have hne : x1 ≠ x2 := by
        intro e
        rw [List.nodup_cons] at ndX
        exact ndX.1 (by simp [e])
      refine PS.imp (ps_par F.calm nd (by rw [F.N]; exact hi) (by rw [F.N]; exact hj) (nd_ne F.nd hi hj hne) (by rw [F.sc]; exact hl1) (by rw [F.sc]; exact hl2) ha hsw) fun D σ H ⟨s, M, Z, R, w, ee⟩ => imp_par ⟨s, M, Z, R, hz _ _ _ w, ee⟩
    · exact absurd ht (by intro z; have z : (true && chkG c t1 (.Name x1 q1) && (true && chkG c t2 (.Name x2 q2) && false)) = true := z; simp at z)
  · rcases ts with _ | ⟨a1, _ | ⟨a2, _ | ⟨a3, _ | ⟨_, _⟩⟩⟩⟩ <;> first | (exfalso; simp at l1; done) | skip
    rcases vs with _ | ⟨b1, _ | ⟨b2, _ | ⟨b3, _ | ⟨_, _⟩⟩⟩⟩ <;> first | (exfalso; simp at l2; done) | skip
    rcases xs with _ | ⟨x1, _ | ⟨x2, _ | ⟨x3, _ | ⟨_, _⟩⟩⟩⟩ <;> first | (exfalso; simp at l3; done) | skip
    simp only [List.map_cons, List.map_nil, List.cons.injEq, and_true] at nm
    obtain ⟨q1, hl1⟩ := swName_some nm.1
    obtain ⟨q2, hl2⟩ := swName_some nm.2.1
    obtain ⟨q3, hl3⟩ := swName_some nm.2.2
    obtain ⟨rfl, hl1⟩ := hl1
    obtain ⟨rfl, hl2⟩ := hl2
    obtain ⟨rfl, hl3⟩ := hl3
    rcases tgs with _ | ⟨t1, _ | ⟨t2, _ | ⟨t3, _ | ⟨t4, tt⟩⟩⟩⟩
    · exact Bool.noConfusion ht
    · exact absurd ht (by intro z; have z : (true && chkG c t1 (.Name x1 q1) && false) = true := z; simp at z)
    · exact absurd ht (by intro z; have z : (true && chkG c t1 (.Name x1 q1) && (true && chkG c t2 (.Name x2 q2) && false)) = true := z; simp at z)
    · have ht : (true && chkG c t1 (.Name x1 q1) && (true && chkG c t2 (.Name x2 q2) && (true && chkG c t3 (.Name x3 q3) && true))) = true := ht
      simp only [Bool.true_and, Bool.and_true, Bool.and_eq_true] at ht
      obtain ⟨i, rfl, hi, _, _⟩ := gname_ix (X := X) F ht.1
      obtain ⟨j, rfl, hj, _, _⟩ := gname_ix (X := X) F ht.2.1
      obtain ⟨l, rfl, hl, _, _⟩ := gname_ix (X := X) F ht.2.2
      simp only [List.nodup_cons, List.mem_cons, List.not_mem_nil, or_false, not_or] at ndX
      refine PS.imp (ps_par3 F.calm nd (by rw [F.N]; exact hi) (by rw [F.N]; exact hj) (by rw [F.N]; exact hl) (nd_ne F.nd hi hj ndX.1.1) (nd_ne F.nd hi hl ndX.1.2) (nd_ne F.nd hj hl ndX.2.1) (by rw [F.sc]; exact hl1) (by rw [F.sc]; exact hl2) (by rw [F.sc]; exact hl3) ha hsw) fun D σ H ⟨s, M, Z, R, w, ee⟩ => imp_par3 ⟨s, M, Z, R, hz _ _ _ w, ee⟩
    · exact absurd ht (by intro z; have z : (true && chkG c t1 (.Name x1 q1) && (true && chkG c t2 (.Name x2 q2) && (true && chkG c t3 (.Name x3 q3) && false))) = true := z; simp at z)
theorem s_asg {t : Tg} {e : E} {x v : Expr} (F : Fit G c X) (h1 : asgB c x v = true) (ht : chkG c t x = true) (he : chkE c e v = true) : PS X (.Assign [x] v pos) (upS X.K (zAsg (rdg G t) (rd G e).v)) := by
  have pe := (sE G e c X v F he).1
  have pg := sG G t c X x F ht
  have hst : isStar x = false := by cases x <;> first | rfl | (cases t <;> exact Bool.noConfusion ht)
  have nl : ∀ ts p, x = .List ts p → False := by
    rintro ts p rfl
    cases v <;> exact Bool.noConfusion h1
  cases hcm : isCmp v with
  | false =>
    by_cases hb : ∃ ts k p vs k2 p2, x = .Tuple ts k p ∧ v = .Tuple vs k2 p2
    · obtain ⟨ts, k, p, vs, k2, p2, rfl, rfl⟩ := hb
      have h1 : (swP c.sc ts vs).isSome = true := h1
      cases hs : swP c.sc ts vs with
      | none => rw [hs] at h1; exact Bool.noConfusion h1
      | some r =>
        cases r with
        | none => exact PS.imp (ps_asg pe pg (nocmpS hcm) (sw_eq (by rw [F.sc]; exact F.kind) (by rw [F.sc]; exact hs)) (assign1 hst)) fun D σ H w => imp_asg w
        | some xs => exact s_swap F hs ht he
    · exact PS.imp (ps_asg pe pg (nocmpS hcm) (sw_none (fun ts k p vs k2 p2 e1 e2 => hb ⟨ts, k, p, vs, k2, p2, e1, e2⟩) nl) (assign1 hst)) fun D σ H w => imp_asg w
  | true =>
    cases e <;> first | (exfalso; cases v <;> first | exact Bool.noConfusion he | exact Bool.noConfusion hcm) | skip
    rename_i mu own tg src cs elt
    cases v <;> first | exact Bool.noConfusion he | skip
    rename_i el gens scope p
    rcases gens with _ | ⟨⟨t', it, ifs, asy⟩, more⟩ <;> first | exact Bool.noConfusion he | skip
    by_cases ha : asy = 0
    · subst ha
      cases more <;> first | exact Bool.noConfusion he | skip
      have h : (blkC c.N c.sc scope own && (tgIx tg).all (fun i => own.any fun p => p.2 == i) && !isSet it && chkG (c.blk scope) tg t' && chkI c src it t' && cs.plain && chkIf (c.blk scope) cs ifs && chkE (c.blk scope) elt el) = true := he
      simp only [Bool.and_eq_true, Bool.not_eq_true'] at h
      obtain ⟨⟨⟨⟨⟨⟨⟨k1, k2⟩, k3⟩, k4⟩, k5⟩, k6⟩, k7⟩, k8⟩ := h
      by_cases hx : ∃ y py, x = .Name y py
      · obtain ⟨y, py, rfl⟩ := hx
        obtain ⟨i, rfl, hi, hlo, hfn⟩ := gname_ix (X := X) F ht
        have nd : X.N.Nodup := by rw [F.N]; exact F.nd
        have hsw : swapsWith (.ListComp el [⟨t', it, ifs, 0⟩] scope p) (some (.Name y py)) pos.line X.env = pure _ := sw_comp
        cases hb : (X.env.blockKind == .function && X.env.kindOf y == some .local && py.line == p.line && !(scope.names.any fun (n, k) => n == y && (k == .local || k == .cell))) with
        | false =>
          rw [hb] at hsw
          exact PS.imp (ps_set nd (by rw [F.N]; exact hi) hlo pe hsw hfn) fun D σ H ⟨s, M, Z, R, w, ee⟩ => up_then (t := (rd G (.comp mu own tg src cs elt)).v) R w fun d1 M1 v1 H1 e1 R1 r1 z1 => ee.nx _ _ _ _ e1 (R1.set r1 i) z1
        | true =>
          rw [hb] at hsw
          simp only [Bool.and_eq_true] at hb
          have hyl : X.env.scope.names.lookup y = some .local := eq_of_beq hb.1.1.2
          have ok := blkOk_by k1
          have FB := fun s H C cl fp => F.blk (blk_kind ok) s H C cl fp
          have tI := sI G src c X it t' F k5
          have tG : ∀ (s : Shared) (H : Hp) (C : Addr) (cl : List (Str × Addr)) (fp : List Addr), PG (X.blk s H scope (compEnvC scope cl C X.env) fp) t' (upG X.K (tgIx tg) (rdg G tg)) := fun s H C cl fp => sG G tg (c.blk scope) _ t' (FB s H C cl fp) k4
          have tC : ∀ (s : Shared) (H : Hp) (C : Addr) (cl : List (Str × Addr)) (fp : List Addr), PTs (X.blk s H scope (compEnvC scope cl C X.env) fp) ifs (upT X.K (rdc G cs)) := fun s H C cl fp => sIf G cs (c.blk scope) _ ifs (FB s H C cl fp) k7
          have tE : ∀ (s : Shared) (H : Hp) (C : Addr) (cl : List (Str × Addr)) (fp : List Addr), PE (X.blk s H scope (compEnvC scope cl C X.env) fp) el (up X.K (rd G elt).v) := fun s H C cl fp => (sE G elt (c.blk scope) _ el (FB s H C cl fp) k8).1
          have ok2 : BlkOk X.N X.env.scope scope own := by rw [F.N, F.sc]; exact ok
          refine PS.imp (ps_setLc F.calm nd (by rw [F.N]; exact hi) hyl hsw tI ok2 tG tC tE (isSet_fold k3)) fun D σ H w => ?_
          obtain ⟨s, M, Z, R, w, ee⟩ := w
          have w2 : up X.K (rd G (.comp mu own tg src cs elt)).v σ H fun x H1 => gName i x σ H1 D.nx :=
            up_then (t := (rd G (.comp mu own tg src cs elt)).v) R w fun d1 M1 v1 H1 e1 R1 r1 z1 => ee.nx _ _ _ _ e1 (R1.set r1 i) z1
          refine u_comp F.calm nd tI ok2 (fun i hi => ?_) tG tC tE σ H _ w2
          have := List.all_eq_true.mp k2 i hi
          obtain ⟨p, hp, e⟩ := List.any_eq_true.mp this
          exact List.mem_map.mpr ⟨p, hp, by simpa using e⟩
      · have hsw : swapsWithSole [x] (.ListComp el [⟨t', it, ifs, 0⟩] scope p) pos.line X.env = pure false := by
          cases x <;> first | rfl | exact absurd ⟨_, _, rfl⟩ hx
        exact PS.imp (ps_asg pe pg hsw (sw_none (fun ts k p vs k2 p2 e1 e2 => by cases e2) nl) (assign1 hst)) fun D σ H w => imp_asg w
    · exact absurd he (by simp [chkE, ha])
end

mutual
theorem sC (G : Ge) : ∀ (k : C) (c : Ctx) (X : Cx) (st : Stmt), Fit G c X → chkC c k st = true → PS X st (upS X.K (rdC G k))
  | .asg t e, c, X, st, F, h => by
    cases st <;> first | exact Bool.noConfusion h | skip
    rename_i xs v p
    rcases xs with _ | ⟨x, _ | ⟨_, _⟩⟩ <;> first | exact Bool.noConfusion h | skip
    have h : (asgB c x v && chkG c t x && chkE c e v) = true := h
    simp only [Bool.and_eq_true] at h
    exact s_asg F h.1.1 h.1.2 h.2
  | .aug i o e, c, X, st, F, h => by
    cases st <;> first | exact Bool.noConfusion h | skip
    rename_i x op v p
    cases x <;> first | exact Bool.noConfusion h | skip
    rename_i x p2
    have h : (decide (op = opOf o) && (decide (op = .Add) || decide (op = .Sub)) && decide (c.N[i]? = some x) && locB c x && chkE c e v) = true := h
    simp only [Bool.and_eq_true, Bool.or_eq_true, decide_eq_true_eq] at h
    obtain ⟨⟨⟨⟨h1, h2⟩, h3⟩, h4⟩, h5⟩ := h
    obtain ⟨l1, l2⟩ := loc_of F h4
    have nd : X.N.Nodup := by rw [F.N]; exact F.nd
    refine s_aug ?_ nd (by rw [F.N]; exact h3) l1 l2 (sE G e c X v F h5).1
    rw [h1] at h2
    rcases h2 with h2 | h2
    · left
      refine ⟨?_, h1.trans h2⟩
      cases o <;> first | rfl | exact absurd h2 (by decide)
    · right
      refine ⟨?_, h1.trans h2⟩
      cases o <;> first | rfl | exact absurd h2 (by decide)
  | .ret e, c, X, st, F, h => by
    cases st <;> first | exact Bool.noConfusion h | skip
    rename_i v p
    cases v <;> first | exact Bool.noConfusion h | skip
    exact s_ret (sE G e c X _ F h).1
  | .retN, c, X, st, F, h => by
    cases st <;> first | exact Bool.noConfusion h | skip
    rename_i v p
    cases v <;> first | exact Bool.noConfusion h | skip
    exact s_retN
  | .expr e, c, X, st, F, h => by
    cases st <;> first | exact Bool.noConfusion h | skip
    rename_i v p
    have h : (!isCmp v && chkE c e v) = true := h
    simp only [Bool.and_eq_true, Bool.not_eq_true'] at h
    exact s_expr h.1 (sE G e c X v F h.2).1
  | .iff t a b, c, X, st, F, h => by
    cases st <;> first | exact Bool.noConfusion h | skip
    rename_i x y z p
    have h : (chkE c t x && chkCs c a y && chkCs c b z) = true := h
    simp only [Bool.and_eq_true] at h
    exact s_if (sE G t c X x F h.1.1).2 (sCs G a c X y F h.1.2) (sCs G b c X z F h.2)
  | .whl t b, c, X, st, F, h => by
    cases st <;> first | exact Bool.noConfusion h | skip
    rename_i x y z p
    cases z <;> first | exact Bool.noConfusion h | skip
    have h : (chkE c t x && chkCs c b y) = true := h
    simp only [Bool.and_eq_true] at h
    exact s_while (by rw [F.xe]; exact PassesOwn.never) (sE G t c X x F h.1).2 (sCs G b c X y F h.2)
  | .forr t s b, c, X, st, F, h => by
    cases st <;> first | exact Bool.noConfusion h | skip
    rename_i x it y z p
    cases z <;> first | exact Bool.noConfusion h | skip
    have h : (!isSet it && chkG c t x && chkI c s it x && chkCs c b y) = true := h
    simp only [Bool.and_eq_true, Bool.not_eq_true'] at h
    exact s_for (by rw [F.xe]; exact PassesOwn.never) F.calm h.1.1.1 (sI G s c X it x F h.1.2) (sG G t c X x F h.1.1.2) (sCs G b c X y F h.2)
  | .pass, c, X, st, F, h => by
    cases st <;> first | exact Bool.noConfusion h | skip
    exact PS.imp ps_pass fun D σ H ⟨s, M, Z, R, w, e⟩ => e.nx _ _ _ _ Ext.refl R w
  | .brk, c, X, st, F, h => by
    cases st <;> first | exact Bool.noConfusion h | skip
    exact PS.imp ps_break fun D σ H ⟨s, M, Z, R, w, e⟩ => e.bk _ _ _ _ Ext.refl R w
  | .cont, c, X, st, F, h => by
    cases st <;> first | exact Bool.noConfusion h | skip
    exact PS.imp ps_continue fun D σ H ⟨s, M, Z, R, w, e⟩ => e.ct _ _ _ _ Ext.refl R w
  | .never, c, X, st, F, h => ⟨fun pins s σ H D I ⟨_, _, _, _, w, _⟩ => False.elim w⟩
theorem sCs (G : Ge) : ∀ (k : Cs) (c : Ctx) (X : Cx) (st : List Stmt), Fit G c X → chkCs c k st = true → PSs X st (upS X.K (rdCs G k))
  | .nil, c, X, [], F, h => s_nil
  | .nil, c, X, _ :: _, F, h => Bool.noConfusion h
  | .cons k ks, c, X, [], F, h => Bool.noConfusion h
  | .cons k ks, c, X, x :: xs, F, h => by
    have h : (chkC c k x && chkCs c ks xs) = true := h
    simp only [Bool.and_eq_true] at h
    exact s_cons (sC G k c X x F h.1) (sCs G ks c X xs F h.2)
  | .freeze i ks, c, X, xs, F, h => s_freeze (sCs G ks c X xs F h)
end
end Zz
end
section
/-! Z15: a def by its check and its plain law; a table of defs; the law's end. -/
namespace Zz
open PySem PySem.Spec PyProof.Rows L2

def zstart (N : List Str) (ds : List D) : Sl := ds.map some ++ List.replicate (N.length - ds.length) none
theorem Rel.start {K : PySem.W.Frag} {H : Hp} {M : Mh} {N : List Str} {ds : List D} {vs : List V} (r : Reps K H M ds vs) (R : HRel K M H) : Rel K (zstart N ds) M (L2.start N vs) H where
  len := by unfold zstart L2.start; simp only [List.length_append, List.length_map, List.length_replicate, r.length]
  at' := fun i d h => by
    unfold zstart at h
    by_cases hi : i < ds.length
    · rw [List.getElem?_append_left (by simpa using hi), List.getElem?_map] at h
      cases e : ds[i]? with
      | none => rw [e] at h; cases h
      | some d' =>
        rw [e] at h
        cases h
        obtain ⟨v, hv, rv⟩ := r.get e
        refine ⟨v, ?_, rv⟩
        unfold L2.start
        rw [List.getElem?_append_left (by rw [List.length_map, r.length]; exact hi), List.getElem?_map, hv]
        rfl
    · rw [List.getElem?_append_right (by simpa using hi), List.getElem?_replicate] at h
      split at h <;> cases h
  heap := R
/-- a def's ends: what it has tracked of its own is forgotten -/
def zEnds (q : KD) : ZEnds := { nx := fun _ M2 => ∃ M3, Sub M3 M2 ∧ q .non M3, rt := fun d M2 => ∃ M3, Sub M3 M2 ∧ q d M3 }

section
variable {P : Program} {w : World} {K : PySem.W.Frag} {mg : Str → Option Value} {base : Heap}
theorem fnG_of {k : Nat} {f : Addr} {x qual : Str} {st : Stmt} {fd : FuncData} {N ps : List Str} {z : ZC} {G : Ge} {c : Ctx} {ir : Cs} (F : L2.Fun K x qual st f fd) (S : FnScope N ps (defScope st))
    (hz : ∀ ds M q, z ds M q → rdCs G ir (zEnds q) (zstart N ds) M) (hc : chkCs c ir (defBody st) = true)
    (hfit : ∀ (cdv : Value) (A : Around) (outer : List Env) (s : Shared) (H : Hp), Room k (A.deeper (envOfC qual (defScope st) s.heap.objs.size f cdv)) → A.guards = some [] → Fit G c (cxOf CX0 P w K mg base N qual (defScope st) f cdv A outer s H E0).nox) :
    FnG P w K mg base (k + 1) f fd ps z := by
  obtain ⟨oc, od, kV, doc, pm, an, cdv, ct, osl, rfl, lk, hcd⟩ := F.ex
  refine ⟨fun A outer s H args us vs Q hr hg e0 hb r hl ⟨ds, M, q, rr, hR, hz', hQ⟩ => ?_⟩
  have KX : K.In s.heap := e0.mod.kin.keeps fun b o e => (e0.bs b o e).1
  have lim : s.heap.NoLimit := e0.mod.nolimit.keeps fun b o e => (e0.bs b o e).1
  have hkind : ∀ y ∈ ps.zip us, (defScope st).names.lookup y.1 = some .local ∨ ((defScope st).names.lookup y.1 = some .cell ∧ ((cellsFrom (s.heap.objs.size + 1) (defScope st).names []).lookup y.1).isSome = true) := fun ⟨n, v⟩ hy => by
    rcases S.par n (List.of_mem_zip hy).1 with q | q
    · exact .inl q
    · exact .inr ⟨q, PySem.W.cellsFrom_some _ _ _ (.inl q)⟩
  refine codeAny_call_function hr.depth (KX _ _ lk) rfl S.co S.gen rfl (PySem.W.codeRec_of KX hcd) (hb _ _ _ _ ?_)
  refine wpAny_newFunctionEnv_cells S.kind hkind fun env he s1 x => ?_
  subst he
  refine ⟨lim.keeps x.toInCall.keep, codeAny_func ?_⟩
  have FT := hfit cdv A outer s H (hr.deeper _) hg
  have ht := (sCs G ir c _ _ FT hc).nox
  have hq : upS K (rdCs G ir) { nx := fun _ H' => Q .non H', rt := Q } (L2.start N vs) H :=
    ⟨zstart N ds, M, zEnds q, Rel.start rr hR, hz _ _ _ hz', fun s2 M2 σ2 H2 e R ⟨M3, sb, h⟩ => hQ _ _ _ _ (e.trans (Ext.sub sb)) (HRel.sub sb R.heap) mk_non h,
      fun d M2 v H2 e R r ⟨M3, sb, h⟩ => hQ _ _ _ _ (e.trans (Ext.sub sb)) (HRel.sub sb R) (Rep.ext (Ext.sub sb) _ _ r) h, fun _ _ _ _ _ _ h => h.elim, fun _ _ _ _ _ _ h => h.elim⟩
  have I : Inv (cxOf CX0 P w K mg base N qual (defScope st) f cdv A outer s H E0) [] (L2.start N vs) H s1 := inv_start S hr.hd e0 hl r x
  refine wpAny_mono (ht.run [] s1 (L2.start N vs) H _ I hq) (fun fl s' hs => ?_) fun e s' hs => hs
  have fin : ∀ {σ' : L2.St} {H' : Hp} {v : V} {u : Value}, Inv (cxOf CX0 P w K mg base N qual (defScope st) f cdv A outer s H E0) [] σ' H' s' → RelV v u → Q v H' → CE outer P w H s Q u s' :=
    fun {σ' H' v u} J rv q => ⟨v, H', J.os, J.bare, J.base, J.hok, rv, q⟩
  cases fl with
  | ret u =>
    obtain ⟨v, σ', H', J, rv, q⟩ := hs
    exact fin J rv q
  | next =>
    obtain ⟨σ', H', J, q⟩ := hs
    exact fin (v := V.non) (u := Value.none) J rfl q
  | brk =>
    obtain ⟨_, _, _, q⟩ := hs
    exact False.elim q
  | cont =>
    obtain ⟨_, _, _, q⟩ := hs
    exact False.elim q

/-- what a def promises, as it may be called -/
structure Lv (P : Program) (w : World) (K : PySem.W.Frag) (mg : Str → Option Value) (base : Heap) (k : Nat) (fi : Fi) (z : ZC) : Prop where
  ex : ∃ (j : Nat) (fa : Addr) (fd : FuncData), j ≤ k ∧ mg fi.name = some (.ref fa) ∧ PySem.W.keepIn K (.ref fa) = true ∧ FnG P w K mg base j fa fd fi.ps z ∧
    (∀ us : List Value, us.length = fi.ps.length → bindArgs fd ⟨us, []⟩ = pure (fi.ps.zip us)) ∧ (fi.kw = true → ∀ ws : List Value, ws.length = fi.ps.length → bindArgs fd ⟨[], fi.ps.zip ws⟩ = pure (fi.ps.zip ws))
/-- a constant of the module -/
def CnAt (K : PySem.W.Frag) (mg : Str → Option Value) (x : Str) (d : D) : Prop := ∃ (u : Value) (v : V), mg x = some u ∧ RelV v u ∧ ∀ H M, Rep K H M d v
/-- a def's data and what is proved of it -/
structure DefOk (K : PySem.W.Frag) (mg : Str → Option Value) (fns : List Fi) (cns : List Str) (G : Ge) (i : Nat) (fi : Fi) : Prop where
  ex : ∃ (st : Stmt) (f : Addr) (fd : FuncData) (N : List Str) (ir : Cs), L2.Fun K fi.name fi.name st f fd ∧ mg fi.name = some (.ref f) ∧ FnScope N fi.ps (defScope st) ∧ chkCs ⟨N, defScope st, defScope st, fns.take i, cns⟩ ir (defBody st) = true ∧
    (∀ ds M q, G.fn i ds M q → rdCs G ir (zEnds q) (zstart N ds) M) ∧
    (∀ us : List Value, us.length = fi.ps.length → bindArgs fd ⟨us, []⟩ = pure (fi.ps.zip us)) ∧ (fi.kw = true → ∀ ws : List Value, ws.length = fi.ps.length → bindArgs fd ⟨[], fi.ps.zip ws⟩ = pure (fi.ps.zip ws))
theorem fit_of {fns : List Fi} {cns : List Str} {G : Ge} {i : Nat} {x : Str} {st : Stmt} {N ps : List Str} {f : Addr} {cdv : Value} {A : Around} {outer : List Env} {s : Shared} {H : Hp} (hb : ∀ x ∈ bnames, mg x = none) (hcn : ∀ (j : Nat) (x : Str), cns[j]? = some x → CnAt K mg x (G.cn j))
    (low : ∀ (j : Nat) (fj : Fi), (fns.take i)[j]? = some fj → Lv P w K mg base i fj (G.fn j)) (S : FnScope N ps (defScope st)) (hr : Room i (A.deeper (envOfC x (defScope st) s.heap.objs.size f cdv))) (hg : A.guards = some []) :
    Fit G ⟨N, defScope st, defScope st, fns.take i, cns⟩ (cxOf CX0 P w K mg base N x (defScope st) f cdv A outer s H E0).nox :=
  { N := rfl, nd := S.nd, sc := rfl, kind := S.kind, calm := rfl, xe := rfl, fn := fun _ _ => rfl, guards := hg, units := by have := hr.un; show (A.deeper _).units + 100 < _; omega, bn := hb
    fns := fun j fj h => by
      obtain ⟨k, fa, fd', hk, h1, h2, h3, h4, h5⟩ := (low j fj h).ex
      exact ⟨k, fa, fd', h1, h2, hr.mono hk, h3, h4, h5⟩
    cns := hcn }
theorem lv_step {fns : List Fi} {cns : List Str} {G : Ge} {i : Nat} {fi : Fi} (hb : ∀ x ∈ bnames, mg x = none) (hcn : ∀ (j : Nat) (x : Str), cns[j]? = some x → CnAt K mg x (G.cn j))
    (low : ∀ (j : Nat) (fj : Fi), (fns.take i)[j]? = some fj → Lv P w K mg base i fj (G.fn j)) (d : DefOk K mg fns cns G i fi) : Lv P w K mg base (i + 1) fi (G.fn i) := by
  obtain ⟨st, f, fd, N, ir, hF, hm, S, hc, hz, b1, b2⟩ := d.ex
  exact ⟨i + 1, f, fd, Nat.le_refl _, hm, hF.kp, fnG_of hF S hz hc (fun cdv A outer s H hr hg => fit_of hb hcn low S hr hg), b1, b2⟩
theorem lv_mono {k k' : Nat} {fi : Fi} {z : ZC} (h : Lv P w K mg base k fi z) (hk : k ≤ k') : Lv P w K mg base k' fi z := by
  obtain ⟨j, fa, fd, h0, r⟩ := h.ex
  exact ⟨j, fa, fd, Nat.le_trans h0 hk, r⟩
theorem lv_all {fns : List Fi} {cns : List Str} {G : Ge} (hb : ∀ x ∈ bnames, mg x = none) (hcn : ∀ (j : Nat) (x : Str), cns[j]? = some x → CnAt K mg x (G.cn j)) (d : ∀ (i : Nat) (fi : Fi), fns[i]? = some fi → DefOk K mg fns cns G i fi) :
    ∀ (n : Nat) (j : Nat) (fj : Fi), (fns.take n)[j]? = some fj → Lv P w K mg base n fj (G.fn j)
  | 0, j, fj, h => by simp at h
  | n + 1, j, fj, h => by
    by_cases hj : j < n
    · exact lv_mono (lv_all hb hcn d n j fj (by rw [List.getElem?_take_of_lt hj]; rw [List.getElem?_take_of_lt (by omega)] at h; exact h)) (Nat.le_succ _)
    · have hl : j < n + 1 := by
        have := (List.getElem?_eq_some_iff.mp h).1
        rw [List.length_take] at this; omega
      obtain rfl : j = n := by omega
      rw [List.getElem?_take_of_lt hl] at h
      exact lv_step hb hcn (fun i fi hi => lv_all hb hcn d j i fi hi) (d j fj h)
end

/-! ### the end -/
theorem reps_intsV {K : PySem.W.Frag} {H : Hp} {M : Mh} : ∀ ns : List Int, Reps K H M (ns.map D.int) (ns.map V.int)
  | [] => Reps.nil
  | _ :: r => Reps.cons mk_int (reps_intsV r)
/-- the law's def returns True at the script -/
def LawZ (z : ZC) (n : Nat) : Prop := ∀ (ns : List Int) (M : Mh) (q : KD), ns.length ≤ n → (∀ M2, q (.bl true) M2) → z [.lst (ns.map D.int)] M q
theorem law_g {P : Program} {w : World} {K : PySem.W.Frag} {mg mb : Str → Option Value} {k n : Nat} {fa a : Addr} {fd : FuncData} {x : Str} {z : ZC} {s₁ : Shared} {vs : List Value} {ns : List Int}
    (KX : K.In s₁.heap) (hns : s₁.heap.Ns mainGlobals mg) (hb : s₁.heap.Ns builtinsNs mb) (hbb : ∀ x : Str, x ≠ "__name__" → mb x = bootBuiltins x) (hlim : s₁.heap.NoLimit) (hg : s₁.gens = #[])
    (ha : s₁.heap.get? a = some { cls := .type "list", data := .seq vs.toArray }) (hi : IntsAre vs ns) (hl : ns.length ≤ sizeLine) (hl2 : ns.length ≤ n) (hr : Room k callerA)
    (F : ∀ base : Heap, K.In base → base.Ns mainGlobals mg → FnG P w K mg base k fa fd [x] z) (hbind : ∀ (s : Shared) (u : Value), BindsTo s fd ⟨[u], []⟩ [(x, u)]) (hz : LawZ z n) :
    codeAny (model P w) callerA (.call (.ref fa) ⟨[.ref a], []⟩) (fun r s' => r = .ok (.ret (.bool true)) ∧ OldK s₁.heap s'.heap ∧ s'.os = s₁.os ∧ AllBare s'.gens) s₁ := by
  have rv := vals_ints hi
  have lenV := hi.length
  have core : ∀ H : Hp, Only H → StL K H mh0 a (ns.map V.int) → HOk P w H s₁.heap → (∀ b, H b ≠ none → b = a) → (H a ≠ none → K.lookup a = none) →
      codeAny (model P w) callerA (.call (.ref fa) ⟨[.ref a], []⟩) (fun r s' => r = .ok (.ret (.bool true)) ∧ OldK s₁.heap s'.heap ∧ s'.os = s₁.os ∧ AllBare s'.gens) s₁ := by
    intro H hO hS hok hA hK
    have base_of : ∀ {b : Addr} {o : Obj}, s₁.heap.get? b = some o → H b = none → (hidT s₁.heap H).get? b = some o := fun e n => hidT_get e n
    have noA : ∀ {b : Addr} {o : Obj} {es : Array DictEntry} {ep : Nat}, s₁.heap.get? b = some o → o.data = .dict es ep → H b = none := fun {b o es ep} e d => by
      cases q : H b with
      | none => rfl
      | some u =>
        have e' : b = a := hA b (by rw [q]; simp)
        subst e'
        rw [ha] at e; cases e
        have d' : Data.seq vs.toArray _ = Data.dict es ep := d
        cases d'
    have nsK : ∀ {b : Addr} {m : Str → Option Value}, s₁.heap.Ns b m → (hidT s₁.heap H).Ns b m := fun {b m} ⟨o, es, ep, e, d, r⟩ => ⟨o, es, ep, base_of e (noA e d), d, r⟩
    have hKb : K.In (hidT s₁.heap H) := fun b o e => base_of (KX b o e) (by
      cases q : H b with
      | none => rfl
      | some u =>
        have e' : b = a := hA b (by rw [q]; simp)
        subst e'
        rw [hK (by rw [q]; simp)] at e; cases e)
    have hM : Mod K mg (hidT s₁.heap H) := ⟨hKb, nsK hns, ⟨mb, nsK hb, hbb⟩, let ⟨mc, h1, h2⟩ := hlim; ⟨mc, nsK h1, h2⟩⟩
    have e0 : Env0 P w K mg (hidT s₁.heap H) callerA [] s₁ H := ⟨rfl, hM, fun b o e => of_hidT e, Nat.le_of_eq (hidT_size _ _), trivial, fun b hb => absurd (show b ∈ ([] : List Addr) from hb) (by simp), hok, .of_eq hg⟩
    have sp : spV K z [.ref a] H (fun v _ => v = .bl true) := ⟨[.lst (ns.map D.int)], mh0, fun d _ => d = .bl true, Reps.cons (mk_lst hS (reps_intsV ns)) Reps.nil, (fun b ds hb => by cases hb), hz ns mh0 (fun d _ => d = .bl true) hl2 (fun _ => rfl), (fun d M2 v H2 e2 R2 r2 h => by
      have h : d = .bl true := h
      subst h
      exact r2)⟩
    refine codeAny_mono ((F _ hKb (nsK hns)).run callerA [] s₁ H ⟨[.ref a], []⟩ [.ref a] [.ref a] (fun v _ => v = .bl true) hr rfl e0 (hbind s₁ (.ref a)) (.cons rfl .nil) rfl sp) fun r s' h => ?_
    cases r with
    | error e => exact h.elim
    | ok fl =>
      cases fl with
      | next => exact False.elim h
      | brk => exact False.elim h
      | cont => exact False.elim h
      | ret u =>
        obtain ⟨v, H', os, bare, un, hok', r', q⟩ := h
        have q' : v = .bl true := q
        subst q'
        obtain rfl : u = Value.bool true := r'
        refine ⟨rfl, OldK.of_keep fun b o e => ?_, os, bare⟩
        cases q : H b with
        | none => exact un.keep b o e q (by intro z; exact absurd (show b ∈ ([] : List Addr) from z) (by simp)) (by simp)
        | some u =>
          rcases hO b with z | ⟨ob, xs, z⟩
          · rw [q] at z; cases z
          · have z2 := un.frzs b ob _ z
            obtain ⟨e1, _⟩ := hok b _ z
            obtain ⟨e2, _⟩ := hok' b _ z2
            rw [e] at e1; cases e1
            exact e2
  cases hk : K.lookup a with
  | some o =>
    have e := KX a o hk
    rw [ha] at e
    cases e
    refine core (fun _ => none) (fun _ => .inl rfl) (.inr (.inr ⟨_, vs.toArray, _, hk, rfl, rfl, rfl, by rw [List.size_toArray, lenV]; exact hl, by simpa using rv⟩)) (fun b u z => by have z' : (none : Option HO) = some u := z; cases z') (fun b z => absurd rfl z) fun z => absurd rfl z
  | none =>
    refine core (fun b => if b = a then some (.frz { cls := .type "list", data := .seq vs.toArray } (.lst (ns.map V.int))) else none) (fun b => ?_) (.inl ⟨.inl (.inr ⟨{ cls := .type "list", data := .seq vs.toArray }, if_pos rfl⟩), rfl, by simp⟩) (fun b u z => ?_) (fun b z => ?_) fun _ => hk
    · by_cases hb : b = a
      · exact .inr ⟨_, _, if_pos hb⟩
      · exact .inl (if_neg hb)
    · by_cases hb : b = a
      · have z' := (if_pos hb).symm.trans z
        cases z'
        subst hb
        exact ⟨ha, by rw [List.length_map]; exact hl, vs, _, rv, ha⟩
      · have z' := (if_neg hb).symm.trans z
        cases z'
    · by_cases hb : b = a
      · exact hb
      · exact absurd (if_neg hb) z
/-- the goal that k_head leaves -/
theorem walk_z {l : PySem.W.OpenLaw} {n m : Nat} {q : Program} {loose : List Str} {XP : (Str → Option Value) → Heap → Prop} {YP : World → Heap → Prop} {d : DefRec} {K : Params → PySem.W.Frag} {fi : Fi} {fns : List Fi} {cns : List Str} {x : Str} (G : World → Ge)
    (hn : l.most = some n) (hn2 : n ≤ sizeLine) (hdf : d.params.defaults = []) (hr : Room (m + 1) callerA) (hfi : fns[m]? = some fi) (hname : fi.name = d.name) (hps : fi.ps = [x])
    (hY : ∀ (w : World) (h : Heap), YP w h → (K w.params).In h)
    (hb : ∀ (w : World) (mg : Str → Option Value) (h : Heap), (K w.params).In h → h.Ns mainGlobals mg → ∀ x ∈ bnames, mg x = none)
    (hcn : ∀ (w : World) (mg : Str → Option Value) (h : Heap), (K w.params).In h → h.Ns mainGlobals mg → ∀ (j : Nat) (x : Str), cns[j]? = some x → CnAt (K w.params) mg x ((G w).cn j))
    (hd : ∀ (w : World) (mg : Str → Option Value) (h : Heap), (K w.params).In h → h.Ns mainGlobals mg → ∀ (i : Nat) (fi : Fi), fns[i]? = some fi → DefOk (K w.params) mg fns cns (G w) i fi)
    (hz : ∀ w, LawZ ((G w).fn m) n) :
    PySem.W.WalkO q loose XP YP l.row.toRowW d [] (fun f vs => PySem.call f vs) := by
  refine Att.attach_call hn hdf fun w s₀ s₁ mg mb fa o pm cd doc a vs ns g Y ho hod hcd hmg hobj hints hlen hg => ?_
  have KX := hY w _ Y
  have hb' := hb w mg _ KX g.T.g
  have hcn' := hcn w mg _ KX g.T.g
  have hd' := hd w mg _ KX g.T.g
  obtain ⟨st, f, fd, N, ir, hF, hm, S, hc, hzz, b1, b2⟩ := (hd' m fi hfi).ex
  rw [hname, hmg] at hm
  cases hm
  have b1' : ∀ u : Value, bindArgs fd ⟨[u], []⟩ = pure [(x, u)] := fun u => by
    have := b1 [u] (by rw [hps]; rfl)
    rw [hps] at this
    exact this
  refine law_g (x := x) (z := (G w).fn m) (fd := fd) KX g.T.g g.T.b g.T.builtins g.T.nolimit hg hobj hints (Nat.le_trans hlen hn2) hlen hr (fun base hK hN => ?_) (fun s u => .of_eq (b1' u)) (hz w)
  rw [← hps]
  exact fnG_of hF S hzz hc fun cdv A outer s H hr hg => fit_of hb' hcn' (fun j fj hj => lv_all hb' hcn' hd' m j fj hj) S hr hg
end Zz
end
section
/-! Z16: small helps for the tables. -/
namespace Zz
open PySem PySem.Spec PyProof.Rows L2

def scB (N P : List Str) (sc : Scope) : Bool :=
  decide (sc.kind = .function) && !sc.isCoroutine && !sc.isGenerator && decide N.Nodup && decide (N.take P.length = P) && P.all (fun x => decide (sc.names.lookup x = some .local) || decide (sc.names.lookup x = some .cell)) && sc.names.all (fun y => !decide (y.2 = .free))
theorem fnScope_by2 {N P : List Str} {sc : Scope} (h : scB N P sc = true) : FnScope N P sc := by
  unfold scB at h
  simp only [Bool.and_eq_true, Bool.not_eq_true', decide_eq_true_eq, List.all_eq_true, Bool.or_eq_true, decide_eq_false_iff_not] at h
  obtain ⟨⟨⟨⟨⟨⟨h1, h2⟩, h3⟩, h4⟩, h5⟩, h6⟩, h7⟩ := h
  exact ⟨h1, h2, h3, h4, h5, h6, h7⟩
end Zz
end
section
/-! the text in the small language (printed by gen.py) -/
namespace K46
open PySem PySem.Spec PyProof.Rows L2 Zz
def topS (i : Nat) : Stmt := PySem.Challenge.pw_crossingstold_k46_whole_plans_of_looks_a.main.body.getD i (.Pass ⟨0, 0, 0, 0⟩)
def fns : List Fi := [
  ⟨"is_whole", ["value"], false⟩,
  ⟨"is_tuple", ["value", "least", "most"], false⟩,
  ⟨"common", ["one", "other"], false⟩,
  ⟨"fraction", ["top", "bottom"], false⟩,
  ⟨"whole", ["number"], false⟩,
  ⟨"is_fraction", ["value"], false⟩,
  ⟨"plus", ["one", "other"], false⟩,
  ⟨"less", ["one", "other"], false⟩,
  ⟨"times", ["one", "other"], false⟩,
  ⟨"over", ["one", "other"], false⟩,
  ⟨"compared", ["one", "other"], false⟩,
  ⟨"is_below", ["one", "other"], false⟩,
  ⟨"root_floor", ["number"], false⟩,
  ⟨"sign", ["number"], false⟩,
  ⟨"square", ["number"], false⟩,
  ⟨"sign_of_one", ["c", "a", "d"], false⟩,
  ⟨"sign_of_two", ["c", "a", "d", "b", "e"], false⟩,
  ⟨"discriminant", ["a", "b", "c"], false⟩,
  ⟨"moment_of_whole", ["a", "b", "c", "side"], false⟩,
  ⟨"scaled_up", ["numbers"], false⟩,
  ⟨"moment_by", ["a", "b", "c", "side"], false⟩,
  ⟨"told_parts", ["moment"], false⟩,
  ⟨"compared_moments", ["one", "other"], false⟩,
  ⟨"shifted_by", ["moment", "by"], false⟩,
  ⟨"scaled_by", ["moment", "by"], false⟩,
  ⟨"floor_of", ["moment", "parts"], false⟩,
  ⟨"rounded_by", ["moment", "n"], false⟩,
  ⟨"is_point", ["value"], false⟩,
  ⟨"is_from_nought", ["value"], false⟩,
  ⟨"check_length", ["value"], false⟩,
  ⟨"check_speed", ["value"], false⟩,
  ⟨"point_less", ["one", "other"], false⟩,
  ⟨"product", ["one", "other"], false⟩,
  ⟨"is_look", ["value"], false⟩,
  ⟨"check_look", ["value"], false⟩,
  ⟨"sides_of", ["patch"], false⟩,
  ⟨"square_of", ["one", "other"], false⟩,
  ⟨"led", ["point", "pair", "by"], false⟩,
  ⟨"turn", ["one", "two", "three"], false⟩,
  ⟨"is_ahead", ["one", "other"], false⟩,
  ⟨"is_patch", ["value"], false⟩,
  ⟨"is_report", ["value"], false⟩,
  ⟨"is_way", ["value"], false⟩,
  ⟨"check_way", ["value"], false⟩,
  ⟨"legs_of", ["way"], false⟩,
  ⟨"run_of", ["one", "other", "axis"], false⟩,
  ⟨"leg_at", ["way", "moment"], false⟩,
  ⟨"at_of", ["way", "moment"], false⟩,
  ⟨"speeds", ["way"], false⟩,
  ⟨"check_patches", ["value"], false⟩,
  ⟨"check_asked", ["look", "speed", "patches", "length"], false⟩,
  ⟨"near_on", ["point", "side"], false⟩,
  ⟨"rim_of", ["point", "patch"], false⟩,
  ⟨"nearest_rim", ["point", "patches"], false⟩,
  ⟨"root_after", ["moment", "square"], false⟩,
  ⟨"next_of", ["look", "speed", "patches", "length"], false⟩,
  ⟨"next_look", ["look", "speed", "patches", "length"], false⟩,
  ⟨"check_plan", ["way", "speed", "patches", "length", "step"], false⟩,
  ⟨"on_steps", ["moment", "first", "step"], false⟩,
  ⟨"plan", ["way", "speed", "patches", "length", "step"], true⟩,
  ⟨"_law_pot", ["script", "place"], false⟩,
  ⟨"_law_take", ["pot", "upto"], false⟩,
  ⟨"_law_of", ["pot", "some"], false⟩,
  ⟨"_law_cells", ["script", "limit"], false⟩,
  ⟨"_law_common", ["one", "other"], false⟩,
  ⟨"_law_fraction", ["top", "bottom"], false⟩,
  ⟨"_law_sign", ["number"], false⟩,
  ⟨"_law_sign_one", ["a", "b", "d"], false⟩,
  ⟨"_law_sign_two", ["a", "b", "d", "c", "e"], false⟩,
  ⟨"_law_number", ["moment"], false⟩,
  ⟨"_law_compare", ["one", "other"], false⟩,
  ⟨"_law_drawn_fraction", ["pot", "most"], false⟩,
  ⟨"_law_drawn_point", ["pot", "most"], false⟩,
  ⟨"_law_drawn_way", ["pot", "legs"], false⟩,
  ⟨"_law_plus", ["one", "other"], false⟩,
  ⟨"_law_minus", ["one", "other"], false⟩,
  ⟨"_law_product", ["one", "other"], false⟩,
  ⟨"_law_at_most", ["one", "other"], false⟩,
  ⟨"_law_square_of", ["one", "other"], false⟩,
  ⟨"_law_to_side", ["point", "one", "other"], false⟩,
  ⟨"_law_rim", ["point", "patch"], false⟩,
  ⟨"_law_latest", ["look", "speed", "patches", "length"], false⟩,
  ⟨"_law_is_slow", ["way", "speed"], false⟩,
  ⟨"_law_drawn_patch", ["pot"], false⟩,
  ⟨"_law_place", ["way", "moment"], false⟩,
  ⟨"_law_step_number", ["first", "step", "count"], false⟩,
  ⟨"_law_steps_to", ["first", "step", "number"], false⟩,
  ⟨"_law_own_plan", ["way", "speed", "patches", "length", "step"], false⟩,
  ⟨"_law_kept_speed", ["way"], false⟩,
  ⟨"_law_fewer_by_chance", ["pot", "way", "speed", "patches", "length", "step", "many"], false⟩,
  ⟨"_law_right", ["pot"], false⟩,
  ⟨"law", ["script"], false⟩]
def cns : List Str := ["PAIR_numbers", "PAIR_moments", "QUAD", "NOUGHT_numbers", "PAIR_points", "PAIR_nearing", "MOST_CORNERS", "LEAST_CORNERS", "PAIR_ways", "MOST_REPORTS", "MOST_PATCHES", "NOUGHT_looks", "ONE", "MOST_STEPS"]
def N_is_whole : List Str := ["value"]
def ir_is_whole : Cs :=
  (.cons (.ret (.andd (.isi (.var 0) .int) (.cons false (.nott (.isi (.var 0) .bool)) .nil))) .nil)
def N_is_tuple : List Str := ["value", "least", "most"]
def ir_is_tuple : Cs :=
  (.cons (.ret (.andd (.isi (.var 0) .tuple) (.cons false (.cmp .le (.var 1) (.bi .len (.cons false (.var 0) .nil))) (.cons false (.orr (.cmp .is (.var 2) .non) (.cons false (.cmp .le (.bi .len (.cons false (.var 0) .nil)) (.var 2)) .nil)) .nil)))) .nil)
def N_common : List Str := ["one", "other"]
def ir_common : Cs :=
  (.cons (.asg (.tup (.cons (.name 0) (.cons (.name 1) .nil))) (.tup (.cons false (.bi .abs (.cons false (.var 0) .nil)) (.cons false (.bi .abs (.cons false (.var 1) .nil)) .nil)))) (.cons (.whl (.cmp .ne (.var 1) (.int 0)) (.cons (.asg (.tup (.cons (.name 0) (.cons (.name 1) .nil))) (.tup (.cons false (.var 1) (.cons false (.bin .mod (.var 0) (.var 1)) .nil)))) .nil)) (.cons (.ret (.var 0)) .nil)))
def N_fraction : List Str := ["top", "bottom", "by"]
def ir_fraction : Cs :=
  (.cons (.asg (.name 2) (.call 2 (.cons false (.var 0) (.cons false (.var 1) .nil)) .nil)) (.cons (.asg (.name 2) (.ite (.cmp .gt (.var 1) (.int 0)) (.var 2) (.neg (.var 2)))) (.cons (.ret (.tup (.cons false (.bin .fdiv (.var 0) (.var 2)) (.cons false (.bin .fdiv (.var 1) (.var 2)) .nil)))) .nil)))
def N_whole : List Str := ["number"]
def ir_whole : Cs :=
  (.cons (.ret (.tup (.cons false (.var 0) (.cons false (.int 1) .nil)))) .nil)
def N_is_fraction : List Str := ["value", "part"]
def ir_is_fraction : Cs :=
  (.cons (.iff (.orr (.nott (.call 1 (.cons false (.var 0) (.cons false (.con 0) (.cons false (.con 0) .nil))) .nil)) (.cons false (.nott (.bi .all (.cons false (.comp false [("part", 1)] (.name 1) (.seq (.var 0)) .nil (.call 0 (.cons false (.var 1) .nil) .nil)) .nil))) .nil)) (.cons (.ret (.bl false)) .nil) .nil) (.cons (.ret (.andd (.cmp .ge (.sub (.var 0) (.int 1)) (.int 1)) (.cons false (.cmp .eq (.call 2 (.cons false (.sub (.var 0) (.int 0)) (.cons false (.sub (.var 0) (.int 1)) .nil)) .nil) (.int 1)) .nil))) .nil))
def N_plus : List Str := ["one", "other"]
def ir_plus : Cs :=
  (.cons (.ret (.call 3 (.cons false (.bin .add (.bin .mul (.sub (.var 0) (.int 0)) (.sub (.var 1) (.int 1))) (.bin .mul (.sub (.var 1) (.int 0)) (.sub (.var 0) (.int 1)))) (.cons false (.bin .mul (.sub (.var 0) (.int 1)) (.sub (.var 1) (.int 1))) .nil)) .nil)) .nil)
def N_less : List Str := ["one", "other"]
def ir_less : Cs :=
  (.cons (.ret (.call 3 (.cons false (.bin .sub (.bin .mul (.sub (.var 0) (.int 0)) (.sub (.var 1) (.int 1))) (.bin .mul (.sub (.var 1) (.int 0)) (.sub (.var 0) (.int 1)))) (.cons false (.bin .mul (.sub (.var 0) (.int 1)) (.sub (.var 1) (.int 1))) .nil)) .nil)) .nil)
def N_times : List Str := ["one", "other"]
def ir_times : Cs :=
  (.cons (.ret (.call 3 (.cons false (.bin .mul (.sub (.var 0) (.int 0)) (.sub (.var 1) (.int 0))) (.cons false (.bin .mul (.sub (.var 0) (.int 1)) (.sub (.var 1) (.int 1))) .nil)) .nil)) .nil)
def N_over : List Str := ["one", "other"]
def ir_over : Cs :=
  (.cons (.ret (.call 3 (.cons false (.bin .mul (.sub (.var 0) (.int 0)) (.sub (.var 1) (.int 1))) (.cons false (.bin .mul (.sub (.var 0) (.int 1)) (.sub (.var 1) (.int 0))) .nil)) .nil)) .nil)
def N_compared : List Str := ["one", "other", "number"]
def ir_compared : Cs :=
  (.cons (.asg (.name 2) (.bin .sub (.bin .mul (.sub (.var 0) (.int 0)) (.sub (.var 1) (.int 1))) (.bin .mul (.sub (.var 1) (.int 0)) (.sub (.var 0) (.int 1))))) (.cons (.ret (.ite (.cmp .gt (.var 2) (.int 0)) (.int 1) (.ite (.cmp .eq (.var 2) (.int 0)) (.int 0) (.neg (.int 1))))) .nil))
def N_is_below : List Str := ["one", "other"]
def ir_is_below : Cs :=
  (.cons (.ret (.cmp .lt (.bin .mul (.sub (.var 0) (.int 0)) (.sub (.var 1) (.int 1))) (.bin .mul (.sub (.var 1) (.int 0)) (.sub (.var 0) (.int 1))))) .nil)
def N_root_floor : List Str := ["number", "found", "more"]
def ir_root_floor : Cs :=
  (.cons (.iff (.cmp .eq (.var 0) (.int 0)) (.cons (.ret (.int 0)) .nil) .nil) (.cons (.asg (.name 1) (.bin .shl (.int 1) (.bin .fdiv (.bin .add (.bits (.var 0)) (.int 1)) (.con 1)))) (.cons (.asg (.name 2) (.bin .fdiv (.bin .add (.var 1) (.bin .fdiv (.var 0) (.var 1))) (.con 1))) (.cons (.whl (.cmp .lt (.var 2) (.var 1)) (.cons (.asg (.name 1) (.var 2)) (.cons (.asg (.name 2) (.bin .fdiv (.bin .add (.var 1) (.bin .fdiv (.var 0) (.var 1))) (.con 1))) .nil))) (.cons (.ret (.var 1)) .nil)))))
def N_sign : List Str := ["number"]
def ir_sign : Cs :=
  (.cons (.ret (.ite (.cmp .gt (.var 0) (.int 0)) (.int 1) (.ite (.cmp .eq (.var 0) (.int 0)) (.int 0) (.neg (.int 1))))) .nil)
def N_square : List Str := ["number"]
def ir_square : Cs :=
  (.cons (.ret (.bin .mul (.var 0) (.bi .abs (.cons false (.var 0) .nil)))) .nil)
def N_sign_of_one : List Str := ["c", "a", "d"]
def ir_sign_of_one : Cs :=
  (.cons (.ret (.call 13 (.cons false (.bin .add (.call 14 (.cons false (.var 0) .nil) .nil) (.bin .mul (.call 14 (.cons false (.var 1) .nil) .nil) (.var 2))) .nil) .nil)) .nil)
def N_sign_of_two : List Str := ["c", "a", "d", "b", "e", "roots"]
def ir_sign_of_two : Cs :=
  (.cons (.asg (.name 5) (.call 13 (.cons false (.bin .add (.bin .mul (.call 14 (.cons false (.var 1) .nil) .nil) (.var 2)) (.bin .mul (.call 14 (.cons false (.var 3) .nil) .nil) (.var 4))) .nil) .nil)) (.cons (.iff (.orr (.cmp .eq (.var 0) (.int 0)) (.cons false (.cmp .eq (.var 5) (.int 0)) .nil)) (.cons (.ret (.ite (.cmp .eq (.var 0) (.int 0)) (.var 5) (.call 13 (.cons false (.var 0) .nil) .nil))) .nil) .nil) (.cons (.iff (.cmp .eq (.var 5) (.call 13 (.cons false (.var 0) .nil) .nil)) (.cons (.ret (.var 5)) .nil) .nil) (.cons (.ret (.bin .mul (.var 5) (.call 15 (.cons false (.bin .sub (.bin .add (.bin .mul (.bin .mul (.var 1) (.var 1)) (.var 2)) (.bin .mul (.bin .mul (.var 3) (.var 3)) (.var 4))) (.bin .mul (.var 0) (.var 0))) (.cons false (.bin .mul (.bin .mul (.con 1) (.var 1)) (.var 3)) (.cons false (.bin .mul (.var 2) (.var 4)) .nil))) .nil))) .nil))))
def N_discriminant : List Str := ["a", "b", "c"]
def ir_discriminant : Cs :=
  (.cons (.ret (.bin .sub (.bin .mul (.var 1) (.var 1)) (.bin .mul (.bin .mul (.con 2) (.var 0)) (.var 2)))) .nil)
def N_moment_of_whole : List Str := ["a", "b", "c", "side", "under", "half", "by"]
def ir_moment_of_whole : Cs :=
  (.cons (.iff (.cmp .eq (.var 0) (.int 0)) (.cons (.ret (.call 3 (.cons false (.neg (.var 2)) (.cons false (.var 1) .nil)) .nil)) .nil) .nil) (.cons (.iff (.cmp .lt (.var 0) (.int 0)) (.cons (.asg (.tup (.cons (.name 0) (.cons (.name 1) (.cons (.name 2) .nil)))) (.tup (.cons false (.neg (.var 0)) (.cons false (.neg (.var 1)) (.cons false (.neg (.var 2)) .nil))))) .nil) .nil) (.cons (.asg (.name 4) (.call 17 (.cons false (.var 0) (.cons false (.var 1) (.cons false (.var 2) .nil))) .nil)) (.cons (.iff (.cmp .lt (.var 4) (.int 0)) (.cons (.ret .non) .nil) .nil) (.cons (.asg (.name 5) (.call 12 (.cons false (.var 4) .nil) .nil)) (.cons (.iff (.cmp .eq (.bin .mul (.var 5) (.var 5)) (.var 4)) (.cons (.ret (.call 3 (.cons false (.bin .sub (.bin .mul (.var 3) (.var 5)) (.var 1)) (.cons false (.bin .mul (.con 1) (.var 0)) .nil)) .nil)) .nil) .nil) (.cons (.asg (.name 6) (.call 2 (.cons false (.call 2 (.cons false (.var 0) (.cons false (.var 1) .nil)) .nil) (.cons false (.var 2) .nil)) .nil)) (.cons (.ret (.tup (.cons false (.bin .fdiv (.var 0) (.var 6)) (.cons false (.bin .fdiv (.var 1) (.var 6)) (.cons false (.bin .fdiv (.var 2) (.var 6)) (.cons false (.var 3) .nil)))))) .nil))))))))
def N_scaled_up : List Str := ["numbers", "bottom", "top", "under"]
def ir_scaled_up : Cs :=
  (.cons (.asg (.name 1) (.int 1)) (.cons (.forr (.tup (.cons (.name 2) (.cons (.name 3) .nil))) (.seq (.var 0)) (.cons (.asg (.name 1) (.bin .mul (.bin .fdiv (.var 1) (.call 2 (.cons false (.var 1) (.cons false (.var 3) .nil)) .nil)) (.var 3))) .nil)) (.cons (.ret (.comp false [("top", 2), ("under", 3)] (.tup (.cons (.name 2) (.cons (.name 3) .nil))) (.seq (.var 0)) .nil (.bin .mul (.var 2) (.bin .fdiv (.var 1) (.var 3))))) .nil)))
def N_moment_by : List Str := ["a", "b", "c", "side", "p", "q", "r"]
def ir_moment_by : Cs :=
  (.cons (.asg (.tup (.cons (.name 4) (.cons (.name 5) (.cons (.name 6) .nil)))) (.call 19 (.cons false (.lst false (.cons false (.var 0) (.cons false (.var 1) (.cons false (.var 2) .nil)))) .nil) .nil)) (.cons (.ret (.call 18 (.cons false (.var 4) (.cons false (.var 5) (.cons false (.var 6) (.cons false (.var 3) .nil)))) .nil)) .nil))
def N_told_parts : List Str := ["moment", "a", "b", "c", "side"]
def ir_told_parts : Cs :=
  (.cons (.iff (.cmp .eq (.bi .len (.cons false (.var 0) .nil)) (.con 1)) (.cons (.ret (.tup (.cons false (.sub (.var 0) (.int 0)) (.cons false (.int 0) (.cons false (.int 1) (.cons false (.sub (.var 0) (.int 1)) .nil)))))) .nil) .nil) (.cons (.asg (.tup (.cons (.name 1) (.cons (.name 2) (.cons (.name 3) (.cons (.name 4) .nil))))) (.var 0)) (.cons (.ret (.tup (.cons false (.neg (.var 2)) (.cons false (.var 4) (.cons false (.call 17 (.cons false (.var 1) (.cons false (.var 2) (.cons false (.var 3) .nil))) .nil) (.cons false (.bin .mul (.con 1) (.var 1)) .nil)))))) .nil)))
def N_compared_moments : List Str := ["one", "other", "p", "s", "d", "q", "u", "v", "e", "w"]
def ir_compared_moments : Cs :=
  (.cons (.iff (.cmp .eq (.var 0) (.var 1)) (.cons (.ret (.int 0)) .nil) .nil) (.cons (.asg (.tup (.cons (.name 2) (.cons (.name 3) (.cons (.name 4) (.cons (.name 5) .nil))))) (.call 21 (.cons false (.var 0) .nil) .nil)) (.cons (.asg (.tup (.cons (.name 6) (.cons (.name 7) (.cons (.name 8) (.cons (.name 9) .nil))))) (.call 21 (.cons false (.var 1) .nil) .nil)) (.cons (.ret (.call 16 (.cons false (.bin .sub (.bin .mul (.var 2) (.var 9)) (.bin .mul (.var 6) (.var 5))) (.cons false (.bin .mul (.var 3) (.var 9)) (.cons false (.var 4) (.cons false (.bin .mul (.neg (.var 7)) (.var 5)) (.cons false (.var 8) .nil))))) .nil)) .nil))))
def N_shifted_by : List Str := ["moment", "by", "a", "b", "c", "side", "twice", "last"]
def ir_shifted_by : Cs :=
  (.cons (.iff (.cmp .eq (.bi .len (.cons false (.var 0) .nil)) (.con 1)) (.cons (.ret (.call 6 (.cons false (.var 0) (.cons false (.var 1) .nil)) .nil)) .nil) .nil) (.cons (.asg (.tup (.cons (.name 2) (.cons (.name 3) (.cons (.name 4) (.cons (.name 5) .nil))))) (.var 0)) (.cons (.asg (.name 6) (.call 8 (.cons false (.call 4 (.cons false (.bin .mul (.con 1) (.var 2)) .nil) .nil) (.cons false (.var 1) .nil)) .nil)) (.cons (.asg (.name 7) (.call 6 (.cons false (.call 8 (.cons false (.call 8 (.cons false (.call 4 (.cons false (.var 2) .nil) .nil) (.cons false (.var 1) .nil)) .nil) (.cons false (.var 1) .nil)) .nil) (.cons false (.call 7 (.cons false (.call 4 (.cons false (.var 4) .nil) .nil) (.cons false (.call 8 (.cons false (.call 4 (.cons false (.var 3) .nil) .nil) (.cons false (.var 1) .nil)) .nil) .nil)) .nil) .nil)) .nil)) (.cons (.ret (.call 20 (.cons false (.call 4 (.cons false (.var 2) .nil) .nil) (.cons false (.call 7 (.cons false (.call 4 (.cons false (.var 3) .nil) .nil) (.cons false (.var 6) .nil)) .nil) (.cons false (.var 7) (.cons false (.var 5) .nil)))) .nil)) .nil)))))
def N_scaled_by : List Str := ["moment", "by", "a", "b", "c", "side"]
def ir_scaled_by : Cs :=
  (.cons (.iff (.cmp .eq (.bi .len (.cons false (.var 0) .nil)) (.con 1)) (.cons (.ret (.call 8 (.cons false (.var 0) (.cons false (.var 1) .nil)) .nil)) .nil) .nil) (.cons (.iff (.cmp .eq (.var 1) (.con 3)) (.cons (.ret (.con 3)) .nil) .nil) (.cons (.asg (.tup (.cons (.name 2) (.cons (.name 3) (.cons (.name 4) (.cons (.name 5) .nil))))) (.var 0)) (.cons (.ret (.call 20 (.cons false (.call 4 (.cons false (.var 2) .nil) .nil) (.cons false (.call 8 (.cons false (.call 4 (.cons false (.var 3) .nil) .nil) (.cons false (.var 1) .nil)) .nil) (.cons false (.call 8 (.cons false (.call 8 (.cons false (.call 4 (.cons false (.var 4) .nil) .nil) (.cons false (.var 1) .nil)) .nil) (.cons false (.var 1) .nil)) .nil) (.cons false (.bin .mul (.var 5) (.call 13 (.cons false (.sub (.var 1) (.int 0)) .nil) .nil)) .nil)))) .nil)) .nil))))
def N_floor_of : List Str := ["moment", "parts", "p", "s", "d", "q", "half"]
def ir_floor_of : Cs :=
  (.cons (.asg (.tup (.cons (.name 2) (.cons (.name 3) (.cons (.name 4) (.cons (.name 5) .nil))))) (.call 21 (.cons false (.var 0) .nil) .nil)) (.cons (.iff (.cmp .eq (.var 3) (.int 0)) (.cons (.ret (.bin .fdiv (.bin .mul (.var 2) (.var 1)) (.var 5))) .nil) .nil) (.cons (.asg (.name 6) (.call 12 (.cons false (.bin .mul (.bin .mul (.var 4) (.var 1)) (.var 1)) .nil) .nil)) (.cons (.ret (.bin .fdiv (.bin .add (.bin .mul (.var 2) (.var 1)) (.ite (.cmp .gt (.var 3) (.int 0)) (.var 6) (.bin .sub (.neg (.var 6)) (.int 1)))) (.var 5))) .nil))))
def N_rounded_by : List Str := ["moment", "n"]
def ir_rounded_by : Cs :=
  (.cons (.ret (.call 3 (.cons false (.call 25 (.cons false (.var 0) (.cons false (.bin .shl (.int 1) (.var 1)) .nil)) .nil) (.cons false (.bin .shl (.int 1) (.var 1)) .nil)) .nil)) .nil)
def N_is_point : List Str := ["value"]
def ir_is_point : Cs :=
  (.cons (.ret (.andd (.call 1 (.cons false (.var 0) (.cons false (.con 4) (.cons false (.con 4) .nil))) .nil) (.cons false (.call 5 (.cons false (.sub (.var 0) (.int 0)) .nil) .nil) (.cons false (.call 5 (.cons false (.sub (.var 0) (.int 1)) .nil) .nil) .nil)))) .nil)
def N_is_from_nought : List Str := ["value"]
def ir_is_from_nought : Cs :=
  (.cons (.ret (.andd (.call 5 (.cons false (.var 0) .nil) .nil) (.cons false (.cmp .ge (.sub (.var 0) (.int 0)) (.int 0)) .nil))) .nil)
def N_check_length : List Str := ["value"]
def ir_check_length : Cs :=
  (.cons (.iff (.nott (.call 28 (.cons false (.var 0) .nil) .nil)) (.cons .never .nil) .nil) .nil)
def N_check_speed : List Str := ["value"]
def ir_check_speed : Cs :=
  (.cons (.iff (.orr (.nott (.call 28 (.cons false (.var 0) .nil) .nil)) (.cons false (.cmp .eq (.sub (.var 0) (.int 0)) (.int 0)) .nil)) (.cons .never .nil) .nil) .nil)
def N_point_less : List Str := ["one", "other"]
def ir_point_less : Cs :=
  (.cons (.ret (.tup (.cons false (.call 7 (.cons false (.sub (.var 0) (.int 0)) (.cons false (.sub (.var 1) (.int 0)) .nil)) .nil) (.cons false (.call 7 (.cons false (.sub (.var 0) (.int 1)) (.cons false (.sub (.var 1) (.int 1)) .nil)) .nil) .nil)))) .nil)
def N_product : List Str := ["one", "other"]
def ir_product : Cs :=
  (.cons (.ret (.call 6 (.cons false (.call 8 (.cons false (.sub (.var 0) (.int 0)) (.cons false (.sub (.var 1) (.int 0)) .nil)) .nil) (.cons false (.call 8 (.cons false (.sub (.var 0) (.int 1)) (.cons false (.sub (.var 1) (.int 1)) .nil)) .nil) .nil)) .nil)) .nil)
def N_is_look : List Str := ["value"]
def ir_is_look : Cs :=
  (.cons (.ret (.andd (.call 1 (.cons false (.var 0) (.cons false (.con 5) (.cons false (.con 5) .nil))) .nil) (.cons false (.call 5 (.cons false (.sub (.var 0) (.int 0)) .nil) .nil) (.cons false (.call 27 (.cons false (.sub (.var 0) (.int 1)) .nil) .nil) .nil)))) .nil)
def N_check_look : List Str := ["value"]
def ir_check_look : Cs :=
  (.cons (.iff (.nott (.call 33 (.cons false (.var 0) .nil) .nil)) (.cons .never .nil) .nil) .nil)
def N_sides_of : List Str := ["patch"]
def ir_sides_of : Cs :=
  (.cons (.ret (.lzip (.var 0) (.tupS (.cons true (.slice (.var 0) (.some (.int 1)) .none) (.cons false (.sub (.var 0) (.int 0)) .nil))))) .nil)
def N_square_of : List Str := ["one", "other", "pair"]
def ir_square_of : Cs :=
  (.cons (.asg (.name 2) (.call 31 (.cons false (.var 0) (.cons false (.var 1) .nil)) .nil)) (.cons (.ret (.call 32 (.cons false (.var 2) (.cons false (.var 2) .nil)) .nil)) .nil))
def N_led : List Str := ["point", "pair", "by"]
def ir_led : Cs :=
  (.cons (.ret (.tup (.cons false (.call 6 (.cons false (.sub (.var 0) (.int 0)) (.cons false (.call 8 (.cons false (.var 2) (.cons false (.sub (.var 1) (.int 0)) .nil)) .nil) .nil)) .nil) (.cons false (.call 6 (.cons false (.sub (.var 0) (.int 1)) (.cons false (.call 8 (.cons false (.var 2) (.cons false (.sub (.var 1) (.int 1)) .nil)) .nil) .nil)) .nil) .nil)))) .nil)
def N_turn : List Str := ["one", "two", "three", "here"]
def ir_turn : Cs :=
  (.cons (.asg (.name 3) (.call 8 (.cons false (.call 7 (.cons false (.sub (.var 1) (.int 0)) (.cons false (.sub (.var 0) (.int 0)) .nil)) .nil) (.cons false (.call 7 (.cons false (.sub (.var 2) (.int 1)) (.cons false (.sub (.var 0) (.int 1)) .nil)) .nil) .nil)) .nil)) (.cons (.ret (.sub (.call 7 (.cons false (.var 3) (.cons false (.call 8 (.cons false (.call 7 (.cons false (.sub (.var 1) (.int 1)) (.cons false (.sub (.var 0) (.int 1)) .nil)) .nil) (.cons false (.call 7 (.cons false (.sub (.var 2) (.int 0)) (.cons false (.sub (.var 0) (.int 0)) .nil)) .nil) .nil)) .nil) .nil)) .nil) (.int 0))) .nil))
def N_is_ahead : List Str := ["one", "other"]
def ir_is_ahead : Cs :=
  (.cons (.ret (.orr (.call 11 (.cons false (.sub (.var 0) (.int 0)) (.cons false (.sub (.var 1) (.int 0)) .nil)) .nil) (.cons false (.andd (.cmp .eq (.sub (.var 0) (.int 0)) (.sub (.var 1) (.int 0))) (.cons false (.call 11 (.cons false (.sub (.var 0) (.int 1)) (.cons false (.sub (.var 1) (.int 1)) .nil)) .nil) .nil)) .nil))) .nil)
def N_is_patch : List Str := ["value", "point", "at", "others", "other"]
def ir_is_patch : Cs :=
  (.cons (.iff (.orr (.nott (.call 1 (.cons false (.var 0) (.cons false (.con 7) (.cons false (.con 6) .nil))) .nil)) (.cons false (.nott (.bi .all (.cons false (.comp false [("point", 1)] (.name 1) (.seq (.var 0)) .nil (.call 27 (.cons false (.var 1) .nil) .nil)) .nil))) .nil)) (.cons (.ret (.bl false)) .nil) .nil) (.cons (.iff (.nott (.bi .all (.cons false (.comp false [("point", 1)] (.name 1) (.seq (.slice (.var 0) (.some (.int 1)) .none)) .nil (.call 39 (.cons false (.sub (.var 0) (.int 0)) (.cons false (.var 1) .nil)) .nil)) .nil))) (.cons (.ret (.bl false)) .nil) .nil) (.cons (.forr (.tup (.cons (.name 2) (.cons (.name 1) .nil))) (.enum (.var 0)) (.cons (.asg (.name 3) (.comp false [("other", 4)] (.name 4) (.seq (.var 0)) (.cons false (.cmp .nmem (.var 4) (.tup (.cons false (.sub (.var 0) (.bin .sub (.var 2) (.int 1))) (.cons false (.var 1) .nil)))) .nil) (.var 4))) (.cons (.iff (.nott (.bi .all (.cons false (.comp false [("other", 4)] (.name 4) (.seq (.var 3)) .nil (.cmp .gt (.call 38 (.cons false (.sub (.var 0) (.bin .sub (.var 2) (.int 1))) (.cons false (.var 1) (.cons false (.var 4) .nil))) .nil) (.int 0))) .nil))) (.cons (.ret (.bl false)) .nil) .nil) .nil))) (.cons (.ret (.cmp .eq (.dlen [("point", 1)] 1 (.var 0)) (.bi .len (.cons false (.var 0) .nil)))) .nil))))
def N_is_report : List Str := ["value"]
def ir_is_report : Cs :=
  (.cons (.ret (.andd (.call 1 (.cons false (.var 0) (.cons false (.con 8) (.cons false (.con 8) .nil))) .nil) (.cons false (.call 5 (.cons false (.sub (.var 0) (.int 0)) .nil) .nil) (.cons false (.call 27 (.cons false (.sub (.var 0) (.int 1)) .nil) .nil) .nil)))) .nil)
def N_is_way : List Str := ["value", "report", "one", "other"]
def ir_is_way : Cs :=
  (.cons (.iff (.orr (.nott (.call 1 (.cons false (.var 0) (.cons false (.con 8) (.cons false (.con 9) .nil))) .nil)) (.cons false (.nott (.bi .all (.cons false (.comp false [("report", 1)] (.name 1) (.seq (.var 0)) .nil (.call 41 (.cons false (.var 1) .nil) .nil)) .nil))) .nil)) (.cons (.ret (.bl false)) .nil) .nil) (.cons (.ret (.bi .all (.cons false (.comp false [("one", 2), ("other", 3)] (.tup (.cons (.name 2) (.cons (.name 3) .nil))) (.zip (.var 0) (.slice (.var 0) (.some (.int 1)) .none)) .nil (.call 11 (.cons false (.sub (.var 2) (.int 0)) (.cons false (.sub (.var 3) (.int 0)) .nil)) .nil)) .nil))) .nil))
def N_check_way : List Str := ["value"]
def ir_check_way : Cs :=
  (.cons (.iff (.nott (.call 42 (.cons false (.var 0) .nil) .nil)) (.cons .never .nil) .nil) .nil)
def N_legs_of : List Str := ["way"]
def ir_legs_of : Cs :=
  (.cons (.ret (.lzip (.var 0) (.slice (.var 0) (.some (.int 1)) .none))) .nil)
def N_run_of : List Str := ["one", "other", "axis", "slope"]
def ir_run_of : Cs :=
  (.cons (.asg (.name 3) (.call 9 (.cons false (.call 7 (.cons false (.sub (.sub (.var 1) (.int 1)) (.var 2)) (.cons false (.sub (.sub (.var 0) (.int 1)) (.var 2)) .nil)) .nil) (.cons false (.call 7 (.cons false (.sub (.var 1) (.int 0)) (.cons false (.sub (.var 0) (.int 0)) .nil)) .nil) .nil)) .nil)) (.cons (.ret (.tup (.cons false (.var 3) (.cons false (.call 7 (.cons false (.sub (.sub (.var 0) (.int 1)) (.var 2)) (.cons false (.call 8 (.cons false (.var 3) (.cons false (.sub (.var 0) (.int 0)) .nil)) .nil) .nil)) .nil) .nil)))) .nil))
def N_leg_at : List Str := ["way", "moment", "one", "other"]
def ir_leg_at : Cs :=
  (.cons (.forr (.tup (.cons (.name 2) (.cons (.name 3) .nil))) (.seq (.call 44 (.cons false (.var 0) .nil) .nil)) (.cons (.iff (.cmp .le (.call 22 (.cons false (.var 1) (.cons false (.sub (.var 3) (.int 0)) .nil)) .nil) (.int 0)) (.cons (.ret (.tup (.cons false (.var 2) (.cons false (.var 3) .nil)))) .nil) .nil) .nil)) (.cons .never .nil))
def N_at_of : List Str := ["way", "moment", "one", "other", "found", "axis", "slope", "shift"]
def ir_at_of : Cs :=
  (.cons (.asg (.tup (.cons (.name 2) (.cons (.name 3) .nil))) (.call 46 (.cons false (.var 0) (.cons false (.var 1) .nil)) .nil)) (.cons (.asg (.name 4) (.lst true .nil)) (.cons (.forr (.name 5) (.seq (.tup (.cons false (.int 0) (.cons false (.int 1) .nil)))) (.cons (.asg (.tup (.cons (.name 6) (.cons (.name 7) .nil))) (.call 45 (.cons false (.var 2) (.cons false (.var 3) (.cons false (.var 5) .nil))) .nil)) (.cons (.expr (.app (.var 4) (.call 6 (.cons false (.call 8 (.cons false (.var 6) (.cons false (.var 1) .nil)) .nil) (.cons false (.var 7) .nil)) .nil))) .nil))) (.cons (.ret (.bi .tuple1 (.cons false (.var 4) .nil))) .nil))))
def N_speeds : List Str := ["way", "found", "one", "other", "across", "along"]
def ir_speeds : Cs :=
  (.cons (.expr (.call 43 (.cons false (.var 0) .nil) .nil)) (.cons (.asg (.name 1) (.lst true .nil)) (.cons (.forr (.tup (.cons (.name 2) (.cons (.name 3) .nil))) (.seq (.call 44 (.cons false (.var 0) .nil) .nil)) (.cons (.asg (.tup (.cons (.name 4) (.cons (.name 5) .nil))) (.tup (.cons false (.sub (.call 45 (.cons false (.var 2) (.cons false (.var 3) (.cons false (.int 0) .nil))) .nil) (.int 0)) (.cons false (.sub (.call 45 (.cons false (.var 2) (.cons false (.var 3) (.cons false (.int 1) .nil))) .nil) (.int 0)) .nil)))) (.cons (.expr (.app (.var 1) (.call 6 (.cons false (.call 8 (.cons false (.var 4) (.cons false (.var 4) .nil)) .nil) (.cons false (.call 8 (.cons false (.var 5) (.cons false (.var 5) .nil)) .nil) .nil)) .nil))) .nil))) (.cons (.ret (.bi .tuple1 (.cons false (.var 1) .nil))) .nil))))
def N_check_patches : List Str := ["value", "patch"]
def ir_check_patches : Cs :=
  (.cons (.iff (.orr (.nott (.call 1 (.cons false (.var 0) (.cons false (.int 1) (.cons false (.con 10) .nil))) .nil)) (.cons false (.nott (.bi .all (.cons false (.comp false [("patch", 1)] (.name 1) (.seq (.var 0)) .nil (.call 40 (.cons false (.var 1) .nil) .nil)) .nil))) .nil)) (.cons .never .nil) .nil) .nil)
def N_check_asked : List Str := ["look", "speed", "patches", "length"]
def ir_check_asked : Cs :=
  (.cons (.expr (.call 34 (.cons false (.var 0) .nil) .nil)) (.cons (.expr (.call 30 (.cons false (.var 1) .nil) .nil)) (.cons (.expr (.call 49 (.cons false (.var 2) .nil) .nil)) (.cons (.expr (.call 29 (.cons false (.var 3) .nil) .nil)) .nil))))
def N_near_on : List Str := ["point", "side", "way", "part"]
def ir_near_on : Cs :=
  (.cons (.asg (.name 2) (.call 31 (.cons false (.sub (.var 1) (.int 1)) (.cons false (.sub (.var 1) (.int 0)) .nil)) .nil)) (.cons (.asg (.name 3) (.call 9 (.cons false (.call 32 (.cons false (.call 31 (.cons false (.var 0) (.cons false (.sub (.var 1) (.int 0)) .nil)) .nil) (.cons false (.var 2) .nil)) .nil) (.cons false (.call 32 (.cons false (.var 2) (.cons false (.var 2) .nil)) .nil) .nil)) .nil)) (.cons (.asg (.name 3) (.ite (.cmp .lt (.sub (.var 3) (.int 0)) (.int 0)) (.con 11) (.ite (.call 11 (.cons false (.con 12) (.cons false (.var 3) .nil)) .nil) (.con 12) (.var 3)))) (.cons (.ret (.call 37 (.cons false (.sub (.var 1) (.int 0)) (.cons false (.var 2) (.cons false (.var 3) .nil))) .nil)) .nil))))
def N_rim_of : List Str := ["point", "patch", "found", "side", "near", "square"]
def ir_rim_of : Cs :=
  (.cons (.asg (.name 2) .non) (.cons (.forr (.name 3) (.seq (.call 35 (.cons false (.var 1) .nil) .nil)) (.cons (.asg (.name 4) (.call 51 (.cons false (.var 0) (.cons false (.var 3) .nil)) .nil)) (.cons (.asg (.name 5) (.call 36 (.cons false (.var 0) (.cons false (.var 4) .nil)) .nil)) (.cons (.iff (.orr (.cmp .is (.var 2) .non) (.cons false (.call 11 (.cons false (.var 5) (.cons false (.sub (.var 2) (.int 0)) .nil)) .nil) .nil)) (.cons (.asg (.name 2) (.tup (.cons false (.var 5) (.cons false (.var 3) (.cons false (.var 4) .nil))))) .nil) .nil) .nil)))) (.cons (.ret (.var 2)) .nil)))
def N_nearest_rim : List Str := ["point", "patches", "found", "number", "patch", "told"]
def ir_nearest_rim : Cs :=
  (.cons (.asg (.name 2) .non) (.cons (.forr (.tup (.cons (.name 3) (.cons (.name 4) .nil))) (.enum (.var 1)) (.cons (.asg (.name 5) (.call 52 (.cons false (.var 0) (.cons false (.var 4) .nil)) .nil)) (.cons (.iff (.orr (.cmp .is (.var 2) .non) (.cons false (.call 11 (.cons false (.sub (.var 5) (.int 0)) (.cons false (.sub (.var 2) (.int 1)) .nil)) .nil) .nil)) (.cons (.asg (.name 2) (.tupS (.cons false (.var 3) (.cons true (.var 5) .nil)))) .nil) .nil) .nil))) (.cons (.ret (.var 2)) .nil)))
def N_root_after : List Str := ["moment", "square"]
def ir_root_after : Cs :=
  (.cons (.ret (.call 20 (.cons false (.con 12) (.cons false (.call 8 (.cons false (.call 4 (.cons false (.neg (.con 5)) .nil) .nil) (.cons false (.var 0) .nil)) .nil) (.cons false (.call 7 (.cons false (.call 8 (.cons false (.var 0) (.cons false (.var 0) .nil)) .nil) (.cons false (.var 1) .nil)) .nil) (.cons false (.int 1) .nil)))) .nil)) .nil)
def N_next_of : List Str := ["look", "speed", "patches", "length", "square"]
def ir_next_of : Cs :=
  (.cons (.asg (.name 4) (.sub (.call 53 (.cons false (.sub (.var 0) (.int 1)) (.cons false (.var 2) .nil)) .nil) (.int 1))) (.cons (.ret (.call 54 (.cons false (.call 6 (.cons false (.sub (.var 0) (.int 0)) (.cons false (.var 3) .nil)) .nil) (.cons false (.call 9 (.cons false (.var 4) (.cons false (.call 8 (.cons false (.var 1) (.cons false (.var 1) .nil)) .nil) .nil)) .nil) .nil)) .nil)) .nil))
def N_next_look : List Str := ["look", "speed", "patches", "length"]
def ir_next_look : Cs :=
  (.cons (.expr (.call 50 (.cons false (.var 0) (.cons false (.var 1) (.cons false (.var 2) (.cons false (.var 3) .nil)))) .nil)) (.cons (.ret (.call 55 (.cons false (.var 0) (.cons false (.var 1) (.cons false (.var 2) (.cons false (.var 3) .nil)))) .nil)) .nil))
def N_check_plan : List Str := ["way", "speed", "patches", "length", "step", "number", "square"]
def ir_check_plan : Cs :=
  (.cons (.expr (.call 43 (.cons false (.var 0) .nil) .nil)) (.cons (.expr (.call 30 (.cons false (.var 1) .nil) .nil)) (.cons (.forr (.tup (.cons (.name 5) (.cons (.name 6) .nil))) (.enum (.call 48 (.cons false (.var 0) .nil) .nil)) (.cons (.iff (.call 11 (.cons false (.call 8 (.cons false (.var 1) (.cons false (.var 1) .nil)) .nil) (.cons false (.var 6) .nil)) .nil) (.cons .never .nil) .nil) .nil)) (.cons (.expr (.call 49 (.cons false (.var 2) .nil) .nil)) (.cons (.expr (.call 29 (.cons false (.var 3) .nil) .nil)) (.cons (.iff (.orr (.nott (.call 5 (.cons false (.var 4) .nil) .nil)) (.cons false (.cmp .le (.sub (.var 4) (.int 0)) (.int 0)) (.cons false (.call 11 (.cons false (.var 3) (.cons false (.var 4) .nil)) .nil) .nil))) (.cons .never .nil) .nil) (.cons (.iff (.call 11 (.cons false (.call 8 (.cons false (.call 4 (.cons false (.con 13) .nil) .nil) (.cons false (.var 4) .nil)) .nil) (.cons false (.call 7 (.cons false (.sub (.sub (.var 0) (.neg (.int 1))) (.int 0)) (.cons false (.sub (.sub (.var 0) (.int 0)) (.int 0)) .nil)) .nil) .nil)) .nil) (.cons .never .nil) .nil) .nil)))))))
def N_on_steps : List Str := ["moment", "first", "step", "many"]
def ir_on_steps : Cs :=
  (.cons (.asg (.name 3) (.call 26 (.cons false (.call 24 (.cons false (.call 23 (.cons false (.var 0) (.cons false (.tup (.cons false (.neg (.sub (.var 1) (.int 0))) (.cons false (.sub (.var 1) (.int 1)) .nil))) .nil)) .nil) (.cons false (.tup (.cons false (.sub (.var 2) (.int 1)) (.cons false (.sub (.var 2) (.int 0)) .nil))) .nil)) .nil) (.cons false (.int 0) .nil)) .nil)) (.cons (.ret (.call 6 (.cons false (.var 1) (.cons false (.call 8 (.cons false (.var 3) (.cons false (.var 2) .nil)) .nil) .nil)) .nil)) .nil))
def N_plan : List Str := ["way", "speed", "patches", "length", "step", "first", "last", "found", "lap", "here", "there"]
def ir_plan : Cs :=
  (.cons (.expr (.call 57 (.cons false (.var 0) (.cons false (.var 1) (.cons false (.var 2) (.cons false (.var 3) (.cons false (.var 4) .nil))))) .nil)) (.cons (.asg (.tup (.cons (.name 5) (.cons (.name 6) .nil))) (.tup (.cons false (.sub (.sub (.var 0) (.int 0)) (.int 0)) (.cons false (.sub (.sub (.var 0) (.neg (.int 1))) (.int 0)) .nil)))) (.cons (.asg (.name 7) (.lst true (.cons false (.var 5) .nil))) (.cons (.forr (.name 8) (.seq (.lrange (.cons false (.con 13) .nil))) (.cons (.asg (.name 9) (.sub (.var 7) (.neg (.int 1)))) (.cons (.asg (.name 10) (.call 58 (.cons false (.call 55 (.cons false (.tup (.cons false (.var 9) (.cons false (.call 47 (.cons false (.var 0) (.cons false (.var 9) .nil)) .nil) .nil))) (.cons false (.var 1) (.cons false (.var 2) (.cons false (.var 3) .nil)))) .nil) (.cons false (.var 5) (.cons false (.var 4) .nil))) .nil)) (.cons (.iff (.cmp .gt (.call 10 (.cons false (.var 10) (.cons false (.var 6) .nil)) .nil) (.int 0)) (.cons (.ret (.bi .tuple1 (.cons false (.var 7) .nil))) .nil) .nil) (.cons (.expr (.app (.var 7) (.var 10))) .nil))))) (.cons (.ret (.bi .tuple1 (.cons false (.var 7) .nil))) .nil)))))
def N__law_pot : List Str := ["script", "place", "cell", "own", "small"]
def ir__law_pot : Cs :=
  (.cons (.asg (.name 2) (.ite (.cmp .lt (.var 1) (.bi .len (.cons false (.var 0) .nil))) (.sub (.var 0) (.var 1)) (.bin .add (.bin .add (.bin .mod (.bi .int1 (.cons false (.bi .sum (.cons false (.slice (.var 0) .none (.some (.int 1))) .nil)) .nil)) (.int 1000003)) (.bin .mul (.int 1637) (.var 1))) (.int 1555)))) (.cons (.asg (.name 3) (.bin .mul (.bin .mod (.bi .int1 (.cons false (.bi .abs (.cons false (.var 2) .nil)) .nil)) (.bin .pow (.bin .pow (.int 10) (.int 60)) (.int 5))) (.bi .int1 (.cons false (.cmp .ge (.bi .abs (.cons false (.var 2) .nil)) (.bin .pow (.int 10) (.int 18))) .nil)))) (.cons (.asg (.name 4) (.bin .mod (.bi .int1 (.cons false (.var 2) .nil)) (.int 2305843009213693951))) (.cons (.ret (.lst true (.cons false (.var 3) (.cons false (.bin .mod (.bi .int1 (.cons false (.bin .add (.bin .add (.bin .mul (.var 4) (.int 87049)) (.bin .mul (.bin .mul (.int 10453) (.var 1)) (.var 1))) (.int 733)) .nil)) (.int 2305843009213693921)) (.cons false (.int 0) .nil))))) .nil))))
def N__law_take : List Str := ["pot", "upto", "digit", "prime", "blend"]
def ir__law_take : Cs :=
  (.cons (.iff (.cmp .gt (.sub (.var 0) (.int 0)) (.int 0)) (.cons (.asg (.name 2) (.bin .mod (.bi .int1 (.cons false (.sub (.var 0) (.int 0)) .nil)) (.var 1))) (.cons (.asg (.item (.var 0) (.int 0)) (.bin .fdiv (.sub (.var 0) (.int 0)) (.var 1))) (.cons (.ret (.var 2)) .nil))) .nil) (.cons (.asg (.item (.var 0) (.int 2)) (.bin .add (.sub (.var 0) (.int 2)) (.int 1))) (.cons (.asg (.name 3) (.sub (.lst false (.cons false (.int 2147483647) (.cons false (.int 2147483629) (.cons false (.int 2147483587) (.cons false (.int 2147483579) (.cons false (.int 2147483563) .nil)))))) (.bin .mod (.bi .int1 (.cons false (.sub (.var 0) (.int 2)) .nil)) (.int 5)))) (.cons (.asg (.name 4) (.bin .mod (.bi .int1 (.cons false (.bin .pow (.bi .int1 (.cons false (.bin .add (.bin .add (.sub (.var 0) (.int 1)) (.bin .mul (.bin .mul (.int 101195) (.sub (.var 0) (.int 2))) (.sub (.var 0) (.int 2)))) (.int 1499)) .nil)) (.int 3)) .nil)) (.var 3))) (.cons (.ret (.bin .mod (.bi .int1 (.cons false (.bin .fdiv (.bin .mul (.var 4) (.bin .add (.bin .mod (.bi .int1 (.cons false (.var 4) .nil)) (.int 11587)) (.bin .mul (.int 639) (.sub (.var 0) (.int 2))))) (.int 331)) .nil)) (.var 1))) .nil)))))
def N__law_of : List Str := ["pot", "some"]
def ir__law_of : Cs :=
  (.cons (.ret (.sub (.var 1) (.call 61 (.cons false (.var 0) (.cons false (.bi .len (.cons false (.var 1) .nil)) .nil)) .nil))) .nil)
def N__law_cells : List Str := ["script", "limit"]
def ir__law_cells : Cs :=
  (.cons (.ret (.lrange (.cons false (.bi .max2 (.cons false (.int 1) (.cons false (.bi .min2 (.cons false (.var 1) (.cons false (.bi .len (.cons false (.var 0) .nil)) .nil))) .nil))) .nil))) .nil)
def N__law_common : List Str := ["one", "other"]
def ir__law_common : Cs :=
  (.cons (.asg (.tup (.cons (.name 0) (.cons (.name 1) .nil))) (.tup (.cons false (.bi .abs (.cons false (.var 0) .nil)) (.cons false (.bi .abs (.cons false (.var 1) .nil)) .nil)))) (.cons (.whl (.cmp .ne (.var 1) (.int 0)) (.cons (.asg (.tup (.cons (.name 0) (.cons (.name 1) .nil))) (.tup (.cons false (.var 1) (.cons false (.bin .mod (.var 0) (.var 1)) .nil)))) .nil)) (.cons (.ret (.var 0)) .nil)))
def N__law_fraction : List Str := ["top", "bottom", "part"]
def ir__law_fraction : Cs :=
  (.cons (.asg (.name 2) (.call 64 (.cons false (.var 0) (.cons false (.var 1) .nil)) .nil)) (.cons (.ret (.ite (.cmp .gt (.var 1) (.int 0)) (.tup (.cons false (.bin .fdiv (.var 0) (.var 2)) (.cons false (.bin .fdiv (.var 1) (.var 2)) .nil))) (.tup (.cons false (.bin .fdiv (.neg (.var 0)) (.var 2)) (.cons false (.bin .fdiv (.neg (.var 1)) (.var 2)) .nil))))) .nil))
def N__law_sign : List Str := ["number"]
def ir__law_sign : Cs :=
  (.cons (.ret (.bin .sub (.bi .int1 (.cons false (.cmp .gt (.var 0) (.int 0)) .nil)) (.bi .int1 (.cons false (.cmp .lt (.var 0) (.int 0)) .nil)))) .nil)
def N__law_sign_one : List Str := ["a", "b", "d", "one", "other"]
def ir__law_sign_one : Cs :=
  (.cons (.asg (.tup (.cons (.name 3) (.cons (.name 4) .nil))) (.tup (.cons false (.call 66 (.cons false (.var 0) .nil) .nil) (.cons false (.ite (.cmp .gt (.var 2) (.int 0)) (.call 66 (.cons false (.var 1) .nil) .nil) (.int 0)) .nil)))) (.cons (.iff (.cmp .ge (.bin .mul (.var 3) (.var 4)) (.int 0)) (.cons (.ret (.ite (.cmp .ne (.var 3) (.int 0)) (.var 3) (.var 4))) .nil) .nil) (.cons (.ret (.bin .mul (.var 3) (.call 66 (.cons false (.bin .sub (.bin .mul (.var 0) (.var 0)) (.bin .mul (.bin .mul (.var 1) (.var 1)) (.var 2))) .nil) .nil))) .nil)))
def N__law_sign_two : List Str := ["a", "b", "d", "c", "e", "one", "other", "mixed", "mine"]
def ir__law_sign_two : Cs :=
  (.cons (.asg (.tup (.cons (.name 5) (.cons (.name 6) .nil))) (.tup (.cons false (.ite (.cmp .gt (.var 2) (.int 0)) (.call 66 (.cons false (.var 1) .nil) .nil) (.int 0)) (.cons false (.ite (.cmp .gt (.var 4) (.int 0)) (.call 66 (.cons false (.var 3) .nil) .nil) (.int 0)) .nil)))) (.cons (.iff (.cmp .eq (.var 6) (.int 0)) (.cons (.ret (.call 67 (.cons false (.var 0) (.cons false (.var 1) (.cons false (.var 2) .nil))) .nil)) .nil) .nil) (.cons (.iff (.cmp .eq (.var 5) (.int 0)) (.cons (.ret (.call 67 (.cons false (.var 0) (.cons false (.var 3) (.cons false (.var 4) .nil))) .nil)) .nil) .nil) (.cons (.asg (.name 7) (.ite (.cmp .eq (.var 5) (.var 6)) (.var 5) (.bin .mul (.var 5) (.call 66 (.cons false (.bin .sub (.bin .mul (.bin .mul (.var 1) (.var 1)) (.var 2)) (.bin .mul (.bin .mul (.var 3) (.var 3)) (.var 4))) .nil) .nil)))) (.cons (.asg (.name 8) (.call 66 (.cons false (.var 0) .nil) .nil)) (.cons (.iff (.cmp .ge (.bin .mul (.var 8) (.var 7)) (.int 0)) (.cons (.ret (.ite (.cmp .ne (.var 8) (.int 0)) (.var 8) (.var 7))) .nil) .nil) (.cons (.ret (.bin .mul (.var 8) (.call 67 (.cons false (.bin .sub (.bin .sub (.bin .mul (.var 0) (.var 0)) (.bin .mul (.bin .mul (.var 1) (.var 1)) (.var 2))) (.bin .mul (.bin .mul (.var 3) (.var 3)) (.var 4))) (.cons false (.bin .mul (.bin .mul (.neg (.int 2)) (.var 1)) (.var 3)) (.cons false (.bin .mul (.var 2) (.var 4)) .nil))) .nil))) .nil)))))))
def N__law_number : List Str := ["moment", "a", "b", "c", "side"]
def ir__law_number : Cs :=
  (.cons (.iff (.cmp .eq (.bi .len (.cons false (.var 0) .nil)) (.int 2)) (.cons (.ret (.tup (.cons false (.sub (.var 0) (.int 0)) (.cons false (.int 0) (.cons false (.int 0) (.cons false (.sub (.var 0) (.int 1)) .nil)))))) .nil) .nil) (.cons (.asg (.tup (.cons (.name 1) (.cons (.name 2) (.cons (.name 3) (.cons (.name 4) .nil))))) (.var 0)) (.cons (.ret (.tup (.cons false (.neg (.var 2)) (.cons false (.var 4) (.cons false (.bin .sub (.bin .mul (.var 2) (.var 2)) (.bin .mul (.bin .mul (.int 4) (.var 1)) (.var 3))) (.cons false (.bin .mul (.int 2) (.var 1)) .nil)))))) .nil)))
def N__law_compare : List Str := ["one", "other", "p", "q", "d", "r", "s", "t", "e", "u"]
def ir__law_compare : Cs :=
  (.cons (.asg (.tup (.cons (.tup (.cons (.name 2) (.cons (.name 3) (.cons (.name 4) (.cons (.name 5) .nil))))) (.cons (.tup (.cons (.name 6) (.cons (.name 7) (.cons (.name 8) (.cons (.name 9) .nil))))) .nil))) (.tup (.cons false (.var 0) (.cons false (.var 1) .nil)))) (.cons (.ret (.call 68 (.cons false (.bin .sub (.bin .mul (.var 2) (.var 9)) (.bin .mul (.var 6) (.var 5))) (.cons false (.bin .mul (.var 3) (.var 9)) (.cons false (.var 4) (.cons false (.bin .mul (.neg (.var 7)) (.var 5)) (.cons false (.var 8) .nil))))) .nil)) .nil))
def N__law_drawn_fraction : List Str := ["pot", "most"]
def ir__law_drawn_fraction : Cs :=
  (.cons (.ret (.call 65 (.cons false (.bin .sub (.call 61 (.cons false (.var 0) (.cons false (.bin .add (.bin .mul (.int 2) (.var 1)) (.int 1)) .nil)) .nil) (.var 1)) (.cons false (.call 62 (.cons false (.var 0) (.cons false (.lst false (.cons false (.int 1) (.cons false (.int 1) (.cons false (.int 1) (.cons false (.int 2) (.cons false (.int 3) .nil)))))) .nil)) .nil) .nil)) .nil)) .nil)
def N__law_drawn_point : List Str := ["pot", "most"]
def ir__law_drawn_point : Cs :=
  (.cons (.ret (.tup (.cons false (.call 71 (.cons false (.var 0) (.cons false (.var 1) .nil)) .nil) (.cons false (.call 71 (.cons false (.var 0) (.cons false (.var 1) .nil)) .nil) .nil)))) .nil)
def N__law_drawn_way : List Str := ["pot", "legs", "moment", "found", "lap", "step"]
def ir__law_drawn_way : Cs :=
  (.cons (.asg (.tup (.cons (.name 2) (.cons (.name 3) .nil))) (.tup (.cons false (.tup (.cons false (.bin .sub (.call 61 (.cons false (.var 0) (.cons false (.int 5) .nil)) .nil) (.int 2)) (.cons false (.int 1) .nil))) (.cons false (.lst true .nil) .nil)))) (.cons (.forr (.name 4) (.range (.cons false (.bin .add (.var 1) (.int 1)) .nil)) (.cons (.expr (.app (.var 3) (.tup (.cons false (.var 2) (.cons false (.call 72 (.cons false (.var 0) (.cons false (.int 4) .nil)) .nil) .nil))))) (.cons (.asg (.name 5) (.call 62 (.cons false (.var 0) (.cons false (.lst false (.cons false (.tup (.cons false (.int 1) (.cons false (.int 1) .nil))) (.cons false (.tup (.cons false (.int 2) (.cons false (.int 1) .nil))) (.cons false (.tup (.cons false (.int 1) (.cons false (.int 2) .nil))) (.cons false (.tup (.cons false (.int 3) (.cons false (.int 1) .nil))) .nil))))) .nil)) .nil)) (.cons (.asg (.name 2) (.call 65 (.cons false (.bin .add (.bin .mul (.sub (.var 2) (.int 0)) (.sub (.var 5) (.int 1))) (.bin .mul (.sub (.var 5) (.int 0)) (.sub (.var 2) (.int 1)))) (.cons false (.bin .mul (.sub (.var 2) (.int 1)) (.sub (.var 5) (.int 1))) .nil)) .nil)) .nil)))) (.cons (.ret (.bi .tuple1 (.cons false (.var 3) .nil))) .nil)))
def N__law_plus : List Str := ["one", "other"]
def ir__law_plus : Cs :=
  (.cons (.ret (.call 65 (.cons false (.bin .add (.bin .mul (.sub (.var 0) (.int 0)) (.sub (.var 1) (.int 1))) (.bin .mul (.sub (.var 1) (.int 0)) (.sub (.var 0) (.int 1)))) (.cons false (.bin .mul (.sub (.var 0) (.int 1)) (.sub (.var 1) (.int 1))) .nil)) .nil)) .nil)
def N__law_minus : List Str := ["one", "other"]
def ir__law_minus : Cs :=
  (.cons (.ret (.call 65 (.cons false (.bin .sub (.bin .mul (.sub (.var 0) (.int 0)) (.sub (.var 1) (.int 1))) (.bin .mul (.sub (.var 1) (.int 0)) (.sub (.var 0) (.int 1)))) (.cons false (.bin .mul (.sub (.var 0) (.int 1)) (.sub (.var 1) (.int 1))) .nil)) .nil)) .nil)
def N__law_product : List Str := ["one", "other"]
def ir__law_product : Cs :=
  (.cons (.ret (.call 65 (.cons false (.bin .mul (.sub (.var 0) (.int 0)) (.sub (.var 1) (.int 0))) (.cons false (.bin .mul (.sub (.var 0) (.int 1)) (.sub (.var 1) (.int 1))) .nil)) .nil)) .nil)
def N__law_at_most : List Str := ["one", "other"]
def ir__law_at_most : Cs :=
  (.cons (.ret (.cmp .le (.bin .mul (.sub (.var 0) (.int 0)) (.sub (.var 1) (.int 1))) (.bin .mul (.sub (.var 1) (.int 0)) (.sub (.var 0) (.int 1))))) .nil)
def N__law_square_of : List Str := ["one", "other", "x", "y"]
def ir__law_square_of : Cs :=
  (.cons (.asg (.tup (.cons (.name 2) (.cons (.name 3) .nil))) (.tup (.cons false (.call 75 (.cons false (.sub (.var 0) (.int 0)) (.cons false (.sub (.var 1) (.int 0)) .nil)) .nil) (.cons false (.call 75 (.cons false (.sub (.var 0) (.int 1)) (.cons false (.sub (.var 1) (.int 1)) .nil)) .nil) .nil)))) (.cons (.ret (.call 74 (.cons false (.call 76 (.cons false (.var 2) (.cons false (.var 2) .nil)) .nil) (.cons false (.call 76 (.cons false (.var 3) (.cons false (.var 3) .nil)) .nil) .nil)) .nil)) .nil))
def N__law_to_side : List Str := ["point", "one", "other", "dx", "dy", "x", "y", "along", "long", "across"]
def ir__law_to_side : Cs :=
  (.cons (.asg (.tup (.cons (.name 3) (.cons (.name 4) .nil))) (.tup (.cons false (.call 75 (.cons false (.sub (.var 2) (.int 0)) (.cons false (.sub (.var 1) (.int 0)) .nil)) .nil) (.cons false (.call 75 (.cons false (.sub (.var 2) (.int 1)) (.cons false (.sub (.var 1) (.int 1)) .nil)) .nil) .nil)))) (.cons (.asg (.tup (.cons (.name 5) (.cons (.name 6) .nil))) (.tup (.cons false (.call 75 (.cons false (.sub (.var 0) (.int 0)) (.cons false (.sub (.var 1) (.int 0)) .nil)) .nil) (.cons false (.call 75 (.cons false (.sub (.var 0) (.int 1)) (.cons false (.sub (.var 1) (.int 1)) .nil)) .nil) .nil)))) (.cons (.asg (.tup (.cons (.name 7) (.cons (.name 8) .nil))) (.tup (.cons false (.call 74 (.cons false (.call 76 (.cons false (.var 3) (.cons false (.var 5) .nil)) .nil) (.cons false (.call 76 (.cons false (.var 4) (.cons false (.var 6) .nil)) .nil) .nil)) .nil) (.cons false (.call 78 (.cons false (.var 1) (.cons false (.var 2) .nil)) .nil) .nil)))) (.cons (.iff (.cmp .le (.sub (.var 7) (.int 0)) (.int 0)) (.cons (.ret (.call 78 (.cons false (.var 0) (.cons false (.var 1) .nil)) .nil)) .nil) .nil) (.cons (.iff (.nott (.call 77 (.cons false (.var 7) (.cons false (.var 8) .nil)) .nil)) (.cons (.ret (.call 78 (.cons false (.var 0) (.cons false (.var 2) .nil)) .nil)) .nil) .nil) (.cons (.asg (.name 9) (.call 75 (.cons false (.call 76 (.cons false (.var 3) (.cons false (.var 6) .nil)) .nil) (.cons false (.call 76 (.cons false (.var 4) (.cons false (.var 5) .nil)) .nil) .nil)) .nil)) (.cons (.ret (.call 65 (.cons false (.bin .mul (.bin .mul (.sub (.var 9) (.int 0)) (.sub (.var 9) (.int 0))) (.sub (.var 8) (.int 1))) (.cons false (.bin .mul (.bin .mul (.sub (.var 9) (.int 1)) (.sub (.var 9) (.int 1))) (.sub (.var 8) (.int 0))) .nil)) .nil)) .nil)))))))
def N__law_rim : List Str := ["point", "patch", "found", "one", "other", "far"]
def ir__law_rim : Cs :=
  (.cons (.asg (.name 2) .non) (.cons (.forr (.tup (.cons (.name 3) (.cons (.name 4) .nil))) (.zip (.var 1) (.bin .add (.slice (.var 1) (.some (.int 1)) .none) (.slice (.var 1) .none (.some (.int 1))))) (.cons (.asg (.name 5) (.call 79 (.cons false (.var 0) (.cons false (.var 3) (.cons false (.var 4) .nil))) .nil)) (.cons (.asg (.name 2) (.ite (.orr (.cmp .is (.var 2) .non) (.cons false (.call 77 (.cons false (.var 5) (.cons false (.var 2) .nil)) .nil) .nil)) (.var 5) (.var 2))) .nil))) (.cons (.ret (.var 2)) .nil)))
def N__law_latest : List Str := ["look", "speed", "patches", "length", "squares", "patch", "least", "far", "a", "b", "e", "f", "g", "h"]
def ir__law_latest : Cs :=
  (.cons (.asg (.name 4) (.comp false [("patch", 5)] (.name 5) (.seq (.var 2)) .nil (.call 80 (.cons false (.sub (.var 0) (.int 1)) (.cons false (.var 5) .nil)) .nil))) (.cons (.asg (.name 6) (.sub (.var 4) (.int 0))) (.cons (.forr (.name 7) (.seq (.var 4)) (.cons (.asg (.name 6) (.ite (.call 77 (.cons false (.var 7) (.cons false (.var 6) .nil)) .nil) (.var 7) (.var 6))) .nil)) (.cons (.asg (.tup (.cons (.tup (.cons (.name 8) (.cons (.name 9) .nil))) (.cons (.tup (.cons (.name 10) (.cons (.name 11) .nil))) (.cons (.tup (.cons (.name 12) (.cons (.name 13) .nil))) .nil)))) (.tup (.cons false (.call 74 (.cons false (.sub (.var 0) (.int 0)) (.cons false (.var 3) .nil)) .nil) (.cons false (.var 6) (.cons false (.var 1) .nil))))) (.cons (.ret (.tup (.cons false (.tup (.cons false (.bin .mul (.bin .mul (.var 8) (.var 11)) (.var 12)) (.cons false (.bin .mul (.var 9) (.var 13)) (.cons false (.bin .mul (.var 10) (.var 11)) (.cons false (.bin .mul (.bin .mul (.var 9) (.var 11)) (.var 12)) .nil))))) (.cons false (.index (.var 4) (.var 6)) .nil)))) .nil)))))
def N__law_is_slow : List Str := ["way", "speed", "one", "here", "other", "there", "span", "most"]
def ir__law_is_slow : Cs :=
  (.cons (.forr (.tup (.cons (.tup (.cons (.name 2) (.cons (.name 3) .nil))) (.cons (.tup (.cons (.name 4) (.cons (.name 5) .nil))) .nil))) (.zip (.var 0) (.slice (.var 0) (.some (.int 1)) .none)) (.cons (.asg (.name 6) (.call 75 (.cons false (.var 4) (.cons false (.var 2) .nil)) .nil)) (.cons (.asg (.name 7) (.call 76 (.cons false (.var 1) (.cons false (.var 6) .nil)) .nil)) (.cons (.iff (.nott (.call 77 (.cons false (.call 78 (.cons false (.var 3) (.cons false (.var 5) .nil)) .nil) (.cons false (.call 76 (.cons false (.var 7) (.cons false (.var 7) .nil)) .nil) .nil)) .nil)) (.cons (.ret (.bl false)) .nil) .nil) .nil)))) (.cons (.ret (.bl true)) .nil))
def N__law_drawn_patch : List Str := ["pot", "corners", "size", "x", "y", "a", "b"]
def ir__law_drawn_patch : Cs :=
  (.cons (.asg (.name 1) (.call 62 (.cons false (.var 0) (.cons false (.lst false (.cons false (.tup (.cons false (.tup (.cons false (.int 0) (.cons false (.int 0) .nil))) (.cons false (.tup (.cons false (.int 2) (.cons false (.int 0) .nil))) (.cons false (.tup (.cons false (.int 2) (.cons false (.int 2) .nil))) (.cons false (.tup (.cons false (.int 0) (.cons false (.int 2) .nil))) .nil))))) (.cons false (.tup (.cons false (.tup (.cons false (.int 0) (.cons false (.int 0) .nil))) (.cons false (.tup (.cons false (.int 3) (.cons false (.int 0) .nil))) (.cons false (.tup (.cons false (.int 1) (.cons false (.int 2) .nil))) .nil)))) (.cons false (.tup (.cons false (.tup (.cons false (.int 0) (.cons false (.int 0) .nil))) (.cons false (.tup (.cons false (.int 2) (.cons false (.neg (.int 1)) .nil))) (.cons false (.tup (.cons false (.int 3) (.cons false (.int 1) .nil))) (.cons false (.tup (.cons false (.int 2) (.cons false (.int 3) .nil))) (.cons false (.tup (.cons false (.int 0) (.cons false (.int 2) .nil))) .nil)))))) (.cons false (.tup (.cons false (.tup (.cons false (.int 0) (.cons false (.int 0) .nil))) (.cons false (.tup (.cons false (.int 4) (.cons false (.int 1) .nil))) (.cons false (.tup (.cons false (.int 1) (.cons false (.int 1) .nil))) .nil)))) (.cons false (.tup (.cons false (.tup (.cons false (.int 0) (.cons false (.int 0) .nil))) (.cons false (.tup (.cons false (.int 1) (.cons false (.neg (.int 1)) .nil))) (.cons false (.tup (.cons false (.int 2) (.cons false (.int 0) .nil))) (.cons false (.tup (.cons false (.int 1) (.cons false (.int 1) .nil))) .nil))))) .nil)))))) .nil)) .nil)) (.cons (.asg (.tup (.cons (.name 2) (.cons (.tup (.cons (.name 3) (.cons (.name 4) .nil))) .nil))) (.tup (.cons false (.call 62 (.cons false (.var 0) (.cons false (.lst false (.cons false (.tup (.cons false (.int 1) (.cons false (.int 1) .nil))) (.cons false (.tup (.cons false (.int 1) (.cons false (.int 2) .nil))) (.cons false (.tup (.cons false (.int 2) (.cons false (.int 1) .nil))) (.cons false (.tup (.cons false (.int 4) (.cons false (.int 3) .nil))) .nil))))) .nil)) .nil) (.cons false (.call 72 (.cons false (.var 0) (.cons false (.int 4) .nil)) .nil) .nil)))) (.cons (.ret (.bi .tuple1 (.cons false (.comp false [("a", 5), ("b", 6)] (.tup (.cons (.name 5) (.cons (.name 6) .nil))) (.seq (.var 1)) .nil (.tup (.cons false (.call 74 (.cons false (.var 3) (.cons false (.call 76 (.cons false (.var 2) (.cons false (.tup (.cons false (.var 5) (.cons false (.int 1) .nil))) .nil)) .nil) .nil)) .nil) (.cons false (.call 74 (.cons false (.var 4) (.cons false (.call 76 (.cons false (.var 2) (.cons false (.tup (.cons false (.var 6) (.cons false (.int 1) .nil))) .nil)) .nil) .nil)) .nil) .nil)))) .nil))) .nil)))
def N__law_place : List Str := ["way", "moment", "one", "here", "other", "there", "part", "span", "share", "a", "b"]
def ir__law_place : Cs :=
  (.cons (.forr (.tup (.cons (.tup (.cons (.name 2) (.cons (.name 3) .nil))) (.cons (.tup (.cons (.name 4) (.cons (.name 5) .nil))) .nil))) (.zip (.var 0) (.slice (.var 0) (.some (.int 1)) .none)) (.cons (.iff (.andd (.call 77 (.cons false (.var 2) (.cons false (.var 1) .nil)) .nil) (.cons false (.call 77 (.cons false (.var 1) (.cons false (.var 4) .nil)) .nil) .nil)) (.cons (.asg (.name 6) (.call 75 (.cons false (.var 1) (.cons false (.var 2) .nil)) .nil)) (.cons (.asg (.name 7) (.call 75 (.cons false (.var 4) (.cons false (.var 2) .nil)) .nil)) (.cons (.asg (.name 8) (.call 65 (.cons false (.bin .mul (.sub (.var 6) (.int 0)) (.sub (.var 7) (.int 1))) (.cons false (.bin .mul (.sub (.var 6) (.int 1)) (.sub (.var 7) (.int 0))) .nil)) .nil)) (.cons (.ret (.bi .tuple1 (.cons false (.comp false [("a", 9), ("b", 10)] (.tup (.cons (.name 9) (.cons (.name 10) .nil))) (.zip (.var 3) (.var 5)) .nil (.call 74 (.cons false (.var 9) (.cons false (.call 76 (.cons false (.var 8) (.cons false (.call 75 (.cons false (.var 10) (.cons false (.var 9) .nil)) .nil) .nil)) .nil) .nil)) .nil)) .nil))) .nil)))) .nil) .nil)) (.cons (.ret .non) .nil))
def N__law_step_number : List Str := ["first", "step", "count", "found"]
def ir__law_step_number : Cs :=
  (.cons (.asg (.name 3) (.call 74 (.cons false (.var 0) (.cons false (.call 76 (.cons false (.var 1) (.cons false (.tup (.cons false (.var 2) (.cons false (.int 1) .nil))) .nil)) .nil) .nil)) .nil)) (.cons (.ret (.tup (.cons false (.sub (.var 3) (.int 0)) (.cons false (.int 0) (.cons false (.int 0) (.cons false (.sub (.var 3) (.int 1)) .nil)))))) .nil))
def N__law_steps_to : List Str := ["first", "step", "number", "count", "power"]
def ir__law_steps_to : Cs :=
  (.cons (.asg (.tup (.cons (.name 3) (.cons (.name 4) .nil))) (.tup (.cons false (.int 0) (.cons false (.int 1) .nil)))) (.cons (.whl (.cmp .le (.call 70 (.cons false (.call 85 (.cons false (.var 0) (.cons false (.var 1) (.cons false (.var 4) .nil))) .nil) (.cons false (.var 2) .nil)) .nil) (.int 0)) (.cons (.asg (.name 4) (.bin .mul (.int 2) (.var 4))) .nil)) (.cons (.whl (.cmp .gt (.var 4) (.int 0)) (.cons (.iff (.cmp .le (.call 70 (.cons false (.call 85 (.cons false (.var 0) (.cons false (.var 1) (.cons false (.bin .add (.var 3) (.var 4)) .nil))) .nil) (.cons false (.var 2) .nil)) .nil) (.int 0)) (.cons (.asg (.name 3) (.bin .add (.var 3) (.var 4))) .nil) .nil) (.cons (.asg (.name 4) (.bin .fdiv (.var 4) (.int 2))) .nil))) (.cons (.ret (.var 3)) .nil))))
def N__law_own_plan : List Str := ["way", "speed", "patches", "length", "step", "found", "latest", "due"]
def ir__law_own_plan : Cs :=
  (.cons (.asg (.name 5) (.lst true (.cons false (.sub (.sub (.var 0) (.int 0)) (.int 0)) .nil))) (.cons (.whl (.cmp .lt (.bi .len (.cons false (.var 5) .nil)) (.int 200)) (.cons (.asg (.name 6) (.sub (.call 81 (.cons false (.tup (.cons false (.sub (.var 5) (.neg (.int 1))) (.cons false (.call 84 (.cons false (.var 0) (.cons false (.sub (.var 5) (.neg (.int 1))) .nil)) .nil) .nil))) (.cons false (.var 1) (.cons false (.var 2) (.cons false (.var 3) .nil)))) .nil) (.int 0))) (.cons (.asg (.name 7) (.call 74 (.cons false (.sub (.sub (.var 0) (.int 0)) (.int 0)) (.cons false (.call 76 (.cons false (.var 4) (.cons false (.tup (.cons false (.call 86 (.cons false (.sub (.sub (.var 0) (.int 0)) (.int 0)) (.cons false (.var 4) (.cons false (.var 6) .nil))) .nil) (.cons false (.int 1) .nil))) .nil)) .nil) .nil)) .nil)) (.cons (.iff (.nott (.call 77 (.cons false (.var 7) (.cons false (.sub (.sub (.var 0) (.neg (.int 1))) (.int 0)) .nil)) .nil)) (.cons (.ret (.bi .tuple1 (.cons false (.var 5) .nil))) .nil) .nil) (.cons (.expr (.app (.var 5) (.var 7))) .nil))))) (.cons (.ret .non) .nil)))
def N__law_kept_speed : List Str := ["way", "speed"]
def ir__law_kept_speed : Cs :=
  (.cons (.asg (.name 1) (.int 1)) (.cons (.whl (.nott (.call 82 (.cons false (.var 0) (.cons false (.tup (.cons false (.var 1) (.cons false (.int 1) .nil))) .nil)) .nil)) (.cons (.asg (.name 1) (.bin .add (.var 1) (.int 1))) .nil)) (.cons (.ret (.tup (.cons false (.var 1) (.cons false (.int 1) .nil)))) .nil)))
def N__law_fewer_by_chance : List Str := ["pot", "way", "speed", "patches", "length", "step", "many", "found", "lap", "latest", "count", "gone"]
def ir__law_fewer_by_chance : Cs :=
  (.cons (.asg (.name 7) (.lst true (.cons false (.sub (.sub (.var 1) (.int 0)) (.int 0)) .nil))) (.cons (.forr (.name 8) (.range (.cons false (.var 6) .nil)) (.cons (.asg (.name 9) (.call 69 (.cons false (.call 56 (.cons false (.tup (.cons false (.sub (.var 7) (.neg (.int 1))) (.cons false (.call 84 (.cons false (.var 1) (.cons false (.sub (.var 7) (.neg (.int 1))) .nil)) .nil) .nil))) (.cons false (.var 2) (.cons false (.var 3) (.cons false (.var 4) .nil)))) .nil) .nil) .nil)) (.cons (.asg (.name 10) (.call 86 (.cons false (.sub (.sub (.var 1) (.int 0)) (.int 0)) (.cons false (.var 5) (.cons false (.var 9) .nil))) .nil)) (.cons (.iff (.nott (.call 77 (.cons false (.call 74 (.cons false (.sub (.sub (.var 1) (.int 0)) (.int 0)) (.cons false (.call 76 (.cons false (.var 5) (.cons false (.tup (.cons false (.var 10) (.cons false (.int 1) .nil))) .nil)) .nil) .nil)) .nil) (.cons false (.sub (.sub (.var 1) (.neg (.int 1))) (.int 0)) .nil)) .nil)) (.cons (.ret (.cmp .lt (.bi .len (.cons false (.var 7) .nil)) (.var 6))) .nil) .nil) (.cons (.asg (.name 11) (.call 86 (.cons false (.sub (.sub (.var 1) (.int 0)) (.int 0)) (.cons false (.var 5) (.cons false (.tup (.cons false (.sub (.sub (.var 7) (.neg (.int 1))) (.int 0)) (.cons false (.int 0) (.cons false (.int 0) (.cons false (.sub (.sub (.var 7) (.neg (.int 1))) (.int 1)) .nil))))) .nil))) .nil)) (.cons (.expr (.app (.var 7) (.call 74 (.cons false (.sub (.sub (.var 1) (.int 0)) (.int 0)) (.cons false (.call 76 (.cons false (.var 5) (.cons false (.tup (.cons false (.bi .max2 (.cons false (.bin .add (.var 11) (.int 1)) (.cons false (.bin .sub (.var 10) (.call 61 (.cons false (.var 0) (.cons false (.int 3) .nil)) .nil)) .nil))) (.cons false (.int 1) .nil))) .nil)) .nil) .nil)) .nil))) .nil)))))) (.cons (.ret (.bl false)) .nil)))
def N__law_right : List Str := ["pot", "way", "patches", "lap", "length", "speed", "step", "due", "told"]
def ir__law_right : Cs :=
  (.cons (.asg (.name 1) (.call 73 (.cons false (.var 0) (.cons false (.bin .add (.int 1) (.call 61 (.cons false (.var 0) (.cons false (.int 3) .nil)) .nil)) .nil)) .nil)) (.cons (.asg (.name 2) (.bi .tuple1 (.cons false (.comp false [("lap", 3)] (.name 3) (.range (.cons false (.bin .add (.int 1) (.call 61 (.cons false (.var 0) (.cons false (.int 2) .nil)) .nil)) .nil)) .nil (.call 83 (.cons false (.var 0) .nil) .nil)) .nil))) (.cons (.asg (.tup (.cons (.name 4) (.cons (.name 5) .nil))) (.tup (.cons false (.call 62 (.cons false (.var 0) (.cons false (.lst false (.cons false (.tup (.cons false (.int 1) (.cons false (.int 1) .nil))) (.cons false (.tup (.cons false (.int 1) (.cons false (.int 2) .nil))) (.cons false (.tup (.cons false (.int 2) (.cons false (.int 1) .nil))) .nil)))) .nil)) .nil) (.cons false (.call 88 (.cons false (.var 1) .nil) .nil) .nil)))) (.cons (.asg (.name 6) (.call 62 (.cons false (.var 0) (.cons false (.lst false (.cons false (.tup (.cons false (.int 1) (.cons false (.int 2) .nil))) (.cons false (.tup (.cons false (.int 1) (.cons false (.int 3) .nil))) (.cons false (.tup (.cons false (.int 1) (.cons false (.int 4) .nil))) (.cons false (.var 4) .nil))))) .nil)) .nil)) (.cons (.asg (.name 7) (.call 87 (.cons false (.var 1) (.cons false (.var 5) (.cons false (.var 2) (.cons false (.var 4) (.cons false (.var 6) .nil))))) .nil)) (.cons (.asg (.name 8) (.call 59 .nil (.cons false (.var 1) (.cons false (.var 5) (.cons false (.var 2) (.cons false (.var 4) (.cons false (.var 6) .nil))))))) (.cons (.iff (.orr (.cmp .is (.var 7) .non) (.cons false (.cmp .ne (.bi .repr (.cons false (.var 8) .nil)) (.bi .repr (.cons false (.var 7) .nil))) .nil)) (.cons (.ret (.bl false)) .nil) .nil) (.cons (.ret (.nott (.call 89 (.cons false (.var 0) (.cons false (.var 1) (.cons false (.var 5) (.cons false (.var 2) (.cons false (.var 4) (.cons false (.var 6) (.cons false (.bi .len (.cons false (.var 8) .nil)) .nil))))))) .nil))) .nil))))))))
def N_law : List Str := ["script", "place"]
def ir_law : Cs :=
  (.cons (.ret (.bi .all (.cons false (.comp false [("place", 1)] (.name 1) (.seq (.call 63 (.cons false (.var 0) (.cons false (.int 2) .nil)) .nil)) .nil (.call 90 (.cons false (.call 60 (.cons false (.var 0) (.cons false (.var 1) .nil)) .nil) .nil) .nil)) .nil))) .nil)
theorem sc_is_whole : FnScope N_is_whole ["value"] (defScope (topS 10)) := fnScope_by2 (by decide +kernel)
theorem ck_is_whole : chkCs ⟨N_is_whole, defScope (topS 10), defScope (topS 10), fns.take 0, cns⟩ ir_is_whole (defBody (topS 10)) = true := by decide +kernel
theorem sc_is_tuple : FnScope N_is_tuple ["value", "least", "most"] (defScope (topS 11)) := fnScope_by2 (by decide +kernel)
theorem ck_is_tuple : chkCs ⟨N_is_tuple, defScope (topS 11), defScope (topS 11), fns.take 1, cns⟩ ir_is_tuple (defBody (topS 11)) = true := by decide +kernel
theorem sc_common : FnScope N_common ["one", "other"] (defScope (topS 15)) := fnScope_by2 (by decide +kernel)
theorem ck_common : chkCs ⟨N_common, defScope (topS 15), defScope (topS 15), fns.take 2, cns⟩ ir_common (defBody (topS 15)) = true := by decide +kernel
theorem sc_fraction : FnScope N_fraction ["top", "bottom"] (defScope (topS 16)) := fnScope_by2 (by decide +kernel)
theorem ck_fraction : chkCs ⟨N_fraction, defScope (topS 16), defScope (topS 16), fns.take 3, cns⟩ ir_fraction (defBody (topS 16)) = true := by decide +kernel
theorem sc_whole : FnScope N_whole ["number"] (defScope (topS 17)) := fnScope_by2 (by decide +kernel)
theorem ck_whole : chkCs ⟨N_whole, defScope (topS 17), defScope (topS 17), fns.take 4, cns⟩ ir_whole (defBody (topS 17)) = true := by decide +kernel
theorem sc_is_fraction : FnScope N_is_fraction ["value"] (defScope (topS 18)) := fnScope_by2 (by decide +kernel)
theorem ck_is_fraction : chkCs ⟨N_is_fraction, defScope (topS 18), defScope (topS 18), fns.take 5, cns⟩ ir_is_fraction (defBody (topS 18)) = true := by decide +kernel
theorem sc_plus : FnScope N_plus ["one", "other"] (defScope (topS 19)) := fnScope_by2 (by decide +kernel)
theorem ck_plus : chkCs ⟨N_plus, defScope (topS 19), defScope (topS 19), fns.take 6, cns⟩ ir_plus (defBody (topS 19)) = true := by decide +kernel
theorem sc_less : FnScope N_less ["one", "other"] (defScope (topS 20)) := fnScope_by2 (by decide +kernel)
theorem ck_less : chkCs ⟨N_less, defScope (topS 20), defScope (topS 20), fns.take 7, cns⟩ ir_less (defBody (topS 20)) = true := by decide +kernel
theorem sc_times : FnScope N_times ["one", "other"] (defScope (topS 21)) := fnScope_by2 (by decide +kernel)
theorem ck_times : chkCs ⟨N_times, defScope (topS 21), defScope (topS 21), fns.take 8, cns⟩ ir_times (defBody (topS 21)) = true := by decide +kernel
theorem sc_over : FnScope N_over ["one", "other"] (defScope (topS 22)) := fnScope_by2 (by decide +kernel)
theorem ck_over : chkCs ⟨N_over, defScope (topS 22), defScope (topS 22), fns.take 9, cns⟩ ir_over (defBody (topS 22)) = true := by decide +kernel
theorem sc_compared : FnScope N_compared ["one", "other"] (defScope (topS 23)) := fnScope_by2 (by decide +kernel)
theorem ck_compared : chkCs ⟨N_compared, defScope (topS 23), defScope (topS 23), fns.take 10, cns⟩ ir_compared (defBody (topS 23)) = true := by decide +kernel
theorem sc_is_below : FnScope N_is_below ["one", "other"] (defScope (topS 24)) := fnScope_by2 (by decide +kernel)
theorem ck_is_below : chkCs ⟨N_is_below, defScope (topS 24), defScope (topS 24), fns.take 11, cns⟩ ir_is_below (defBody (topS 24)) = true := by decide +kernel
theorem sc_root_floor : FnScope N_root_floor ["number"] (defScope (topS 28)) := fnScope_by2 (by decide +kernel)
theorem ck_root_floor : chkCs ⟨N_root_floor, defScope (topS 28), defScope (topS 28), fns.take 12, cns⟩ ir_root_floor (defBody (topS 28)) = true := by decide +kernel
theorem sc_sign : FnScope N_sign ["number"] (defScope (topS 29)) := fnScope_by2 (by decide +kernel)
theorem ck_sign : chkCs ⟨N_sign, defScope (topS 29), defScope (topS 29), fns.take 13, cns⟩ ir_sign (defBody (topS 29)) = true := by decide +kernel
theorem sc_square : FnScope N_square ["number"] (defScope (topS 30)) := fnScope_by2 (by decide +kernel)
theorem ck_square : chkCs ⟨N_square, defScope (topS 30), defScope (topS 30), fns.take 14, cns⟩ ir_square (defBody (topS 30)) = true := by decide +kernel
theorem sc_sign_of_one : FnScope N_sign_of_one ["c", "a", "d"] (defScope (topS 31)) := fnScope_by2 (by decide +kernel)
theorem ck_sign_of_one : chkCs ⟨N_sign_of_one, defScope (topS 31), defScope (topS 31), fns.take 15, cns⟩ ir_sign_of_one (defBody (topS 31)) = true := by decide +kernel
theorem sc_sign_of_two : FnScope N_sign_of_two ["c", "a", "d", "b", "e"] (defScope (topS 32)) := fnScope_by2 (by decide +kernel)
theorem ck_sign_of_two : chkCs ⟨N_sign_of_two, defScope (topS 32), defScope (topS 32), fns.take 16, cns⟩ ir_sign_of_two (defBody (topS 32)) = true := by decide +kernel
theorem sc_discriminant : FnScope N_discriminant ["a", "b", "c"] (defScope (topS 33)) := fnScope_by2 (by decide +kernel)
theorem ck_discriminant : chkCs ⟨N_discriminant, defScope (topS 33), defScope (topS 33), fns.take 17, cns⟩ ir_discriminant (defBody (topS 33)) = true := by decide +kernel
theorem sc_moment_of_whole : FnScope N_moment_of_whole ["a", "b", "c", "side"] (defScope (topS 34)) := fnScope_by2 (by decide +kernel)
theorem ck_moment_of_whole : chkCs ⟨N_moment_of_whole, defScope (topS 34), defScope (topS 34), fns.take 18, cns⟩ ir_moment_of_whole (defBody (topS 34)) = true := by decide +kernel
theorem sc_scaled_up : FnScope N_scaled_up ["numbers"] (defScope (topS 35)) := fnScope_by2 (by decide +kernel)
theorem ck_scaled_up : chkCs ⟨N_scaled_up, defScope (topS 35), defScope (topS 35), fns.take 19, cns⟩ ir_scaled_up (defBody (topS 35)) = true := by decide +kernel
theorem sc_moment_by : FnScope N_moment_by ["a", "b", "c", "side"] (defScope (topS 36)) := fnScope_by2 (by decide +kernel)
theorem ck_moment_by : chkCs ⟨N_moment_by, defScope (topS 36), defScope (topS 36), fns.take 20, cns⟩ ir_moment_by (defBody (topS 36)) = true := by decide +kernel
theorem sc_told_parts : FnScope N_told_parts ["moment"] (defScope (topS 37)) := fnScope_by2 (by decide +kernel)
theorem ck_told_parts : chkCs ⟨N_told_parts, defScope (topS 37), defScope (topS 37), fns.take 21, cns⟩ ir_told_parts (defBody (topS 37)) = true := by decide +kernel
theorem sc_compared_moments : FnScope N_compared_moments ["one", "other"] (defScope (topS 38)) := fnScope_by2 (by decide +kernel)
theorem ck_compared_moments : chkCs ⟨N_compared_moments, defScope (topS 38), defScope (topS 38), fns.take 22, cns⟩ ir_compared_moments (defBody (topS 38)) = true := by decide +kernel
theorem sc_shifted_by : FnScope N_shifted_by ["moment", "by"] (defScope (topS 39)) := fnScope_by2 (by decide +kernel)
theorem ck_shifted_by : chkCs ⟨N_shifted_by, defScope (topS 39), defScope (topS 39), fns.take 23, cns⟩ ir_shifted_by (defBody (topS 39)) = true := by decide +kernel
theorem sc_scaled_by : FnScope N_scaled_by ["moment", "by"] (defScope (topS 40)) := fnScope_by2 (by decide +kernel)
theorem ck_scaled_by : chkCs ⟨N_scaled_by, defScope (topS 40), defScope (topS 40), fns.take 24, cns⟩ ir_scaled_by (defBody (topS 40)) = true := by decide +kernel
theorem sc_floor_of : FnScope N_floor_of ["moment", "parts"] (defScope (topS 41)) := fnScope_by2 (by decide +kernel)
theorem ck_floor_of : chkCs ⟨N_floor_of, defScope (topS 41), defScope (topS 41), fns.take 25, cns⟩ ir_floor_of (defBody (topS 41)) = true := by decide +kernel
theorem sc_rounded_by : FnScope N_rounded_by ["moment", "n"] (defScope (topS 42)) := fnScope_by2 (by decide +kernel)
theorem ck_rounded_by : chkCs ⟨N_rounded_by, defScope (topS 42), defScope (topS 42), fns.take 26, cns⟩ ir_rounded_by (defBody (topS 42)) = true := by decide +kernel
theorem sc_is_point : FnScope N_is_point ["value"] (defScope (topS 45)) := fnScope_by2 (by decide +kernel)
theorem ck_is_point : chkCs ⟨N_is_point, defScope (topS 45), defScope (topS 45), fns.take 27, cns⟩ ir_is_point (defBody (topS 45)) = true := by decide +kernel
theorem sc_is_from_nought : FnScope N_is_from_nought ["value"] (defScope (topS 46)) := fnScope_by2 (by decide +kernel)
theorem ck_is_from_nought : chkCs ⟨N_is_from_nought, defScope (topS 46), defScope (topS 46), fns.take 28, cns⟩ ir_is_from_nought (defBody (topS 46)) = true := by decide +kernel
theorem sc_check_length : FnScope N_check_length ["value"] (defScope (topS 47)) := fnScope_by2 (by decide +kernel)
theorem ck_check_length : chkCs ⟨N_check_length, defScope (topS 47), defScope (topS 47), fns.take 29, cns⟩ ir_check_length (defBody (topS 47)) = true := by decide +kernel
theorem sc_check_speed : FnScope N_check_speed ["value"] (defScope (topS 48)) := fnScope_by2 (by decide +kernel)
theorem ck_check_speed : chkCs ⟨N_check_speed, defScope (topS 48), defScope (topS 48), fns.take 30, cns⟩ ir_check_speed (defBody (topS 48)) = true := by decide +kernel
theorem sc_point_less : FnScope N_point_less ["one", "other"] (defScope (topS 49)) := fnScope_by2 (by decide +kernel)
theorem ck_point_less : chkCs ⟨N_point_less, defScope (topS 49), defScope (topS 49), fns.take 31, cns⟩ ir_point_less (defBody (topS 49)) = true := by decide +kernel
theorem sc_product : FnScope N_product ["one", "other"] (defScope (topS 50)) := fnScope_by2 (by decide +kernel)
theorem ck_product : chkCs ⟨N_product, defScope (topS 50), defScope (topS 50), fns.take 32, cns⟩ ir_product (defBody (topS 50)) = true := by decide +kernel
theorem sc_is_look : FnScope N_is_look ["value"] (defScope (topS 53)) := fnScope_by2 (by decide +kernel)
theorem ck_is_look : chkCs ⟨N_is_look, defScope (topS 53), defScope (topS 53), fns.take 33, cns⟩ ir_is_look (defBody (topS 53)) = true := by decide +kernel
theorem sc_check_look : FnScope N_check_look ["value"] (defScope (topS 54)) := fnScope_by2 (by decide +kernel)
theorem ck_check_look : chkCs ⟨N_check_look, defScope (topS 54), defScope (topS 54), fns.take 34, cns⟩ ir_check_look (defBody (topS 54)) = true := by decide +kernel
theorem sc_sides_of : FnScope N_sides_of ["patch"] (defScope (topS 55)) := fnScope_by2 (by decide +kernel)
theorem ck_sides_of : chkCs ⟨N_sides_of, defScope (topS 55), defScope (topS 55), fns.take 35, cns⟩ ir_sides_of (defBody (topS 55)) = true := by decide +kernel
theorem sc_square_of : FnScope N_square_of ["one", "other"] (defScope (topS 56)) := fnScope_by2 (by decide +kernel)
theorem ck_square_of : chkCs ⟨N_square_of, defScope (topS 56), defScope (topS 56), fns.take 36, cns⟩ ir_square_of (defBody (topS 56)) = true := by decide +kernel
theorem sc_led : FnScope N_led ["point", "pair", "by"] (defScope (topS 57)) := fnScope_by2 (by decide +kernel)
theorem ck_led : chkCs ⟨N_led, defScope (topS 57), defScope (topS 57), fns.take 37, cns⟩ ir_led (defBody (topS 57)) = true := by decide +kernel
theorem sc_turn : FnScope N_turn ["one", "two", "three"] (defScope (topS 61)) := fnScope_by2 (by decide +kernel)
theorem ck_turn : chkCs ⟨N_turn, defScope (topS 61), defScope (topS 61), fns.take 38, cns⟩ ir_turn (defBody (topS 61)) = true := by decide +kernel
theorem sc_is_ahead : FnScope N_is_ahead ["one", "other"] (defScope (topS 62)) := fnScope_by2 (by decide +kernel)
theorem ck_is_ahead : chkCs ⟨N_is_ahead, defScope (topS 62), defScope (topS 62), fns.take 39, cns⟩ ir_is_ahead (defBody (topS 62)) = true := by decide +kernel
theorem sc_is_patch : FnScope N_is_patch ["value"] (defScope (topS 63)) := fnScope_by2 (by decide +kernel)
theorem ck_is_patch : chkCs ⟨N_is_patch, defScope (topS 63), defScope (topS 63), fns.take 40, cns⟩ ir_is_patch (defBody (topS 63)) = true := by decide +kernel
theorem sc_is_report : FnScope N_is_report ["value"] (defScope (topS 67)) := fnScope_by2 (by decide +kernel)
theorem ck_is_report : chkCs ⟨N_is_report, defScope (topS 67), defScope (topS 67), fns.take 41, cns⟩ ir_is_report (defBody (topS 67)) = true := by decide +kernel
theorem sc_is_way : FnScope N_is_way ["value"] (defScope (topS 68)) := fnScope_by2 (by decide +kernel)
theorem ck_is_way : chkCs ⟨N_is_way, defScope (topS 68), defScope (topS 68), fns.take 42, cns⟩ ir_is_way (defBody (topS 68)) = true := by decide +kernel
theorem sc_check_way : FnScope N_check_way ["value"] (defScope (topS 69)) := fnScope_by2 (by decide +kernel)
theorem ck_check_way : chkCs ⟨N_check_way, defScope (topS 69), defScope (topS 69), fns.take 43, cns⟩ ir_check_way (defBody (topS 69)) = true := by decide +kernel
theorem sc_legs_of : FnScope N_legs_of ["way"] (defScope (topS 70)) := fnScope_by2 (by decide +kernel)
theorem ck_legs_of : chkCs ⟨N_legs_of, defScope (topS 70), defScope (topS 70), fns.take 44, cns⟩ ir_legs_of (defBody (topS 70)) = true := by decide +kernel
theorem sc_run_of : FnScope N_run_of ["one", "other", "axis"] (defScope (topS 71)) := fnScope_by2 (by decide +kernel)
theorem ck_run_of : chkCs ⟨N_run_of, defScope (topS 71), defScope (topS 71), fns.take 45, cns⟩ ir_run_of (defBody (topS 71)) = true := by decide +kernel
theorem sc_leg_at : FnScope N_leg_at ["way", "moment"] (defScope (topS 72)) := fnScope_by2 (by decide +kernel)
theorem ck_leg_at : chkCs ⟨N_leg_at, defScope (topS 72), defScope (topS 72), fns.take 46, cns⟩ ir_leg_at (defBody (topS 72)) = true := by decide +kernel
theorem sc_at_of : FnScope N_at_of ["way", "moment"] (defScope (topS 73)) := fnScope_by2 (by decide +kernel)
theorem ck_at_of : chkCs ⟨N_at_of, defScope (topS 73), defScope (topS 73), fns.take 47, cns⟩ ir_at_of (defBody (topS 73)) = true := by decide +kernel
theorem sc_speeds : FnScope N_speeds ["way"] (defScope (topS 74)) := fnScope_by2 (by decide +kernel)
theorem ck_speeds : chkCs ⟨N_speeds, defScope (topS 74), defScope (topS 74), fns.take 48, cns⟩ ir_speeds (defBody (topS 74)) = true := by decide +kernel
theorem sc_check_patches : FnScope N_check_patches ["value"] (defScope (topS 80)) := fnScope_by2 (by decide +kernel)
theorem ck_check_patches : chkCs ⟨N_check_patches, defScope (topS 80), defScope (topS 80), fns.take 49, cns⟩ ir_check_patches (defBody (topS 80)) = true := by decide +kernel
theorem sc_check_asked : FnScope N_check_asked ["look", "speed", "patches", "length"] (defScope (topS 81)) := fnScope_by2 (by decide +kernel)
theorem ck_check_asked : chkCs ⟨N_check_asked, defScope (topS 81), defScope (topS 81), fns.take 50, cns⟩ ir_check_asked (defBody (topS 81)) = true := by decide +kernel
theorem sc_near_on : FnScope N_near_on ["point", "side"] (defScope (topS 82)) := fnScope_by2 (by decide +kernel)
theorem ck_near_on : chkCs ⟨N_near_on, defScope (topS 82), defScope (topS 82), fns.take 51, cns⟩ ir_near_on (defBody (topS 82)) = true := by decide +kernel
theorem sc_rim_of : FnScope N_rim_of ["point", "patch"] (defScope (topS 83)) := fnScope_by2 (by decide +kernel)
theorem ck_rim_of : chkCs ⟨N_rim_of, defScope (topS 83), defScope (topS 83), fns.take 52, cns⟩ ir_rim_of (defBody (topS 83)) = true := by decide +kernel
theorem sc_nearest_rim : FnScope N_nearest_rim ["point", "patches"] (defScope (topS 84)) := fnScope_by2 (by decide +kernel)
theorem ck_nearest_rim : chkCs ⟨N_nearest_rim, defScope (topS 84), defScope (topS 84), fns.take 53, cns⟩ ir_nearest_rim (defBody (topS 84)) = true := by decide +kernel
theorem sc_root_after : FnScope N_root_after ["moment", "square"] (defScope (topS 85)) := fnScope_by2 (by decide +kernel)
theorem ck_root_after : chkCs ⟨N_root_after, defScope (topS 85), defScope (topS 85), fns.take 54, cns⟩ ir_root_after (defBody (topS 85)) = true := by decide +kernel
theorem sc_next_of : FnScope N_next_of ["look", "speed", "patches", "length"] (defScope (topS 86)) := fnScope_by2 (by decide +kernel)
theorem ck_next_of : chkCs ⟨N_next_of, defScope (topS 86), defScope (topS 86), fns.take 55, cns⟩ ir_next_of (defBody (topS 86)) = true := by decide +kernel
theorem sc_next_look : FnScope N_next_look ["look", "speed", "patches", "length"] (defScope (topS 87)) := fnScope_by2 (by decide +kernel)
theorem ck_next_look : chkCs ⟨N_next_look, defScope (topS 87), defScope (topS 87), fns.take 56, cns⟩ ir_next_look (defBody (topS 87)) = true := by decide +kernel
theorem sc_check_plan : FnScope N_check_plan ["way", "speed", "patches", "length", "step"] (defScope (topS 88)) := fnScope_by2 (by decide +kernel)
theorem ck_check_plan : chkCs ⟨N_check_plan, defScope (topS 88), defScope (topS 88), fns.take 57, cns⟩ ir_check_plan (defBody (topS 88)) = true := by decide +kernel
theorem sc_on_steps : FnScope N_on_steps ["moment", "first", "step"] (defScope (topS 89)) := fnScope_by2 (by decide +kernel)
theorem ck_on_steps : chkCs ⟨N_on_steps, defScope (topS 89), defScope (topS 89), fns.take 58, cns⟩ ir_on_steps (defBody (topS 89)) = true := by decide +kernel
theorem sc_plan : FnScope N_plan ["way", "speed", "patches", "length", "step"] (defScope (topS 90)) := fnScope_by2 (by decide +kernel)
theorem ck_plan : chkCs ⟨N_plan, defScope (topS 90), defScope (topS 90), fns.take 59, cns⟩ ir_plan (defBody (topS 90)) = true := by decide +kernel
theorem sc__law_pot : FnScope N__law_pot ["script", "place"] (defScope (topS 92)) := fnScope_by2 (by decide +kernel)
theorem ck__law_pot : chkCs ⟨N__law_pot, defScope (topS 92), defScope (topS 92), fns.take 60, cns⟩ ir__law_pot (defBody (topS 92)) = true := by decide +kernel
theorem sc__law_take : FnScope N__law_take ["pot", "upto"] (defScope (topS 93)) := fnScope_by2 (by decide +kernel)
theorem ck__law_take : chkCs ⟨N__law_take, defScope (topS 93), defScope (topS 93), fns.take 61, cns⟩ ir__law_take (defBody (topS 93)) = true := by decide +kernel
theorem sc__law_of : FnScope N__law_of ["pot", "some"] (defScope (topS 94)) := fnScope_by2 (by decide +kernel)
theorem ck__law_of : chkCs ⟨N__law_of, defScope (topS 94), defScope (topS 94), fns.take 62, cns⟩ ir__law_of (defBody (topS 94)) = true := by decide +kernel
theorem sc__law_cells : FnScope N__law_cells ["script", "limit"] (defScope (topS 95)) := fnScope_by2 (by decide +kernel)
theorem ck__law_cells : chkCs ⟨N__law_cells, defScope (topS 95), defScope (topS 95), fns.take 63, cns⟩ ir__law_cells (defBody (topS 95)) = true := by decide +kernel
theorem sc__law_common : FnScope N__law_common ["one", "other"] (defScope (topS 96)) := fnScope_by2 (by decide +kernel)
theorem ck__law_common : chkCs ⟨N__law_common, defScope (topS 96), defScope (topS 96), fns.take 64, cns⟩ ir__law_common (defBody (topS 96)) = true := by decide +kernel
theorem sc__law_fraction : FnScope N__law_fraction ["top", "bottom"] (defScope (topS 97)) := fnScope_by2 (by decide +kernel)
theorem ck__law_fraction : chkCs ⟨N__law_fraction, defScope (topS 97), defScope (topS 97), fns.take 65, cns⟩ ir__law_fraction (defBody (topS 97)) = true := by decide +kernel
theorem sc__law_sign : FnScope N__law_sign ["number"] (defScope (topS 98)) := fnScope_by2 (by decide +kernel)
theorem ck__law_sign : chkCs ⟨N__law_sign, defScope (topS 98), defScope (topS 98), fns.take 66, cns⟩ ir__law_sign (defBody (topS 98)) = true := by decide +kernel
theorem sc__law_sign_one : FnScope N__law_sign_one ["a", "b", "d"] (defScope (topS 99)) := fnScope_by2 (by decide +kernel)
theorem ck__law_sign_one : chkCs ⟨N__law_sign_one, defScope (topS 99), defScope (topS 99), fns.take 67, cns⟩ ir__law_sign_one (defBody (topS 99)) = true := by decide +kernel
theorem sc__law_sign_two : FnScope N__law_sign_two ["a", "b", "d", "c", "e"] (defScope (topS 100)) := fnScope_by2 (by decide +kernel)
theorem ck__law_sign_two : chkCs ⟨N__law_sign_two, defScope (topS 100), defScope (topS 100), fns.take 68, cns⟩ ir__law_sign_two (defBody (topS 100)) = true := by decide +kernel
theorem sc__law_number : FnScope N__law_number ["moment"] (defScope (topS 101)) := fnScope_by2 (by decide +kernel)
theorem ck__law_number : chkCs ⟨N__law_number, defScope (topS 101), defScope (topS 101), fns.take 69, cns⟩ ir__law_number (defBody (topS 101)) = true := by decide +kernel
theorem sc__law_compare : FnScope N__law_compare ["one", "other"] (defScope (topS 102)) := fnScope_by2 (by decide +kernel)
theorem ck__law_compare : chkCs ⟨N__law_compare, defScope (topS 102), defScope (topS 102), fns.take 70, cns⟩ ir__law_compare (defBody (topS 102)) = true := by decide +kernel
theorem sc__law_drawn_fraction : FnScope N__law_drawn_fraction ["pot", "most"] (defScope (topS 103)) := fnScope_by2 (by decide +kernel)
theorem ck__law_drawn_fraction : chkCs ⟨N__law_drawn_fraction, defScope (topS 103), defScope (topS 103), fns.take 71, cns⟩ ir__law_drawn_fraction (defBody (topS 103)) = true := by decide +kernel
theorem sc__law_drawn_point : FnScope N__law_drawn_point ["pot", "most"] (defScope (topS 104)) := fnScope_by2 (by decide +kernel)
theorem ck__law_drawn_point : chkCs ⟨N__law_drawn_point, defScope (topS 104), defScope (topS 104), fns.take 72, cns⟩ ir__law_drawn_point (defBody (topS 104)) = true := by decide +kernel
theorem sc__law_drawn_way : FnScope N__law_drawn_way ["pot", "legs"] (defScope (topS 105)) := fnScope_by2 (by decide +kernel)
theorem ck__law_drawn_way : chkCs ⟨N__law_drawn_way, defScope (topS 105), defScope (topS 105), fns.take 73, cns⟩ ir__law_drawn_way (defBody (topS 105)) = true := by decide +kernel
theorem sc__law_plus : FnScope N__law_plus ["one", "other"] (defScope (topS 106)) := fnScope_by2 (by decide +kernel)
theorem ck__law_plus : chkCs ⟨N__law_plus, defScope (topS 106), defScope (topS 106), fns.take 74, cns⟩ ir__law_plus (defBody (topS 106)) = true := by decide +kernel
theorem sc__law_minus : FnScope N__law_minus ["one", "other"] (defScope (topS 107)) := fnScope_by2 (by decide +kernel)
theorem ck__law_minus : chkCs ⟨N__law_minus, defScope (topS 107), defScope (topS 107), fns.take 75, cns⟩ ir__law_minus (defBody (topS 107)) = true := by decide +kernel
theorem sc__law_product : FnScope N__law_product ["one", "other"] (defScope (topS 108)) := fnScope_by2 (by decide +kernel)
theorem ck__law_product : chkCs ⟨N__law_product, defScope (topS 108), defScope (topS 108), fns.take 76, cns⟩ ir__law_product (defBody (topS 108)) = true := by decide +kernel
theorem sc__law_at_most : FnScope N__law_at_most ["one", "other"] (defScope (topS 109)) := fnScope_by2 (by decide +kernel)
theorem ck__law_at_most : chkCs ⟨N__law_at_most, defScope (topS 109), defScope (topS 109), fns.take 77, cns⟩ ir__law_at_most (defBody (topS 109)) = true := by decide +kernel
theorem sc__law_square_of : FnScope N__law_square_of ["one", "other"] (defScope (topS 110)) := fnScope_by2 (by decide +kernel)
theorem ck__law_square_of : chkCs ⟨N__law_square_of, defScope (topS 110), defScope (topS 110), fns.take 78, cns⟩ ir__law_square_of (defBody (topS 110)) = true := by decide +kernel
theorem sc__law_to_side : FnScope N__law_to_side ["point", "one", "other"] (defScope (topS 111)) := fnScope_by2 (by decide +kernel)
theorem ck__law_to_side : chkCs ⟨N__law_to_side, defScope (topS 111), defScope (topS 111), fns.take 79, cns⟩ ir__law_to_side (defBody (topS 111)) = true := by decide +kernel
theorem sc__law_rim : FnScope N__law_rim ["point", "patch"] (defScope (topS 112)) := fnScope_by2 (by decide +kernel)
theorem ck__law_rim : chkCs ⟨N__law_rim, defScope (topS 112), defScope (topS 112), fns.take 80, cns⟩ ir__law_rim (defBody (topS 112)) = true := by decide +kernel
theorem sc__law_latest : FnScope N__law_latest ["look", "speed", "patches", "length"] (defScope (topS 113)) := fnScope_by2 (by decide +kernel)
theorem ck__law_latest : chkCs ⟨N__law_latest, defScope (topS 113), defScope (topS 113), fns.take 81, cns⟩ ir__law_latest (defBody (topS 113)) = true := by decide +kernel
theorem sc__law_is_slow : FnScope N__law_is_slow ["way", "speed"] (defScope (topS 114)) := fnScope_by2 (by decide +kernel)
theorem ck__law_is_slow : chkCs ⟨N__law_is_slow, defScope (topS 114), defScope (topS 114), fns.take 82, cns⟩ ir__law_is_slow (defBody (topS 114)) = true := by decide +kernel
theorem sc__law_drawn_patch : FnScope N__law_drawn_patch ["pot"] (defScope (topS 115)) := fnScope_by2 (by decide +kernel)
theorem ck__law_drawn_patch : chkCs ⟨N__law_drawn_patch, defScope (topS 115), defScope (topS 115), fns.take 83, cns⟩ ir__law_drawn_patch (defBody (topS 115)) = true := by decide +kernel
theorem sc__law_place : FnScope N__law_place ["way", "moment"] (defScope (topS 116)) := fnScope_by2 (by decide +kernel)
theorem ck__law_place : chkCs ⟨N__law_place, defScope (topS 116), defScope (topS 116), fns.take 84, cns⟩ ir__law_place (defBody (topS 116)) = true := by decide +kernel
theorem sc__law_step_number : FnScope N__law_step_number ["first", "step", "count"] (defScope (topS 118)) := fnScope_by2 (by decide +kernel)
theorem ck__law_step_number : chkCs ⟨N__law_step_number, defScope (topS 118), defScope (topS 118), fns.take 85, cns⟩ ir__law_step_number (defBody (topS 118)) = true := by decide +kernel
theorem sc__law_steps_to : FnScope N__law_steps_to ["first", "step", "number"] (defScope (topS 117)) := fnScope_by2 (by decide +kernel)
theorem ck__law_steps_to : chkCs ⟨N__law_steps_to, defScope (topS 117), defScope (topS 117), fns.take 86, cns⟩ ir__law_steps_to (defBody (topS 117)) = true := by decide +kernel
theorem sc__law_own_plan : FnScope N__law_own_plan ["way", "speed", "patches", "length", "step"] (defScope (topS 119)) := fnScope_by2 (by decide +kernel)
theorem ck__law_own_plan : chkCs ⟨N__law_own_plan, defScope (topS 119), defScope (topS 119), fns.take 87, cns⟩ ir__law_own_plan (defBody (topS 119)) = true := by decide +kernel
theorem sc__law_kept_speed : FnScope N__law_kept_speed ["way"] (defScope (topS 120)) := fnScope_by2 (by decide +kernel)
theorem ck__law_kept_speed : chkCs ⟨N__law_kept_speed, defScope (topS 120), defScope (topS 120), fns.take 88, cns⟩ ir__law_kept_speed (defBody (topS 120)) = true := by decide +kernel
theorem sc__law_fewer_by_chance : FnScope N__law_fewer_by_chance ["pot", "way", "speed", "patches", "length", "step", "many"] (defScope (topS 121)) := fnScope_by2 (by decide +kernel)
theorem ck__law_fewer_by_chance : chkCs ⟨N__law_fewer_by_chance, defScope (topS 121), defScope (topS 121), fns.take 89, cns⟩ ir__law_fewer_by_chance (defBody (topS 121)) = true := by decide +kernel
theorem sc__law_right : FnScope N__law_right ["pot"] (defScope (topS 122)) := fnScope_by2 (by decide +kernel)
theorem ck__law_right : chkCs ⟨N__law_right, defScope (topS 122), defScope (topS 122), fns.take 90, cns⟩ ir__law_right (defBody (topS 122)) = true := by decide +kernel
theorem sc_law : FnScope N_law ["script"] (defScope (topS 123)) := fnScope_by2 (by decide +kernel)
theorem ck_law : chkCs ⟨N_law, defScope (topS 123), defScope (topS 123), fns.take 91, cns⟩ ir_law (defBody (topS 123)) = true := by decide +kernel
end K46
end
section
/-! P1: fractions as core's Rat: sizes; the readings in simp's hands. -/
namespace Zz
open PySem PySem.Spec PyProof.Rows L2
open PySem.Builtin.Int (intBits)

theorem at0 {x : D} {r : List D} : L2.atI (x :: r) 0 = some x := by
  unfold L2.atI L2.ixN
  rw [if_pos (by decide), if_pos (by simp only [List.length_cons]; omega)]; rfl
theorem zIx_t0 {x : D} {r : List D} {M : Mh} {q : KD} : zIx (.tup (x :: r)) (.int 0) M q = q x M := by
  refine propext ⟨fun ⟨xs, e, y, h, w⟩ => ?_, fun w => ⟨_, rfl, x, at0, w⟩⟩
  cases e; rw [at0] at h; cases h; exact w
theorem at1 {x y : D} {r : List D} : L2.atI (x :: y :: r) 1 = some y := by
  unfold L2.atI L2.ixN
  rw [if_pos (by decide), if_pos (by simp only [List.length_cons]; omega)]; rfl
theorem at2 {x y z : D} {r : List D} : L2.atI (x :: y :: z :: r) 2 = some z := by
  unfold L2.atI L2.ixN
  rw [if_pos (by decide), if_pos (by simp only [List.length_cons]; omega)]; rfl
theorem at3 {x y z v : D} {r : List D} : L2.atI (x :: y :: z :: v :: r) 3 = some v := by
  unfold L2.atI L2.ixN
  rw [if_pos (by decide), if_pos (by simp only [List.length_cons]; omega)]; rfl
theorem zIx_t1 {x y : D} {r : List D} {M : Mh} {q : KD} : zIx (.tup (x :: y :: r)) (.int 1) M q = q y M := by
  refine propext ⟨fun ⟨xs, e, z, h, w⟩ => ?_, fun w => ⟨_, rfl, y, at1, w⟩⟩
  cases e; rw [at1] at h; cases h; exact w
theorem zIx_t2 {x y z : D} {r : List D} {M : Mh} {q : KD} : zIx (.tup (x :: y :: z :: r)) (.int 2) M q = q z M := by
  refine propext ⟨fun ⟨xs, e, u, h, w⟩ => ?_, fun w => ⟨_, rfl, z, at2, w⟩⟩
  cases e; rw [at2] at h; cases h; exact w
theorem zIx_t3 {x y z v : D} {r : List D} {M : Mh} {q : KD} : zIx (.tup (x :: y :: z :: v :: r)) (.int 3) M q = q v M := by
  refine propext ⟨fun ⟨xs, e, u, h, w⟩ => ?_, fun w => ⟨_, rfl, v, at3, w⟩⟩
  cases e; rw [at3] at h; cases h; exact w
theorem sub_refl {M : Mh} : Sub M M := fun _ _ h => h

/-! ### statements one by one -/
section
variable {g : ZG} {e : ZE} {c : ZT} {a a' b r : ZS} {Z : ZEnds} {s : Sl} {M : Mh} {src : ZI} {q : KD}
theorem zSeq_asg : zSeq (zAsg g e) r Z s M = e s M fun d M1 => g d s M1 fun s1 M2 => r Z s1 M2 := propext Iff.rfl
theorem zSeq_iff : zSeq (zIff c a b) r Z s M = c s M fun k M1 => if k = true then zSeq a r Z s M1 else zSeq b r Z s M1 := propext Iff.rfl
theorem zSeq_ret : zSeq (zRet e) r Z s M = e s M Z.rt := propext Iff.rfl
theorem zSeq_retN : zSeq zRetN r Z s M = Z.rt .non M := propext Iff.rfl
theorem zSeq_expr : zSeq (zExpr e) r Z s M = e s M fun _ M1 => r Z s M1 := propext Iff.rfl
theorem zSeq_next : zSeq zNext r Z s M = r Z s M := propext Iff.rfl
theorem zSeq_seq : zSeq (zSeq a b) r Z s M = zSeq a (zSeq b r) Z s M := propext Iff.rfl
theorem zSeq_never : zSeq zNever r Z s M = False := propext Iff.rfl
theorem zSeq_whl : zSeq (zWhl c b) r Z s M = zWhl c b ⟨fun s1 M1 => r Z s1 M1, Z.rt, Z.bk, Z.ct⟩ s M := propext Iff.rfl
theorem zSeq_for : zSeq (zFor src g b) r Z s M = src s M fun items M1 => zLoop g b items ⟨fun s1 M1 => r Z s1 M1, Z.rt, Z.bk, Z.ct⟩ s M1 := propext Iff.rfl
/-- what comes behind a loop, not looked at yet -/
def kont (r : ZS) (Z : ZEnds) : Sl → Mh → Prop := fun s M => r Z s M
theorem kSeq_whl : zSeq (zWhl c b) r Z s M = zWhl c b ⟨kont r Z, Z.rt, Z.bk, Z.ct⟩ s M := propext Iff.rfl
theorem kSeq_for : zSeq (zFor src g b) r Z s M = src s M fun items M1 => zLoop g b items ⟨kont r Z, Z.rt, Z.bk, Z.ct⟩ s M1 := propext Iff.rfl
theorem zSeq_aug {i : Nat} {o : Op} : zSeq (zAug i o e) r Z s M = match slot s i with
  | some x => e s M fun y M1 => zAugD o x y M1 fun z M2 => r Z (s.set i (some z)) M2
  | none => False := by unfold zSeq zAug; cases slot s i <;> rfl
theorem zNext_nx : zNext Z s M = Z.nx s M := propext Iff.rfl
theorem zEnds_nx : (zEnds q).nx s M = ∃ M3, Sub M3 M ∧ q .non M3 := propext Iff.rfl
theorem zEnds_rt {d : D} : (zEnds q).rt d M = ∃ M3, Sub M3 M ∧ q d M3 := propext Iff.rfl
end

/-! ### sizes -/
def FR (r : Rat) : D := .tup [.int r.num, .int r.den]
structure B (k : Nat) (r : Rat) : Prop where
  n : intBits r.num ≤ k
  d : intBits (r.den : Int) ≤ k
theorem B.mono {i j : Nat} {r : Rat} (h : B i r) (l : i ≤ j) : B j r := ⟨Nat.le_trans h.n l, Nat.le_trans h.d l⟩
theorem bits_le {m : Nat} {x y : Int} (h : x.natAbs ≤ y.natAbs) (hy : intBits y ≤ m) : intBits x ≤ m := intBits_le_of_natAbs h hy
theorem B_divInt {k : Nat} {t b : Int} (hb : b ≠ 0) (h1 : intBits t ≤ k) (h2 : intBits b ≤ k) : B k (Rat.divInt t b) := by
  refine ⟨?_, ?_⟩
  · rw [Rat.num_divInt]
    refine bits_le ?_ h1
    rw [Int.natAbs_ediv_of_dvd]
    · refine Nat.le_trans (Nat.div_le_self _ _) ?_
      rw [Int.natAbs_mul, Int.natAbs_sign_of_ne_zero hb, Nat.one_mul]
      exact Nat.le_refl _
    · exact Int.dvd_mul_of_dvd_right (Int.gcd_dvd_right ..)
  · rw [Rat.den_divInt, if_neg hb]
    refine bits_le ?_ h2
    rw [Int.natAbs_natCast]
    exact Nat.div_le_self _ _
theorem B.mul {i j : Nat} {r s : Rat} (h : B i r) (h2 : B j s) : B (i + j) (r * s) := by
  rw [Rat.mul_def', ← Rat.divInt_ofNat]
  refine B_divInt (by intro e; exact Nat.mul_ne_zero r.den_nz s.den_nz (by exact_mod_cast e)) (intBits_mul_le h.n h2.n) ?_
  rw [Int.natCast_mul]
  exact intBits_mul_le h.d h2.d
theorem B.add {i j : Nat} {r s : Rat} (h : B i r) (h2 : B j s) : B (i + j + 1) (r + s) := by
  rw [Rat.add_def', ← Rat.divInt_ofNat]
  refine B_divInt (by intro e; exact Nat.mul_ne_zero r.den_nz s.den_nz (by exact_mod_cast e)) ?_ ?_
  · refine Nat.le_trans (intBits_add_le (intBits_mul_le h.n h2.d) (intBits_mul_le h2.n h.d)) (by omega)
  · rw [Int.natCast_mul]
    exact Nat.le_trans (intBits_mul_le h.d h2.d) (Nat.le_succ _)
theorem B.neg {i : Nat} {r : Rat} (h : B i r) : B i (-r) := ⟨intBits_neg_le h.n, h.d⟩
theorem B.sub {i j : Nat} {r s : Rat} (h : B i r) (h2 : B j s) : B (i + j + 1) (r - s) := by
  rw [Rat.sub_eq_add_neg]; exact h.add h2.neg
theorem B.inv {i : Nat} {r : Rat} (hr : r ≠ 0) (h : B i r) : B i r⁻¹ := by
  have hn : r.num ≠ 0 := fun e => hr (Rat.num_eq_zero.mp e)
  refine ⟨?_, ?_⟩
  · rw [Rat.num_inv]
    refine bits_le ?_ h.d
    rw [Int.natAbs_mul, Int.natAbs_sign_of_ne_zero hn, Nat.one_mul]
    exact Nat.le_refl _
  · rw [Rat.den_inv, if_neg hn]
    exact bits_le (by rw [Int.natAbs_natCast]; exact Nat.le_refl _) h.n
theorem B.div {i j : Nat} {r s : Rat} (h : B i r) (hs : s ≠ 0) (h2 : B j s) : B (i + j) (r / s) := by
  rw [Rat.div_def]; exact h.mul (h2.inv hs)
theorem divOk_of {x y : Int} (hy : y ≠ 0) (h : intBits y ≤ 9000) : DivOk x y := by
  refine ⟨hy, PyProof.noPylong_of_log2 ?_⟩
  have := intBits_le_iff.mp h
  exact (Nat.log2_lt (by omega)).mpr this
theorem mulOk {a b : Int} {m n : Nat} (ha : intBits a ≤ m) (hb : intBits b ≤ n) (h : m + n ≤ 134217728) : IntMulOk a b := PySem.IntMulOk.of_le ha hb h

theorem zIsi_int {T : Ty} {i : Int} {M : Mh} {q : KD} : zIsi T (.int i) M q = q (.bl (isTy T (.int i))) M := propext ⟨fun h => h.2, fun h => ⟨(fun _ e => by cases e), h⟩⟩
theorem zIsi_bl {T : Ty} {i : Bool} {M : Mh} {q : KD} : zIsi T (.bl i) M q = q (.bl (isTy T (.bl i))) M := propext ⟨fun h => h.2, fun h => ⟨(fun _ e => by cases e), h⟩⟩
theorem zIsi_tup {T : Ty} {i : List D} {M : Mh} {q : KD} : zIsi T (.tup i) M q = q (.bl (isTy T (.tup i))) M := propext ⟨fun h => h.2, fun h => ⟨(fun _ e => by cases e), h⟩⟩
theorem zIsi_lst {T : Ty} {i : List D} {M : Mh} {q : KD} : zIsi T (.lst i) M q = q (.bl (isTy T (.lst i))) M := propext ⟨fun h => h.2, fun h => ⟨(fun _ e => by cases e), h⟩⟩
theorem okd_int {n : Nat} {i : Int} : (okd (n + 1) (.int i) = true) = True := by unfold okd; simp
theorem eqD_int {i j : Int} : eqD (.int i) (.int j) = decide (i = j) := by
  unfold eqD toPy PyData.eqv
  rfl
theorem FR_inj {r s : Rat} : (FR r = FR s) = (r = s) := by
  refine propext ⟨fun h => ?_, fun h => by rw [h]⟩
  unfold FR at h
  simp only [D.tup.injEq, List.cons.injEq, D.int.injEq, and_true] at h
  exact Rat.ext h.1 (by exact_mod_cast h.2)
theorem okd_FR {n : Nat} {r : Rat} : (okd (n + 1) (FR r) = true) = True := by
  unfold FR okd okds okds okds
  cases n <;> simp [okd]
theorem eqD_FR {r s : Rat} : eqD (FR r) (FR s) = decide (r = s) := by
  unfold eqD FR toPy toPys toPys toPys toPy PyData.eqv PyData.eqvAll PyData.eqvAll PyData.eqvAll PyData.eqv
  by_cases h : r = s
  · subst h; simp
  · rw [decide_eq_false h]
    simp only [Bool.and_true, Bool.and_eq_false_iff, beq_eq_false_iff_ne, ne_eq]
    by_cases e : r.num = s.num
    · exact .inr fun e2 => h (Rat.ext e (by exact_mod_cast e2))
    · exact .inl e
theorem zSl_tup {xs : List D} {lo hi : Option Int} {M : Mh} {q : KD} : zSl (.tup xs) lo hi M q = q (.tup (cutD xs lo hi)) M := rfl
theorem cutD_1 {xs : List D} : cutD xs (some 1) none = xs.drop 1 := by
  unfold cutD
  rw [show HT.sIx xs.length 0 (some 1) = min 1 xs.length from HT.sIx_nat xs.length 0 1, HT.sIx_none]
  cases xs with
  | nil => rfl
  | cons x r =>
    rw [show min 1 (x :: r).length = 1 by rw [List.length_cons]; omega]
    show List.take ((x :: r).length - 1) r = r
    rw [List.length_cons, Nat.add_sub_cancel]
    exact List.take_length
theorem cutD_to1 {xs : List D} : cutD xs none (some 1) = xs.take 1 := by
  unfold cutD
  rw [show HT.sIx xs.length xs.length (some 1) = min 1 xs.length from HT.sIx_nat xs.length xs.length 1, HT.sIx_none]
  cases xs with
  | nil => rfl
  | cons x r =>
    rw [show min 1 (x :: r).length = 1 by rw [List.length_cons]; omega]
    rfl
theorem zipD_map {α β : Type} {f : α → D} {g : β → D} : ∀ (xs : List α) (ys : List β), zipD (xs.map f) (ys.map g) = (xs.zip ys).map fun p => .tup [f p.1, g p.2]
  | [], _ => by cases ‹List β› <;> rfl
  | _ :: _, [] => rfl
  | x :: xs, y :: ys => by
    show _ :: zipD (xs.map f) (ys.map g) = _
    rw [zipD_map xs ys]; rfl
theorem zIx_fr0 {r : Rat} {M : Mh} {q : KD} : zIx (FR r) (.int 0) M q = q (.int r.num) M := zIx_t0
theorem zIx_fr1 {r : Rat} {M : Mh} {q : KD} : zIx (FR r) (.int 1) M q = q (.int r.den) M := zIx_t1
theorem mdel_mup {M : Mh} {a : Addr} {o : MO} (h : M a = none) : mdel (mup M a o) a = M := by
  funext b
  unfold mdel mup
  by_cases e : b = a
  · rw [if_pos e, e, h]
  · rw [if_neg e, if_neg e]
theorem mup_mup {M : Mh} {a : Addr} {o u : MO} : mup (mup M a o) a u = mup M a u := by
  funext b
  unfold mup
  by_cases e : b = a
  · rw [if_pos e, if_pos e]
  · rw [if_neg e, if_neg e, if_neg e]
theorem zTurns_go {a : Addr} {s : Sl} {tg : ZG} {c : ZT} {elt : ZE} {M : Mh} {k : List D → Mh → Prop} (g : D → Option D) : ∀ (items acc : List D), acc.length + items.length ≤ sizeLine →
    (∀ x ∈ items, ∀ M' (K : Option D → Mh → Prop), K (g x) M' → tg x s M' fun s1 M1 => c s1 M1 fun b M2 => if b = true then elt s1 M2 fun d M3 => K (some d) M3 else K none M2) →
    k (acc ++ items.filterMap g) (mup M a (.lst (acc ++ items.filterMap g))) → zTurns a s tg c elt items acc (mup M a (.lst acc)) k
  | [], acc, _, _, h => by
    unfold zTurns
    simpa using h
  | x :: xs, acc, hl, hs, h => by
    unfold zTurns
    have := hs x List.mem_cons_self (mup M a (.lst acc)) (fun o M3 => match o with
      | some d => M3 a = some (.lst acc) ∧ acc.length < sizeLine ∧ zTurns a s tg c elt xs (acc ++ [d]) (mup M3 a (.lst (acc ++ [d]))) k
      | none => M3 a = some (.lst acc) ∧ zTurns a s tg c elt xs acc M3 k) ?_
    · exact this
    · rw [List.length_cons] at hl
      cases e : g x with
      | none =>
        refine ⟨mup_same, zTurns_go g xs acc (by omega) (fun y hy => hs y (List.mem_cons_of_mem _ hy)) ?_⟩
        rw [List.filterMap_cons_none e] at h
        exact h
      | some d =>
        refine ⟨mup_same, by omega, ?_⟩
        rw [mup_mup]
        refine zTurns_go g xs (acc ++ [d]) (by rw [List.length_append, List.length_singleton]; omega) (fun y hy => hs y (List.mem_cons_of_mem _ hy)) ?_
        rw [List.filterMap_cons_some e] at h
        rw [List.append_assoc]
        exact h
/-- a comprehension whose element changes nothing -/
theorem turns_if {a : Addr} {s : Sl} {tg : ZG} {c : ZT} {elt : ZE} {M : Mh} {q : KD} {items : List D} (g : D → Option D) (ha : M a = none) (hl : items.length ≤ sizeLine)
    (hs : ∀ x ∈ items, ∀ M' (K : Option D → Mh → Prop), K (g x) M' → tg x s M' fun s1 M1 => c s1 M1 fun b M2 => if b = true then elt s1 M2 fun d M3 => K (some d) M3 else K none M2)
    (hq : q (.lst (items.filterMap g)) M) : zTurns a s tg c elt items [] (mup M a (.lst [])) (zEnd false a q) := by
  refine zTurns_go g items [] (by simpa using hl) hs ?_
  show q _ (mdel (mup M a _) a)
  rw [mdel_mup ha]
  exact hq
theorem turns_map {a : Addr} {s : Sl} {tg : ZG} {elt : ZE} {M : Mh} {q : KD} {items : List D} (g : D → D) (ha : M a = none) (hl : items.length ≤ sizeLine)
    (hs : ∀ x ∈ items, ∀ M' (K : D → Mh → Prop), K (g x) M' → tg x s M' fun s1 M1 => elt s1 M1 K)
    (hq : q (.lst (items.map g)) M) : zTurns a s tg zYes elt items [] (mup M a (.lst [])) (zEnd false a q) := by
  refine turns_if (fun x => some (g x)) ha hl (fun x hx M' K h => ?_) (by rw [List.filterMap_eq_map']; exact hq)
  have := hs x hx M' (fun d M => K (some d) M) h
  unfold zYes
  simpa using this
theorem sub_mup {M : Mh} {a : Addr} {o : MO} (h : M a = none) : Sub M (mup M a o) := fun b u e => by
  unfold mup
  by_cases z : b = a
  · rw [z, h] at e; cases e
  · rw [if_neg z]; exact e

theorem zLoop_fold {g : ZG} {body : ZS} {Z : ZEnds} {α σ : Type} (f : α → D) (P : σ → Sl → Prop) (step : σ → α → σ) (M : Mh) : ∀ (items : List α),
    (∀ a ∈ items, ∀ c s (k : Sl → Mh → Prop), P c s → (∀ s', P (step c a) s' → k s' M) → g (f a) s M fun s1 M1 => body { Z with nx := k, ct := k, bk := Z.nx } s1 M1) →
    ∀ c s, P c s → (∀ s', P (items.foldl step c) s' → Z.nx s' M) → zLoop g body (items.map f) Z s M
  | [], _, c, s, h, hq => hq s h
  | a :: r, hs, c, s, h, hq => hs a List.mem_cons_self c s (zLoop g body (r.map f) Z) h fun s' h' => zLoop_fold f P step M r (fun b hb => hs b (List.mem_cons_of_mem _ hb)) (step c a) s' h' hq
theorem enumD_map {α : Type} {f : α → D} : ∀ (xs : List α) (n : Nat), enumD n (xs.map f) = (xs.zipIdx n).map fun p => .tup [.int (p.2 : Nat), f p.1]
  | [], _ => rfl
  | x :: xs, n => by
    show _ :: enumD (n + 1) (xs.map f) = _
    rw [enumD_map xs (n + 1)]; rfl
theorem zTurns_goA {α : Type} {f : α → D} {a : Addr} {s : Sl} {tg : ZG} {c : ZT} {elt : ZE} {M : Mh} {k : List D → Mh → Prop} (g : α → Option D) : ∀ (items : List α) (acc : List D), acc.length + items.length ≤ sizeLine →
    (∀ x ∈ items, ∀ M' (K : Option D → Mh → Prop), K (g x) M' → tg (f x) s M' fun s1 M1 => c s1 M1 fun b M2 => if b = true then elt s1 M2 fun d M3 => K (some d) M3 else K none M2) →
    k (acc ++ items.filterMap g) (mup M a (.lst (acc ++ items.filterMap g))) → zTurns a s tg c elt (items.map f) acc (mup M a (.lst acc)) k
  | [], acc, _, _, h => by
    show zTurns a s tg c elt [] acc _ k
    unfold zTurns
    simpa using h
  | x :: xs, acc, hl, hs, h => by
    rw [List.map_cons]
    unfold zTurns
    have := hs x List.mem_cons_self (mup M a (.lst acc)) (fun o M3 => match o with
      | some d => M3 a = some (.lst acc) ∧ acc.length < sizeLine ∧ zTurns a s tg c elt (xs.map f) (acc ++ [d]) (mup M3 a (.lst (acc ++ [d]))) k
      | none => M3 a = some (.lst acc) ∧ zTurns a s tg c elt (xs.map f) acc M3 k) ?_
    · exact this
    · rw [List.length_cons] at hl
      cases e : g x with
      | none =>
        refine ⟨mup_same, zTurns_goA g xs acc (by omega) (fun y hy => hs y (List.mem_cons_of_mem _ hy)) ?_⟩
        rw [List.filterMap_cons_none e] at h
        exact h
      | some d =>
        refine ⟨mup_same, by omega, ?_⟩
        rw [mup_mup]
        refine zTurns_goA g xs (acc ++ [d]) (by rw [List.length_append, List.length_singleton]; omega) (fun y hy => hs y (List.mem_cons_of_mem _ hy)) ?_
        rw [List.filterMap_cons_some e] at h
        rw [List.append_assoc]
        exact h
theorem turns_mapA {α : Type} {f : α → D} {a : Addr} {s : Sl} {tg : ZG} {elt : ZE} {M : Mh} {q : KD} {items : List α} (g : α → D) (ha : M a = none) (hl : items.length ≤ sizeLine)
    (hs : ∀ x ∈ items, ∀ M' (K : D → Mh → Prop), K (g x) M' → tg (f x) s M' fun s1 M1 => elt s1 M1 K)
    (hq : q (.lst (items.map g)) M) : zTurns a s tg zYes elt (items.map f) [] (mup M a (.lst [])) (zEnd false a q) := by
  refine zTurns_goA (fun x => some (g x)) items [] (by simpa using hl) (fun x hx M' K h => ?_) ?_
  · have := hs x hx M' (fun d M => K (some d) M) h
    unfold zYes
    simpa using this
  · show q _ (mdel (mup M a _) a)
    rw [mdel_mup ha, List.filterMap_eq_map']
    exact hq
theorem zGTup_tup {n : Nat} {t : ZGs} {ds : List D} {s : Sl} {M : Mh} {k : Sl → Mh → Prop} : zGTup n t (.tup ds) s M k = (ds.length = n ∧ t ds s M k) := propext Iff.rfl
theorem zGTup_lst {n : Nat} {t : ZGs} {ds : List D} {s : Sl} {M : Mh} {k : Sl → Mh → Prop} : zGTup n t (.lst ds) s M k = (ds.length = n ∧ t ds s M k) := propext Iff.rfl
theorem zGTup_FR {n : Nat} {t : ZGs} {r : Rat} {s : Sl} {M : Mh} {k : Sl → Mh → Prop} : zGTup n t (FR r) s M k = (2 = n ∧ t [.int r.num, .int r.den] s M k) := propext Iff.rfl
theorem okd_FRs {n : Nat} : ∀ xs : List Rat, okds (n + 1) (xs.map FR) = true
  | [] => rfl
  | x :: xs => by
    rw [List.map_cons]
    unfold okds
    rw [okd_FRs xs, Bool.and_true, okd_FR]
    trivial
/-! ### the contracts of numbers -/
def c_common : ZC := fun ds M q => ∃ a b : Int, ds = [.int a, .int b] ∧ q (.int (Int.gcd a b : Nat)) M
def c_fraction : ZC := fun ds M q => ∃ t b : Int, ds = [.int t, .int b] ∧ (b ≠ 0 ∧ intBits t ≤ 9000 ∧ intBits b ≤ 9000) ∧ q (FR (Rat.divInt t b)) M
def c2 (g : Rat → Rat → Rat) : ZC := fun ds M q => ∃ r s : Rat, ds = [FR r, FR s] ∧ (B 4400 r ∧ B 4400 s) ∧ q (FR (g r s)) M
end Zz
end
section
/-! K46a: what each def promises. -/
namespace K46
open PySem PySem.Spec PyProof.Rows L2 Zz
open PySem.Builtin.Int (intBits)

abbrev P2 := Rat × Rat
def PT (p : P2) : D := .tup [FR p.1, FR p.2]
theorem PT_inj {p q : P2} : (PT p = PT q) = (p = q) := by
  refine propext ⟨fun h => ?_, fun h => by rw [h]⟩
  unfold PT at h
  simp only [D.tup.injEq, List.cons.injEq, FR_inj, and_true] at h
  exact Prod.ext h.1 h.2
theorem okd_PT {n : Nat} {p : P2} : (okd (n + 2) (PT p) = true) = True := by
  unfold PT okd okds okds okds
  rw [Bool.and_true, Bool.and_eq_true, okd_FR, okd_FR]
  simp
theorem eqD_PT {p q : P2} : eqD (PT p) (PT q) = decide (p = q) := by
  have h : eqD (PT p) (PT q) = (eqD (FR p.1) (FR q.1) && (eqD (FR p.2) (FR q.2) && true)) := by
    unfold PT
    unfold eqD
    conv => lhs; unfold toPy toPys toPys toPys PyData.eqv PyData.eqvAll PyData.eqvAll PyData.eqvAll
  rw [h, eqD_FR, eqD_FR, Bool.and_true, ← Bool.decide_and]
  exact decide_eq_decide.mpr ⟨fun h => Prod.ext h.1 h.2, fun h => by rw [h]; exact ⟨rfl, rfl⟩⟩
theorem zIx_pt0 {p : P2} {M : Mh} {q : KD} : zIx (PT p) (.int 0) M q = q (FR p.1) M := zIx_t0
theorem zIx_pt1 {p : P2} {M : Mh} {q : KD} : zIx (PT p) (.int 1) M q = q (FR p.2) M := zIx_t1
structure BP (k : Nat) (p : P2) : Prop where
  x : B k p.1
  y : B k p.2
def sub2 (p q : P2) : P2 := (p.1 - q.1, p.2 - q.2)
def dot (p q : P2) : Rat := p.1 * q.1 + p.2 * q.2
def sqd (p q : P2) : Rat := dot (sub2 p q) (sub2 p q)
def led2 (p w : P2) (t : Rat) : P2 := (p.1 + t * w.1, p.2 + t * w.2)
def cross (a b c : P2) : Rat := (b.1 - a.1) * (c.2 - a.2) - (b.2 - a.2) * (c.1 - a.1)
/-- h is the root of n, rounded down -/
def Rt (n h : Nat) : Prop := h * h ≤ n ∧ n < (h + 1) * (h + 1)
/-- the moment m + √s as the text writes it -/
def IsMom (m s : Rat) (d : D) : Prop := (∃ w : Rat, 0 ≤ w ∧ w * w = s ∧ d = FR (m + w)) ∨
  ((¬ ∃ w : Rat, w * w = s) ∧ ∃ p q r : Int, 0 < p ∧ Int.gcd (Int.gcd p q : Nat) r = 1 ∧ (q : Rat) = -2 * m * p ∧ (r : Rat) = (m * m - s) * p ∧ d = .tup [.int p, .int q, .int r, .int 1])
def part (p a b : P2) : Rat := dot (sub2 p a) (sub2 b a) / dot (sub2 b a) (sub2 b a)
def clamp (t : Rat) : Rat := if t < 0 then 0 else if 1 < t then 1 else t
def near (p a b : P2) : P2 := led2 a (sub2 b a) (clamp (part p a b))
def sideSq (p a b : P2) : Rat := sqd p (near p a b)
def sides (ps : List P2) : List (P2 × P2) := ps.zip (ps.drop 1 ++ ps.take 1)
/-- the least, of a list that is not empty -/
def least : List Rat → Rat
  | [] => 0
  | [x] => x
  | x :: y :: r => if least (y :: r) < x then least (y :: r) else x
def rimSq (p : P2) (ps : List P2) : Rat := least ((sides ps).map fun s => sideSq p s.1 s.2)
def ahead (p q : P2) : Bool := decide (p.1 < q.1) || (decide (p.1 = q.1) && decide (p.2 < q.2))
/-- a patch that the text takes -/
structure Good (ps : List P2) : Prop where
  l3 : 3 ≤ ps.length
  l8 : ps.length ≤ 8
  b : ∀ p ∈ ps, BP 10 p
  first : ∀ p ∈ ps.drop 1, ahead (ps.headD (0, 0)) p = true
  nd : ps.Nodup
  turn : ∀ i, i < ps.length → ∀ o ∈ ps, o ≠ ps.getD ((i + ps.length - 1) % ps.length) (0, 0) → o ≠ ps.getD i (0, 0) → 0 < cross (ps.getD ((i + ps.length - 1) % ps.length) (0, 0)) (ps.getD i (0, 0)) o
def PA (ps : List P2) : D := .tup (ps.map PT)
def PAs (l : List (List P2)) : D := .tup (l.map PA)
structure GoodAll (l : List (List P2)) : Prop where
  l1 : 1 ≤ l.length
  l6 : l.length ≤ 6
  good : ∀ ps ∈ l, Good ps
def squares (p : P2) (l : List (List P2)) : List Rat := l.map (rimSq p)
/-- the first place of the least -/
def IsIdx (xs : List Rat) (i : Nat) : Prop := xs[i]? = some (least xs) ∧ ∀ j, j < i → xs[j]? ≠ some (least xs)
structure Asked (t : Rat) (p : P2) (v : Rat) (l : List (List P2)) (w : Rat) : Prop where
  bt : B 8 t
  bp : BP 24 p
  bv : B 8 v
  vp : 0 < v
  gl : GoodAll l
  bw : B 8 w
  wp : 0 ≤ w
def lookD (t : Rat) (p : P2) : D := .tup [FR t, PT p]

theorem map_inj {α β : Type} {f : α → β} (hf : ∀ x y, f x = f y → x = y) : ∀ {l m : List α}, l.map f = m.map f → l = m
  | [], [], _ => rfl
  | [], _ :: _, h => by cases h
  | _ :: _, [], h => by cases h
  | x :: xs, y :: ys, h => by
    rw [List.map_cons, List.map_cons] at h
    injection h with h1 h2
    rw [hf _ _ h1, map_inj hf h2]
theorem PA_inj {p q : List P2} : (PA p = PA q) = (p = q) := by
  refine propext ⟨fun h => ?_, fun h => by rw [h]⟩
  unfold PA at h
  injection h with h
  exact map_inj (fun x y e => by rw [PT_inj] at e; exact e) h
theorem PAs_inj {p q : List (List P2)} : (PAs p = PAs q) = (p = q) := by
  refine propext ⟨fun h => ?_, fun h => by rw [h]⟩
  unfold PAs at h
  injection h with h
  exact map_inj (fun x y e => by rw [PA_inj] at e; exact e) h
theorem lookD_inj {t u : Rat} {p q : P2} : (lookD t p = lookD u q) = (t = u ∧ p = q) := by
  refine propext ⟨fun h => ?_, fun h => by rw [h.1, h.2]⟩
  unfold lookD at h
  simp only [D.tup.injEq, List.cons.injEq, FR_inj, PT_inj, and_true] at h
  exact h
theorem zIx_lk0 {t : Rat} {p : P2} {M : Mh} {q : KD} : zIx (lookD t p) (.int 0) M q = q (FR t) M := zIx_t0
theorem zIx_lk1 {t : Rat} {p : P2} {M : Mh} {q : KD} : zIx (lookD t p) (.int 1) M q = q (PT p) M := zIx_t1
/-! ### the plain part -/
def c_is_whole : ZC := fun ds M q => ∃ i : Int, ds = [.int i] ∧ q (.bl true) M
def c_is_tuple : ZC := fun ds M q => ∃ (xs : List D) (l m : Int), ds = [.tup xs, .int l, .int m] ∧ q (.bl (decide (l ≤ xs.length) && decide ((xs.length : Int) ≤ m))) M
def c_whole : ZC := fun ds M q => ∃ n : Int, ds = [.int n] ∧ q (FR (n : Rat)) M
def c_is_fraction : ZC := fun ds M q => ∃ r : Rat, ds = [FR r] ∧ q (.bl true) M
def c_over : ZC := fun ds M q => ∃ r s : Rat, ds = [FR r, FR s] ∧ (s ≠ 0 ∧ B 4400 r ∧ B 4400 s) ∧ q (FR (r / s)) M
def c_is_below : ZC := fun ds M q => ∃ r s : Rat, ds = [FR r, FR s] ∧ (B 4400 r ∧ B 4400 s) ∧ q (.bl (decide (r < s))) M
def c_root_floor : ZC := fun ds M q => ∃ n : Nat, ds = [.int n] ∧ intBits (n : Int) ≤ 8000 ∧ ∀ h : Nat, Rt n h → q (.int h) M
def c_discriminant : ZC := fun ds M q => ∃ a b c : Int, ds = [.int a, .int b, .int c] ∧ (intBits a ≤ 3000 ∧ intBits b ≤ 3000 ∧ intBits c ≤ 3000) ∧ q (.int (b * b - 4 * a * c)) M
def c_moment_of_whole : ZC := fun ds M q => ∃ a b c : Int, ds = [.int a, .int b, .int c, .int 1] ∧ (0 < a ∧ intBits a ≤ 3000 ∧ intBits b ≤ 3000 ∧ intBits c ≤ 3000 ∧ 0 ≤ b * b - 4 * a * c) ∧
  ∀ h : Nat, Rt (b * b - 4 * a * c).toNat h → q (if (h : Int) * h = b * b - 4 * a * c then FR (Rat.divInt (h - b) (2 * a)) else .tup [.int (a / (Int.gcd (Int.gcd a b : Nat) c : Nat)), .int (b / (Int.gcd (Int.gcd a b : Nat) c : Nat)), .int (c / (Int.gcd (Int.gcd a b : Nat) c : Nat)), .int 1]) M
def c_scaled_up : ZC := fun ds M q => ∃ a b c : Rat, ds = [.lst [FR a, FR b, FR c]] ∧ (intBits a.num ≤ 1480 ∧ intBits b.num ≤ 1480 ∧ intBits c.num ≤ 1480 ∧ intBits ((a.den * b.den * c.den : Nat) : Int) ≤ 1511) ∧
  ∀ (m : Nat) (x y z : Int), 0 < m → (x : Rat) = a * m → (y : Rat) = b * m → (z : Rat) = c * m → intBits x ≤ 3000 → intBits y ≤ 3000 → intBits z ≤ 3000 → q (.lst [.int x, .int y, .int z]) M
def c_root3 : ZC := fun ds M q => ∃ a b c : Rat, ds = [FR a, FR b, FR c, .int 1] ∧ ∃ m s : Rat, (0 < a ∧ b = -2 * m * a ∧ c = (m * m - s) * a ∧ 0 ≤ s ∧ intBits a.num ≤ 1480 ∧ intBits b.num ≤ 1480 ∧ intBits c.num ≤ 1480 ∧ intBits ((a.den * b.den * c.den : Nat) : Int) ≤ 1511) ∧ ∀ d, IsMom m s d → q d M
def c_root_after : ZC := fun ds M q => ∃ m s : Rat, ds = [FR m, FR s] ∧ (B 20 m ∧ B 1200 s ∧ 0 ≤ s) ∧ ∀ d, IsMom m s d → q d M
def c_is_point : ZC := fun ds M q => ∃ p : P2, ds = [PT p] ∧ q (.bl true) M
def c_is_from_nought : ZC := fun ds M q => ∃ r : Rat, ds = [FR r] ∧ 0 ≤ r ∧ q (.bl true) M
def c_check_point : ZC := fun ds M q => ∃ p : P2, ds = [PT p] ∧ q .non M
def c_check_length : ZC := fun ds M q => ∃ r : Rat, ds = [FR r] ∧ 0 ≤ r ∧ q .non M
def c_check_speed : ZC := fun ds M q => ∃ r : Rat, ds = [FR r] ∧ 0 < r ∧ q .non M
def c_point_less : ZC := fun ds M q => ∃ a b : P2, ds = [PT a, PT b] ∧ (BP 1000 a ∧ BP 1000 b) ∧ q (PT (sub2 a b)) M
def c_product : ZC := fun ds M q => ∃ a b : P2, ds = [PT a, PT b] ∧ (BP 1000 a ∧ BP 1000 b) ∧ q (FR (dot a b)) M
def c_is_look : ZC := fun ds M q => ∃ (t : Rat) (p : P2), ds = [lookD t p] ∧ q (.bl true) M
def c_check_look : ZC := fun ds M q => ∃ (t : Rat) (p : P2), ds = [lookD t p] ∧ q .non M
def c_sides_of : ZC := fun ds M q => ∃ ps : List P2, ds = [PA ps] ∧ (ps ≠ [] ∧ ps.length ≤ 1000) ∧ q (.lst ((sides ps).map fun s => .tup [PT s.1, PT s.2])) M
def c_square_of : ZC := fun ds M q => ∃ a b : P2, ds = [PT a, PT b] ∧ (BP 450 a ∧ BP 450 b) ∧ q (FR (sqd a b)) M
def c_led : ZC := fun ds M q => ∃ (a b : P2) (t : Rat), ds = [PT a, PT b, FR t] ∧ (BP 1000 a ∧ BP 1000 b ∧ B 1000 t) ∧ q (PT (led2 a b t)) M
def c_turn : ZC := fun ds M q => ∃ a b c : P2, ds = [PT a, PT b, PT c] ∧ (BP 100 a ∧ BP 100 b ∧ BP 100 c) ∧ q (.int (cross a b c).num) M
def c_is_ahead : ZC := fun ds M q => ∃ a b : P2, ds = [PT a, PT b] ∧ (BP 100 a ∧ BP 100 b) ∧ q (.bl (ahead a b)) M
def c_is_patch : ZC := fun ds M q => ∃ ps : List P2, ds = [PA ps] ∧ Good ps ∧ q (.bl true) M
def c_check_patch : ZC := fun ds M q => ∃ ps : List P2, ds = [PA ps] ∧ Good ps ∧ q .non M
def c_check_patches : ZC := fun ds M q => ∃ l : List (List P2), ds = [PAs l] ∧ GoodAll l ∧ q .non M
def c_check_asked : ZC := fun ds M q => ∃ (t : Rat) (p : P2) (v : Rat) (l : List (List P2)) (w : Rat), ds = [lookD t p, FR v, PAs l, FR w] ∧ Asked t p v l w ∧ q .non M
def c_near_on : ZC := fun ds M q => ∃ p a b : P2, ds = [PT p, .tup [PT a, PT b]] ∧ (BP 24 p ∧ BP 12 a ∧ BP 12 b ∧ a ≠ b) ∧ q (PT (near p a b)) M
def c_rim_of : ZC := fun ds M q => ∃ (p : P2) (ps : List P2), ds = [PT p, PA ps] ∧ (BP 24 p ∧ Good ps) ∧ ∀ s n, q (.tup [FR (rimSq p ps), s, n]) M
def c_rim_distance : ZC := fun ds M q => ∃ (p : P2) (ps : List P2), ds = [PT p, PA ps] ∧ (BP 24 p ∧ Good ps) ∧ q (FR (rimSq p ps)) M
def c_nearest_rim : ZC := fun ds M q => ∃ (p : P2) (l : List (List P2)), ds = [PT p, PAs l] ∧ (BP 24 p ∧ GoodAll l) ∧ ∀ (i : Nat) s n, IsIdx (squares p l) i → q (.tup [.int i, FR (least (squares p l)), s, n]) M
def c_next_of : ZC := fun ds M q => ∃ (t : Rat) (p : P2) (v : Rat) (l : List (List P2)) (w : Rat), ds = [lookD t p, FR v, PAs l, FR w] ∧ Asked t p v l w ∧ ∀ d, IsMom (t + w) (least (squares p l) / (v * v)) d → q d M
def c_next_by : ZC := fun ds M q => ∃ (t : Rat) (p : P2) (v : Rat) (l : List (List P2)) (w : Rat), ds = [lookD t p, FR v, PAs l, FR w] ∧ Asked t p v l w ∧ ∀ i : Nat, IsIdx (squares p l) i → q (.int i) M
/-! ### the law's own part -/
/-- a pot of numbers, after n takes or less -/
def Pot (n : Nat) (xs : List D) : Prop := ∃ (a b : Int) (c : Nat), xs = [.int a, .int b, .int c] ∧ 0 ≤ a ∧ 0 ≤ b ∧ b < 2 ^ 61 ∧ c ≤ n
def AtPot (M : Mh) (p : Addr) (n : Nat) : Prop := ∃ xs, M p = some (.lst xs) ∧ Pot n xs
def After (M : Mh) (p : Addr) (n : Nat) (k : Mh → Prop) : Prop := ∀ xs, Pot n xs → k (mup M p (.lst xs))
def c_law_pot : ZC := fun ds M q => ∃ (ns : List Int) (i : Nat), ds = [.lst (ns.map D.int), .int i] ∧ (i < 1000 ∧ ns.length ≤ 1000) ∧ ∀ a xs, M a = none → Pot 0 xs → q (.ref a) (mup M a (.lst xs))
def c_law_take : ZC := fun ds M q => ∃ (p : Addr) (u n : Nat), ds = [.ref p, .int u] ∧ (AtPot M p n ∧ 0 < u ∧ u ≤ 1000 ∧ n ≤ 1000) ∧ ∀ d : Nat, d < u → After M p (n + 1) (q (.int d))
def c_law_of : ZC := fun ds M q => ∃ (p : Addr) (xs : List D) (n : Nat), ds = [.ref p, .lst xs] ∧ (AtPot M p n ∧ 0 < xs.length ∧ xs.length ≤ 1000 ∧ n ≤ 1000) ∧ ∀ x, x ∈ xs → After M p (n + 1) (q x)
def c_law_cells : ZC := fun ds M q => ∃ (xs : List D) (l : Int), ds = [.lst xs, .int l] ∧ xs.length ≤ 1000 ∧ q (.lst (rgD 0 (max 1 (min l xs.length)))) M
def c_law_sign : ZC := fun ds M q => ∃ i : Int, ds = [.int i] ∧ q (.int ((if 0 < i then 1 else 0) - (if i < 0 then 1 else 0))) M
def c_law_moment : ZC := fun ds M q => ∃ a b d r : Int, ds = [.tup [.int a, .int b, .int d, .int r]] ∧ (0 < b ∧ 0 ≤ d ∧ 0 < r ∧ intBits a ≤ 2000 ∧ intBits b ≤ 2000 ∧ intBits d ≤ 4000 ∧ intBits r ≤ 2000) ∧ ∀ x, IsMom ((a : Rat) / r) ((b : Rat) * b * d / (r * r)) x → q x M
def c_law_drawn_fraction : ZC := fun ds M q => ∃ (p : Addr) (m n : Nat), ds = [.ref p, .int m] ∧ (AtPot M p n ∧ m ≤ 7 ∧ n ≤ 900) ∧ ∀ r, B 3 r → After M p (n + 2) (q (FR r))
def c_law_drawn_point : ZC := fun ds M q => ∃ (p : Addr) (m n : Nat), ds = [.ref p, .int m] ∧ (AtPot M p n ∧ m ≤ 7 ∧ n ≤ 800) ∧ ∀ r, BP 3 r → After M p (n + 4) (q (PT r))
def c_law_at_most : ZC := fun ds M q => ∃ r s : Rat, ds = [FR r, FR s] ∧ (B 4400 r ∧ B 4400 s) ∧ q (.bl (decide (r ≤ s))) M
def c_law_to_side : ZC := fun ds M q => ∃ p a b : P2, ds = [PT p, PT a, PT b] ∧ (BP 24 p ∧ BP 12 a ∧ BP 12 b ∧ a ≠ b) ∧ q (FR (sideSq p a b)) M
def c_law_latest : ZC := fun ds M q => ∃ (t : Rat) (p : P2) (v : Rat) (l : List (List P2)) (w : Rat), ds = [lookD t p, FR v, PAs l, FR w] ∧ Asked t p v l w ∧
  ∀ (i : Nat), IsIdx (squares p l) i → q (.tup [.tup [.int ((t + w).num * (least (squares p l)).den * v.num), .int ((t + w).den * v.den), .int ((least (squares p l)).num * (least (squares p l)).den), .int ((t + w).den * (least (squares p l)).den * v.num)], .int i]) M
def c_law_drawn_patch : ZC := fun ds M q => ∃ (p : Addr) (n : Nat), ds = [.ref p] ∧ (AtPot M p n ∧ n ≤ 100) ∧ ∀ ps, Good ps → After M p (n + 6) (q (PA ps))
def c_law_drawn_chase : ZC := fun ds M q => ∃ (p : Addr), ds = [.ref p] ∧ AtPot M p 0 ∧ ∀ t pt v l w, Asked t pt v l w → After M p 20 (q (.tup [lookD t pt, FR v, PAs l, FR w]))
def c_law_right : ZC := fun ds M q => ∃ (p : Addr), ds = [.ref p] ∧ AtPot M p 0 ∧ ∀ xs, q (.bl true) (mup M p (.lst xs))
def c_law : ZC := fun ds M q => ∃ ns : List Int, ds = [.lst (ns.map D.int)] ∧ ns.length ≤ 63 ∧ ∀ M2, q (.bl true) M2
/-! ### k46: ways, steps, plans -/
/-- x ≤ m + √s -/
def LeM (x m s : Rat) : Prop := x ≤ m ∨ (x - m) * (x - m) ≤ s
/-- k whole steps of st from f reach m + √s, k + 1 do not -/
def IsK (f st m s : Rat) (k : Nat) : Prop := LeM (f + (k : Rat) * st) m s ∧ ¬ LeM (f + ((k + 1 : Nat) : Rat) * st) m s
abbrev Rep := Rat × P2
def wayD (w : List Rep) : D := .tup (w.map fun r => lookD r.1 r.2)
def legs (w : List Rep) : List (Rep × Rep) := w.zip (w.drop 1)
def legD (l : Rep × Rep) : D := .tup [lookD l.1.1 l.1.2, lookD l.2.1 l.2.2]
/-- a moment in twelfths -/
def Tw (t : Rat) : Prop := ∃ n : Int, t = (n : Rat) / 12 ∧ n.natAbs ≤ 255
structure GoodLeg (l : Rep × Rep) : Prop where
  t0 : Tw l.1.1
  t1 : Tw l.2.1
  p0 : BP 3 l.1.2
  p1 : BP 3 l.2.2
  lt : l.1.1 < l.2.1
  b : B 2 (l.2.1 - l.1.1)
  le : l.2.1 - l.1.1 ≤ 3
structure GoodWay (w : List Rep) : Prop where
  l2 : 2 ≤ w.length
  l4 : w.length ≤ 4
  first : ∃ i : Int, (w.headD (0, (0, 0))).1 = (i : Rat) ∧ i.natAbs ≤ 2
  leg : ∀ l ∈ legs w, GoodLeg l
def firstT (w : List Rep) : Rat := (w.headD (0, (0, 0))).1
def lastT (w : List Rep) : Rat := (w.getLastD (0, (0, 0))).1
def placeLeg (l : Rep × Rep) (t : Rat) : P2 := led2 l.1.2 (sub2 l.2.2 l.1.2) ((t - l.1.1) / (l.2.1 - l.1.1))
def legOf (w : List Rep) (t : Rat) : Option (Rep × Rep) := (legs w).find? fun l => decide (t ≤ l.2.1)
def place (w : List Rep) (t : Rat) : P2 := match legOf w t with
  | some l => placeLeg l t
  | none => (0, 0)
structure OnWay (w : List Rep) (t : Rat) : Prop where
  tw : Tw t
  ge : firstT w ≤ t
  le : t ≤ lastT w
def slopeX (l : Rep × Rep) : Rat := (l.2.2.1 - l.1.2.1) / (l.2.1 - l.1.1)
def slopeY (l : Rep × Rep) : Rat := (l.2.2.2 - l.1.2.2) / (l.2.1 - l.1.1)
def spSq (l : Rep × Rep) : Rat := slopeX l * slopeX l + slopeY l * slopeY l
def slowLeg (v : Rat) (l : Rep × Rep) : Prop := sqd l.1.2 l.2.2 ≤ (v * (l.2.1 - l.1.1)) * (v * (l.2.1 - l.1.1))
instance {v : Rat} {l : Rep × Rep} : Decidable (slowLeg v l) := inferInstanceAs (Decidable (_ ≤ _))
structure Task (w : List Rep) (v : Rat) (l : List (List P2)) (x st : Rat) : Prop where
  gw : GoodWay w
  bv : B 8 v
  vp : 0 < v
  gl : GoodAll l
  bx : B 8 x
  xp : 0 < x
  sc : ∃ c : Nat, st = (c : Rat) / 12 ∧ 0 < c ∧ c ≤ 24
  sx : st ≤ x
  slow : ∀ l ∈ legs w, slowLeg v l
  span : lastT w - firstT w ≤ 100 * st
open Classical in
noncomputable def kOf (f st m s : Rat) : Nat := if h : ∃ k, IsK f st m s k then Classical.choose h else 0
noncomputable def dueK (w : List Rep) (v : Rat) (l : List (List P2)) (x st : Rat) (t : Rat) : Nat := kOf (firstT w) st (t + x) (least (squares (place w t) l) / (v * v))
noncomputable def due (w : List Rep) (v : Rat) (l : List (List P2)) (x st : Rat) (t : Rat) : Rat := firstT w + (dueK w v l x st t : Rat) * st
/-- the moments of the plan, from here on -/
def IsPlan (nxt : Rat → Rat) (last : Rat) : Rat → List Rat → Prop
  | _, [] => False
  | h, [x] => x = h ∧ last < nxt h
  | h, x :: y :: r => x = h ∧ nxt h ≤ last ∧ IsPlan nxt last (nxt h) (y :: r)
def c_compared : ZC := fun ds M q => ∃ r s : Rat, ds = [FR r, FR s] ∧ (B 4400 r ∧ B 4400 s) ∧ ∀ i : Int, (0 < i ↔ s < r) → q (.int i) M
def sgn (i : Int) : Int := if 0 < i then 1 else if i = 0 then 0 else -1
def c_sign : ZC := fun ds M q => ∃ i : Int, ds = [.int i] ∧ q (.int (sgn i)) M
def c_square : ZC := fun ds M q => ds = [.int 0] ∧ q (.int 0) M
def c_sign_of_one : ZC := fun _ _ _ => False
def c_sign_of_two : ZC := fun ds M q => ∃ c : Int, ds = [.int c, .int 0, .int 1, .int 0, .int 1] ∧ q (.int (sgn c)) M
def c_told_parts : ZC := fun ds M q => (∃ r : Rat, ds = [FR r] ∧ q (.tup [.int r.num, .int 0, .int 1, .int r.den]) M) ∨
  (∃ a b c : Int, ds = [.tup [.int a, .int b, .int c, .int 1]] ∧ (intBits a ≤ 3000 ∧ intBits b ≤ 3000 ∧ intBits c ≤ 3000) ∧ q (.tup [.int (-b), .int 1, .int (b * b - 4 * a * c), .int (2 * a)]) M)
def c_compared_moments : ZC := fun ds M q => ∃ r s : Rat, ds = [FR r, FR s] ∧ (B 4400 r ∧ B 4400 s) ∧ ∀ i : Int, (i ≤ 0 ↔ r ≤ s) → q (.int i) M
def c_shifted_by : ZC := fun ds M q => ∃ (d : D) (f : Int), ds = [d, FR (f : Rat)] ∧ ∃ m s : Rat, IsMom m s d ∧ (B 20 m ∧ B 1200 s ∧ intBits f ≤ 8 ∧ 0 ≤ s) ∧ ∀ d', IsMom (m + (f : Rat)) s d' → q d' M
def c_scaled_by : ZC := fun ds M q => ∃ (d : D) (y : Rat), ds = [d, FR y] ∧ ∃ m s : Rat, IsMom m s d ∧ (B 30 m ∧ B 1200 s ∧ B 8 y ∧ 0 < y ∧ 0 ≤ s) ∧ ∀ d', IsMom (m * y) (s * (y * y)) d' → q d' M
def c_floor_of : ZC := fun ds M q => ∃ d : D, ds = [d, .int 1] ∧ ∃ m s : Rat, IsMom m s d ∧ (B 40 m ∧ B 1220 s ∧ 0 ≤ s) ∧ ∀ k : Int, LeM (k : Rat) m s → ¬ LeM ((k + 1 : Int) : Rat) m s → q (.int k) M
def c_rounded_by : ZC := fun ds M q => ∃ d : D, ds = [d, .int 0] ∧ ∃ m s : Rat, IsMom m s d ∧ (B 40 m ∧ B 1220 s ∧ 0 ≤ s) ∧ ∀ k : Int, LeM (k : Rat) m s → ¬ LeM ((k + 1 : Int) : Rat) m s → q (FR (k : Rat)) M
def c_is_report : ZC := fun ds M q => ∃ (t : Rat) (p : P2), ds = [lookD t p] ∧ q (.bl true) M
def c_is_way : ZC := fun ds M q => ∃ w : List Rep, ds = [wayD w] ∧ GoodWay w ∧ q (.bl true) M
def c_check_way : ZC := fun ds M q => ∃ w : List Rep, ds = [wayD w] ∧ GoodWay w ∧ q .non M
def c_legs_of : ZC := fun ds M q => ∃ w : List Rep, ds = [wayD w] ∧ w.length ≤ 4 ∧ q (.lst ((legs w).map legD)) M
def c_run_of : ZC := fun ds M q => ∃ (t0 : Rat) (a : P2) (t1 : Rat) (b : P2) (ax : Int), ds = [lookD t0 a, lookD t1 b, .int ax] ∧ GoodLeg ((t0, a), (t1, b)) ∧
  ((ax = 0 ∧ q (.tup [FR (slopeX ((t0, a), (t1, b))), FR (a.1 - slopeX ((t0, a), (t1, b)) * t0)]) M) ∨ (ax = 1 ∧ q (.tup [FR (slopeY ((t0, a), (t1, b))), FR (a.2 - slopeY ((t0, a), (t1, b)) * t0)]) M))
def c_leg_at : ZC := fun ds M q => ∃ (w : List Rep) (t : Rat), ds = [wayD w, FR t] ∧ (GoodWay w ∧ OnWay w t) ∧ ∀ l, legOf w t = some l → q (legD l) M
def c_at_of : ZC := fun ds M q => ∃ (w : List Rep) (t : Rat), ds = [wayD w, FR t] ∧ (GoodWay w ∧ OnWay w t) ∧ q (PT (place w t)) M
def c_speeds : ZC := fun ds M q => ∃ w : List Rep, ds = [wayD w] ∧ GoodWay w ∧ q (.tup ((legs w).map fun l => FR (spSq l))) M
def taskDs (w : List Rep) (v : Rat) (l : List (List P2)) (x st : Rat) : List D := [wayD w, FR v, PAs l, FR x, FR st]
def c_check_plan : ZC := fun ds M q => ∃ (w : List Rep) (v : Rat) (l : List (List P2)) (x st : Rat), ds = [wayD w, FR v, PAs l, FR x, FR st] ∧ Task w v l x st ∧ q .non M
def c_on_steps : ZC := fun ds M q => ∃ (d : D) (f st : Rat), ds = [d, FR f, FR st] ∧ ∃ m s : Rat, IsMom m s d ∧ (B 17 m ∧ B 1173 s ∧ 0 ≤ s ∧ (∃ i : Int, f = (i : Rat) ∧ i.natAbs ≤ 2) ∧ (∃ c : Nat, st = (c : Rat) / 12 ∧ 0 < c ∧ c ≤ 24) ∧ LeM f m s) ∧ ∀ k : Nat, IsK f st m s k → q (FR (f + (k : Rat) * st)) M
def c_plan : ZC := fun ds M q => ∃ (w : List Rep) (v : Rat) (l : List (List P2)) (x st : Rat), ds = [wayD w, FR v, PAs l, FR x, FR st] ∧ Task w v l x st ∧ ∀ xs, IsPlan (due w v l x st) (lastT w) (firstT w) xs → q (.tup (xs.map FR)) M
def c_law_sign_one : ZC := fun ds M q => ∃ a b d : Int, ds = [.int a, .int b, .int d] ∧ (b ≤ 0 ∧ 0 ≤ d ∧ intBits a ≤ 6000 ∧ intBits b ≤ 6000 ∧ intBits d ≤ 6000) ∧ ∀ i : Int, (i ≤ 0 ↔ (a ≤ 0 ∨ a * a ≤ b * b * d)) → q (.int i) M
def c_law_sign_two : ZC := fun ds M q => ∃ a b d : Int, ds = [.int a, .int 0, .int 0, .int b, .int d] ∧ (b ≤ 0 ∧ 0 ≤ d ∧ intBits a ≤ 6000 ∧ intBits b ≤ 6000 ∧ intBits d ≤ 6000) ∧ ∀ i : Int, (i ≤ 0 ↔ (a ≤ 0 ∨ a * a ≤ b * b * d)) → q (.int i) M
/-- a number (p + q √d) / r, as the law writes it -/
structure Num (p q d r : Int) : Prop where
  q0 : 0 ≤ q
  d0 : 0 ≤ d
  r0 : 0 < r
  bp : intBits p ≤ 2600
  bq : intBits q ≤ 2600
  bd : intBits d ≤ 5200
  br : intBits r ≤ 2600
def numM (p r : Int) : Rat := (p : Rat) / r
def numS (q d r : Int) : Rat := (q : Rat) * q * d / ((r : Rat) * r)
def numD (p q d r : Int) : D := .tup [.int p, .int q, .int d, .int r]
def c_law_number : ZC := fun ds M q => ∃ d : D, ds = [d] ∧ ∃ m s : Rat, IsMom m s d ∧ (B 17 m ∧ B 1173 s ∧ 0 ≤ s) ∧ ∀ a b c r, Num a b c r → (∀ x, LeM x (numM a r) (numS b c r) ↔ LeM x m s) → q (numD a b c r) M
def c_law_compare : ZC := fun ds M q => ∃ (x : Rat) (a b c r : Int), ds = [.tup [.int x.num, .int 0, .int 0, .int x.den], numD a b c r] ∧ (Num a b c r ∧ B 2600 x) ∧ ∀ i : Int, (i ≤ 0 ↔ LeM x (numM a r) (numS b c r)) → q (.int i) M
def c_law_step_number : ZC := fun ds M q => ∃ (f st : Rat) (n : Nat), ds = [FR f, FR st, .int n] ∧ (B 8 f ∧ B 8 st ∧ n < 2 ^ 1600) ∧ q (.tup [.int (f + (n : Rat) * st).num, .int 0, .int 0, .int (f + (n : Rat) * st).den]) M
def c_law_steps_to : ZC := fun ds M q => ∃ (f st : Rat) (a b c r : Int), ds = [FR f, FR st, numD a b c r] ∧ (B 8 f ∧ B 8 st ∧ Num a b c r ∧ LeM f (numM a r) (numS b c r) ∧ 0 < st ∧ ∃ N : Nat, N ≤ 2 ^ 1500 ∧ ¬ LeM (f + (N : Rat) * st) (numM a r) (numS b c r)) ∧
  ∀ k : Nat, IsK f st (numM a r) (numS b c r) k → q (.int k) M
def c_law_drawn_way : ZC := fun ds M q => ∃ (p : Addr) (m n : Nat), ds = [.ref p, .int m] ∧ (AtPot M p n ∧ 1 ≤ m ∧ m ≤ 3 ∧ n ≤ 100) ∧ ∀ w, GoodWay w → After M p (n + 40) (q (wayD w))
def c_law_is_slow : ZC := fun ds M q => ∃ (w : List Rep) (v : Rat), ds = [wayD w, FR v] ∧ (GoodWay w ∧ B 8 v) ∧ q (.bl (decide (∀ l ∈ legs w, slowLeg v l))) M
def c_law_own_plan : ZC := c_plan
def c_law_kept_speed : ZC := fun ds M q => ∃ w : List Rep, ds = [wayD w] ∧ GoodWay w ∧ ∀ v, 0 < v → B 8 v → (∀ l ∈ legs w, slowLeg v l) → q (FR v) M
def c_law_fewer_by_chance : ZC := fun ds M q => ∃ (p : Addr) (w : List Rep) (v : Rat) (l : List (List P2)) (x st : Rat) (k n : Nat), ds = [.ref p, wayD w, FR v, PAs l, FR x, FR st, .int k] ∧ (AtPot M p n ∧ n ≤ 100 ∧ Task w v l x st ∧ ∃ xs, IsPlan (due w v l x st) (lastT w) (firstT w) xs ∧ k = xs.length) ∧ ∀ ys, q (.bl false) (mup M p (.lst ys))
def ctr : Nat → ZC
  | 0 => c_is_whole
  | 1 => c_is_tuple
  | 2 => c_common
  | 3 => c_fraction
  | 4 => c_whole
  | 5 => c_is_fraction
  | 6 => (c2 (· + ·))
  | 7 => (c2 (· - ·))
  | 8 => (c2 (· * ·))
  | 9 => c_over
  | 10 => c_compared
  | 11 => c_is_below
  | 12 => c_root_floor
  | 13 => c_sign
  | 14 => c_square
  | 15 => c_sign_of_one
  | 16 => c_sign_of_two
  | 17 => c_discriminant
  | 18 => c_moment_of_whole
  | 19 => c_scaled_up
  | 20 => c_root3
  | 21 => c_told_parts
  | 22 => c_compared_moments
  | 23 => c_shifted_by
  | 24 => c_scaled_by
  | 25 => c_floor_of
  | 26 => c_rounded_by
  | 27 => c_is_point
  | 28 => c_is_from_nought
  | 29 => c_check_length
  | 30 => c_check_speed
  | 31 => c_point_less
  | 32 => c_product
  | 33 => c_is_look
  | 34 => c_check_look
  | 35 => c_sides_of
  | 36 => c_square_of
  | 37 => c_led
  | 38 => c_turn
  | 39 => c_is_ahead
  | 40 => c_is_patch
  | 41 => c_is_report
  | 42 => c_is_way
  | 43 => c_check_way
  | 44 => c_legs_of
  | 45 => c_run_of
  | 46 => c_leg_at
  | 47 => c_at_of
  | 48 => c_speeds
  | 49 => c_check_patches
  | 50 => c_check_asked
  | 51 => c_near_on
  | 52 => c_rim_of
  | 53 => c_nearest_rim
  | 54 => c_root_after
  | 55 => c_next_of
  | 56 => c_next_of
  | 57 => c_check_plan
  | 58 => c_on_steps
  | 59 => c_plan
  | 60 => c_law_pot
  | 61 => c_law_take
  | 62 => c_law_of
  | 63 => c_law_cells
  | 64 => c_common
  | 65 => c_fraction
  | 66 => c_law_sign
  | 67 => c_law_sign_one
  | 68 => c_law_sign_two
  | 69 => c_law_number
  | 70 => c_law_compare
  | 71 => c_law_drawn_fraction
  | 72 => c_law_drawn_point
  | 73 => c_law_drawn_way
  | 74 => (c2 (· + ·))
  | 75 => (c2 (· - ·))
  | 76 => (c2 (· * ·))
  | 77 => c_law_at_most
  | 78 => c_square_of
  | 79 => c_law_to_side
  | 80 => c_rim_distance
  | 81 => c_law_latest
  | 82 => c_law_is_slow
  | 83 => c_law_drawn_patch
  | 84 => c_at_of
  | 85 => c_law_step_number
  | 86 => c_law_steps_to
  | 87 => c_law_own_plan
  | 88 => c_law_kept_speed
  | 89 => c_law_fewer_by_chance
  | 90 => c_law_right
  | 91 => c_law
  | _ => fun _ _ _ => False
def cst : Nat → D
  | 0 => .int 2
  | 1 => .int 2
  | 2 => .int 4
  | 3 => .tup [.int 0, .int 1]
  | 4 => .int 2
  | 5 => .int 2
  | 6 => .int 8
  | 7 => .int 3
  | 8 => .int 2
  | 9 => .int 12
  | 10 => .int 6
  | 11 => .tup [.int 0, .int 1]
  | 12 => .tup [.int 1, .int 1]
  | 13 => .int 200
  | _ => .non
def G : Ge := ⟨ctr, cst⟩
end K46
end
section
/-! K46b: numbers. -/
namespace K46
open PySem PySem.Spec PyProof.Rows L2 Zz
open PySem.Builtin.Int (intBits)

theorem den_mul (r s : Rat) : ((r.den : Int) * s.den) ≠ 0 := by
  intro e
  exact Nat.mul_ne_zero r.den_nz s.den_nz (by exact_mod_cast e)
theorem bmul {i j m : Nat} {x y : Int} (h1 : intBits x ≤ i) (h2 : intBits y ≤ j) (h : i + j ≤ m) : intBits (x * y) ≤ m := Nat.le_trans (intBits_mul_le h1 h2) h
theorem badd {i j m : Nat} {x y : Int} (h1 : intBits x ≤ i) (h2 : intBits y ≤ j) (h : max i j + 1 ≤ m) : intBits (x + y) ≤ m := Nat.le_trans (intBits_add_le h1 h2) h
theorem bsub {i j m : Nat} {x y : Int} (h1 : intBits x ≤ i) (h2 : intBits y ≤ j) (h : max i j + 1 ≤ m) : intBits (x - y) ≤ m := Nat.le_trans (intBits_sub_le h1 h2) h
theorem fr_add (r s : Rat) : Rat.divInt (r.num * s.den + s.num * r.den) (r.den * s.den) = r + s := by
  rw [Rat.add_def', ← Rat.divInt_ofNat, Int.natCast_mul]
theorem fr_sub (r s : Rat) : Rat.divInt (r.num * s.den - s.num * r.den) (r.den * s.den) = r - s := by
  rw [Rat.sub_def', ← Rat.divInt_ofNat, Int.natCast_mul]
theorem fr_mul (r s : Rat) : Rat.divInt (r.num * s.num) (r.den * s.den) = r * s := by
  rw [Rat.mul_def', ← Rat.divInt_ofNat, Int.natCast_mul]
theorem fr_div (r s : Rat) (h : s ≠ 0) : Rat.divInt (r.num * s.den) (r.den * s.num) = r / s := by
  rw [Rat.div_def, Rat.inv_def]
  conv => rhs; lhs; rw [← Rat.num_divInt_den r]
  rw [Rat.divInt_mul_divInt]
theorem p_plus : ∀ ds M q, c2 (· + ·) ds M q → rdCs G ir_plus (zEnds q) (zstart N_plus ds) M := by
  rintro ds M q ⟨r, s, rfl, ⟨h1, h2⟩, w⟩
  simp only [ir_plus, N_plus, FR, rdCs, rdC, rd, rds, rdc, rdo, rdg, rdgs, rdi, rdAV, rdAT, rdOV, rdOT, ofV, mkT, testV, zVar, slot, zCst, zBin, zUn, zChain, zAndV, zOrV, zAndT, zOrT, zNotV, zNotT, zIte, zIteT, zTup, zTupS, zANil, zACons, zAStar, zCall, zCallK, zONone, zOSome, zSlice, zBitsD, zGName, zGTup_tup, zGTup_lst, zGTup_FR, zGsNil, zGsCons,  zSetD, zGItem, zISeq, zIRng, zIZip, zIEnum, zYes, zAugD, zstart, zOp, zAdd, zSub, zMul, zFdiv, zMod, zPow, zShl, zCo, zEq, zNe, zIntC, zIs, zIsn, Zz.isNon, zBi, zLen, zAbs, zNegD, zTru, zBl, zRgL, zInt1, zMax2, zMin2, itemsOf, Zz.listOfD, Tgs.len, List.map_cons, List.map_nil, List.length_cons, List.length_nil, List.replicate_succ, List.replicate_zero, List.cons_append, List.nil_append, List.append_nil, List.set_cons_zero, List.set_cons_succ, Nat.sub_self, Nat.reduceSub, Nat.reduceAdd, reduceIte, Bool.false_eq_true, zIx_t0, zIx_t1, zIx_t2, zIx_t3, Bool.not_true, Bool.not_false, G, ctr, cst, zIsi_int, zIsi_tup, zIsi_lst, zIsi_bl, isTy, Option.some.injEq, exists_eq_left', List.cons.injEq, D.int.injEq, and_true, true_and, exists_and_left, and_self, okd_int, eqD_int, zComp, zwipe, zIx_fr0, zIx_fr1, Bool.true_and, Bool.and_true, decide_eq_true_eq, and_assoc, zIx_pt0, zIx_pt1, zIx_lk0, zIx_lk1, FR_inj, PT_inj, lookD_inj, PA_inj, PAs_inj, okd_FR, eqD_FR, okd_PT, eqD_PT, zSl_tup, cutD_1, cutD_to1, D.tup.injEq, D.lst.injEq, D.ref.injEq, ne_eq, zSeq_asg, zSeq_iff, zSeq_ret, zSeq_retN, zSeq_expr, zSeq_next, zSeq_seq, zSeq_never, zSeq_whl, zSeq_for, zSeq_aug, zNext_nx, zEnds_nx, zEnds_rt]
  refine ⟨mulOk h1.n h2.d (by decide), mulOk h2.n h1.d (by decide), mulOk h1.d h2.d (by decide), _, _, rfl, ⟨den_mul r s, ?_, bmul h1.d h2.d (by decide)⟩, M, sub_refl, ?_⟩
  · exact badd (bmul h1.n h2.d (Nat.le_refl _)) (bmul h2.n h1.d (Nat.le_refl _)) (by decide)
  · rw [fr_add]; exact w
theorem p_less : ∀ ds M q, c2 (· - ·) ds M q → rdCs G ir_less (zEnds q) (zstart N_less ds) M := by
  rintro ds M q ⟨r, s, rfl, ⟨h1, h2⟩, w⟩
  simp only [ir_less, N_less, FR, rdCs, rdC, rd, rds, rdc, rdo, rdg, rdgs, rdi, rdAV, rdAT, rdOV, rdOT, ofV, mkT, testV, zVar, slot, zCst, zBin, zUn, zChain, zAndV, zOrV, zAndT, zOrT, zNotV, zNotT, zIte, zIteT, zTup, zTupS, zANil, zACons, zAStar, zCall, zCallK, zONone, zOSome, zSlice, zBitsD, zGName, zGTup_tup, zGTup_lst, zGTup_FR, zGsNil, zGsCons,  zSetD, zGItem, zISeq, zIRng, zIZip, zIEnum, zYes, zAugD, zstart, zOp, zAdd, zSub, zMul, zFdiv, zMod, zPow, zShl, zCo, zEq, zNe, zIntC, zIs, zIsn, Zz.isNon, zBi, zLen, zAbs, zNegD, zTru, zBl, zRgL, zInt1, zMax2, zMin2, itemsOf, Zz.listOfD, Tgs.len, List.map_cons, List.map_nil, List.length_cons, List.length_nil, List.replicate_succ, List.replicate_zero, List.cons_append, List.nil_append, List.append_nil, List.set_cons_zero, List.set_cons_succ, Nat.sub_self, Nat.reduceSub, Nat.reduceAdd, reduceIte, Bool.false_eq_true, zIx_t0, zIx_t1, zIx_t2, zIx_t3, Bool.not_true, Bool.not_false, G, ctr, cst, zIsi_int, zIsi_tup, zIsi_lst, zIsi_bl, isTy, Option.some.injEq, exists_eq_left', List.cons.injEq, D.int.injEq, and_true, true_and, exists_and_left, and_self, okd_int, eqD_int, zComp, zwipe, zIx_fr0, zIx_fr1, Bool.true_and, Bool.and_true, decide_eq_true_eq, and_assoc, zIx_pt0, zIx_pt1, zIx_lk0, zIx_lk1, FR_inj, PT_inj, lookD_inj, PA_inj, PAs_inj, okd_FR, eqD_FR, okd_PT, eqD_PT, zSl_tup, cutD_1, cutD_to1, D.tup.injEq, D.lst.injEq, D.ref.injEq, ne_eq, zSeq_asg, zSeq_iff, zSeq_ret, zSeq_retN, zSeq_expr, zSeq_next, zSeq_seq, zSeq_never, zSeq_whl, zSeq_for, zSeq_aug, zNext_nx, zEnds_nx, zEnds_rt]
  refine ⟨mulOk h1.n h2.d (by decide), mulOk h2.n h1.d (by decide), mulOk h1.d h2.d (by decide), _, _, rfl, ⟨den_mul r s, ?_, bmul h1.d h2.d (by decide)⟩, M, sub_refl, ?_⟩
  · exact bsub (bmul h1.n h2.d (Nat.le_refl _)) (bmul h2.n h1.d (Nat.le_refl _)) (by decide)
  · rw [fr_sub]; exact w
theorem p_times : ∀ ds M q, c2 (· * ·) ds M q → rdCs G ir_times (zEnds q) (zstart N_times ds) M := by
  rintro ds M q ⟨r, s, rfl, ⟨h1, h2⟩, w⟩
  simp only [ir_times, N_times, FR, rdCs, rdC, rd, rds, rdc, rdo, rdg, rdgs, rdi, rdAV, rdAT, rdOV, rdOT, ofV, mkT, testV, zVar, slot, zCst, zBin, zUn, zChain, zAndV, zOrV, zAndT, zOrT, zNotV, zNotT, zIte, zIteT, zTup, zTupS, zANil, zACons, zAStar, zCall, zCallK, zONone, zOSome, zSlice, zBitsD, zGName, zGTup_tup, zGTup_lst, zGTup_FR, zGsNil, zGsCons,  zSetD, zGItem, zISeq, zIRng, zIZip, zIEnum, zYes, zAugD, zstart, zOp, zAdd, zSub, zMul, zFdiv, zMod, zPow, zShl, zCo, zEq, zNe, zIntC, zIs, zIsn, Zz.isNon, zBi, zLen, zAbs, zNegD, zTru, zBl, zRgL, zInt1, zMax2, zMin2, itemsOf, Zz.listOfD, Tgs.len, List.map_cons, List.map_nil, List.length_cons, List.length_nil, List.replicate_succ, List.replicate_zero, List.cons_append, List.nil_append, List.append_nil, List.set_cons_zero, List.set_cons_succ, Nat.sub_self, Nat.reduceSub, Nat.reduceAdd, reduceIte, Bool.false_eq_true, zIx_t0, zIx_t1, zIx_t2, zIx_t3, Bool.not_true, Bool.not_false, G, ctr, cst, zIsi_int, zIsi_tup, zIsi_lst, zIsi_bl, isTy, Option.some.injEq, exists_eq_left', List.cons.injEq, D.int.injEq, and_true, true_and, exists_and_left, and_self, okd_int, eqD_int, zComp, zwipe, zIx_fr0, zIx_fr1, Bool.true_and, Bool.and_true, decide_eq_true_eq, and_assoc, zIx_pt0, zIx_pt1, zIx_lk0, zIx_lk1, FR_inj, PT_inj, lookD_inj, PA_inj, PAs_inj, okd_FR, eqD_FR, okd_PT, eqD_PT, zSl_tup, cutD_1, cutD_to1, D.tup.injEq, D.lst.injEq, D.ref.injEq, ne_eq, zSeq_asg, zSeq_iff, zSeq_ret, zSeq_retN, zSeq_expr, zSeq_next, zSeq_seq, zSeq_never, zSeq_whl, zSeq_for, zSeq_aug, zNext_nx, zEnds_nx, zEnds_rt]
  refine ⟨mulOk h1.n h2.n (by decide), mulOk h1.d h2.d (by decide), _, _, rfl, ⟨den_mul r s, bmul h1.n h2.n (by decide), bmul h1.d h2.d (by decide)⟩, M, sub_refl, ?_⟩
  rw [fr_mul]; exact w
theorem p_over : ∀ ds M q, c_over ds M q → rdCs G ir_over (zEnds q) (zstart N_over ds) M := by
  rintro ds M q ⟨r, s, rfl, ⟨h0, h1, h2⟩, w⟩
  simp only [ir_over, N_over, FR, rdCs, rdC, rd, rds, rdc, rdo, rdg, rdgs, rdi, rdAV, rdAT, rdOV, rdOT, ofV, mkT, testV, zVar, slot, zCst, zBin, zUn, zChain, zAndV, zOrV, zAndT, zOrT, zNotV, zNotT, zIte, zIteT, zTup, zTupS, zANil, zACons, zAStar, zCall, zCallK, zONone, zOSome, zSlice, zBitsD, zGName, zGTup_tup, zGTup_lst, zGTup_FR, zGsNil, zGsCons,  zSetD, zGItem, zISeq, zIRng, zIZip, zIEnum, zYes, zAugD, zstart, zOp, zAdd, zSub, zMul, zFdiv, zMod, zPow, zShl, zCo, zEq, zNe, zIntC, zIs, zIsn, Zz.isNon, zBi, zLen, zAbs, zNegD, zTru, zBl, zRgL, zInt1, zMax2, zMin2, itemsOf, Zz.listOfD, Tgs.len, List.map_cons, List.map_nil, List.length_cons, List.length_nil, List.replicate_succ, List.replicate_zero, List.cons_append, List.nil_append, List.append_nil, List.set_cons_zero, List.set_cons_succ, Nat.sub_self, Nat.reduceSub, Nat.reduceAdd, reduceIte, Bool.false_eq_true, zIx_t0, zIx_t1, zIx_t2, zIx_t3, Bool.not_true, Bool.not_false, G, ctr, cst, zIsi_int, zIsi_tup, zIsi_lst, zIsi_bl, isTy, Option.some.injEq, exists_eq_left', List.cons.injEq, D.int.injEq, and_true, true_and, exists_and_left, and_self, okd_int, eqD_int, zComp, zwipe, zIx_fr0, zIx_fr1, Bool.true_and, Bool.and_true, decide_eq_true_eq, and_assoc, zIx_pt0, zIx_pt1, zIx_lk0, zIx_lk1, FR_inj, PT_inj, lookD_inj, PA_inj, PAs_inj, okd_FR, eqD_FR, okd_PT, eqD_PT, zSl_tup, cutD_1, cutD_to1, D.tup.injEq, D.lst.injEq, D.ref.injEq, ne_eq, zSeq_asg, zSeq_iff, zSeq_ret, zSeq_retN, zSeq_expr, zSeq_next, zSeq_seq, zSeq_never, zSeq_whl, zSeq_for, zSeq_aug, zNext_nx, zEnds_nx, zEnds_rt]
  refine ⟨mulOk h1.n h2.d (by decide), mulOk h1.d h2.n (by decide), _, _, rfl, ⟨?_, bmul h1.n h2.d (by decide), bmul h1.d h2.n (by decide)⟩, M, sub_refl, ?_⟩
  · intro e
    rcases Int.mul_eq_zero.mp e with e | e
    · exact r.den_nz (by exact_mod_cast e)
    · exact h0 (Rat.num_eq_zero.mp e)
  · rw [fr_div r s h0]; exact w
theorem p_is_below : ∀ ds M q, c_is_below ds M q → rdCs G ir_is_below (zEnds q) (zstart N_is_below ds) M := by
  rintro ds M q ⟨r, s, rfl, ⟨h1, h2⟩, w⟩
  simp only [ir_is_below, N_is_below, FR, rdCs, rdC, rd, rds, rdc, rdo, rdg, rdgs, rdi, rdAV, rdAT, rdOV, rdOT, ofV, mkT, testV, zVar, slot, zCst, zBin, zUn, zChain, zAndV, zOrV, zAndT, zOrT, zNotV, zNotT, zIte, zIteT, zTup, zTupS, zANil, zACons, zAStar, zCall, zCallK, zONone, zOSome, zSlice, zBitsD, zGName, zGTup_tup, zGTup_lst, zGTup_FR, zGsNil, zGsCons,  zSetD, zGItem, zISeq, zIRng, zIZip, zIEnum, zYes, zAugD, zstart, zOp, zAdd, zSub, zMul, zFdiv, zMod, zPow, zShl, zCo, zEq, zNe, zIntC, zIs, zIsn, Zz.isNon, zBi, zLen, zAbs, zNegD, zTru, zBl, zRgL, zInt1, zMax2, zMin2, itemsOf, Zz.listOfD, Tgs.len, List.map_cons, List.map_nil, List.length_cons, List.length_nil, List.replicate_succ, List.replicate_zero, List.cons_append, List.nil_append, List.append_nil, List.set_cons_zero, List.set_cons_succ, Nat.sub_self, Nat.reduceSub, Nat.reduceAdd, reduceIte, Bool.false_eq_true, zIx_t0, zIx_t1, zIx_t2, zIx_t3, Bool.not_true, Bool.not_false, G, ctr, cst, zIsi_int, zIsi_tup, zIsi_lst, zIsi_bl, isTy, Option.some.injEq, exists_eq_left', List.cons.injEq, D.int.injEq, and_true, true_and, exists_and_left, and_self, okd_int, eqD_int, zComp, zwipe, zIx_fr0, zIx_fr1, Bool.true_and, Bool.and_true, decide_eq_true_eq, and_assoc, zIx_pt0, zIx_pt1, zIx_lk0, zIx_lk1, FR_inj, PT_inj, lookD_inj, PA_inj, PAs_inj, okd_FR, eqD_FR, okd_PT, eqD_PT, zSl_tup, cutD_1, cutD_to1, D.tup.injEq, D.lst.injEq, D.ref.injEq, ne_eq, zSeq_asg, zSeq_iff, zSeq_ret, zSeq_retN, zSeq_expr, zSeq_next, zSeq_seq, zSeq_never, zSeq_whl, zSeq_for, zSeq_aug, zNext_nx, zEnds_nx, zEnds_rt]
  refine ⟨mulOk h1.n h2.d (by decide), mulOk h2.n h1.d (by decide), M, sub_refl, ?_⟩
  have : decide (r.num * s.den < s.num * r.den) = decide (r < s) := decide_eq_decide.mpr (Rat.lt_iff r s).symm
  rw [this]; exact w
theorem p_whole : ∀ ds M q, c_whole ds M q → rdCs G ir_whole (zEnds q) (zstart N_whole ds) M := by
  rintro ds M q ⟨n, rfl, w⟩
  simp only [ir_whole, N_whole, rdCs, rdC, rd, rds, rdc, rdo, rdg, rdgs, rdi, rdAV, rdAT, rdOV, rdOT, ofV, mkT, testV, zVar, slot, zCst, zBin, zUn, zChain, zAndV, zOrV, zAndT, zOrT, zNotV, zNotT, zIte, zIteT, zTup, zTupS, zANil, zACons, zAStar, zCall, zCallK, zONone, zOSome, zSlice, zBitsD, zGName, zGTup_tup, zGTup_lst, zGTup_FR, zGsNil, zGsCons,  zSetD, zGItem, zISeq, zIRng, zIZip, zIEnum, zYes, zAugD, zstart, zOp, zAdd, zSub, zMul, zFdiv, zMod, zPow, zShl, zCo, zEq, zNe, zIntC, zIs, zIsn, Zz.isNon, zBi, zLen, zAbs, zNegD, zTru, zBl, zRgL, zInt1, zMax2, zMin2, itemsOf, Zz.listOfD, Tgs.len, List.map_cons, List.map_nil, List.length_cons, List.length_nil, List.replicate_succ, List.replicate_zero, List.cons_append, List.nil_append, List.append_nil, List.set_cons_zero, List.set_cons_succ, Nat.sub_self, Nat.reduceSub, Nat.reduceAdd, reduceIte, Bool.false_eq_true, zIx_t0, zIx_t1, zIx_t2, zIx_t3, Bool.not_true, Bool.not_false, G, ctr, cst, zIsi_int, zIsi_tup, zIsi_lst, zIsi_bl, isTy, Option.some.injEq, exists_eq_left', List.cons.injEq, D.int.injEq, and_true, true_and, exists_and_left, and_self, okd_int, eqD_int, zComp, zwipe, zIx_fr0, zIx_fr1, Bool.true_and, Bool.and_true, decide_eq_true_eq, and_assoc, zIx_pt0, zIx_pt1, zIx_lk0, zIx_lk1, FR_inj, PT_inj, lookD_inj, PA_inj, PAs_inj, okd_FR, eqD_FR, okd_PT, eqD_PT, zSl_tup, cutD_1, cutD_to1, D.tup.injEq, D.lst.injEq, D.ref.injEq, ne_eq, zSeq_asg, zSeq_iff, zSeq_ret, zSeq_retN, zSeq_expr, zSeq_next, zSeq_seq, zSeq_never, zSeq_whl, zSeq_for, zSeq_aug, zNext_nx, zEnds_nx, zEnds_rt]
  exact ⟨M, sub_refl, w⟩
theorem p_is_whole : ∀ ds M q, c_is_whole ds M q → rdCs G ir_is_whole (zEnds q) (zstart N_is_whole ds) M := by
  rintro ds M q ⟨n, rfl, w⟩
  simp only [ir_is_whole, N_is_whole, rdCs, rdC, rd, rds, rdc, rdo, rdg, rdgs, rdi, rdAV, rdAT, rdOV, rdOT, ofV, mkT, testV, zVar, slot, zCst, zBin, zUn, zChain, zAndV, zOrV, zAndT, zOrT, zNotV, zNotT, zIte, zIteT, zTup, zTupS, zANil, zACons, zAStar, zCall, zCallK, zONone, zOSome, zSlice, zBitsD, zGName, zGTup_tup, zGTup_lst, zGTup_FR, zGsNil, zGsCons,  zSetD, zGItem, zISeq, zIRng, zIZip, zIEnum, zYes, zAugD, zstart, zOp, zAdd, zSub, zMul, zFdiv, zMod, zPow, zShl, zCo, zEq, zNe, zIntC, zIs, zIsn, Zz.isNon, zBi, zLen, zAbs, zNegD, zTru, zBl, zRgL, zInt1, zMax2, zMin2, itemsOf, Zz.listOfD, Tgs.len, List.map_cons, List.map_nil, List.length_cons, List.length_nil, List.replicate_succ, List.replicate_zero, List.cons_append, List.nil_append, List.append_nil, List.set_cons_zero, List.set_cons_succ, Nat.sub_self, Nat.reduceSub, Nat.reduceAdd, reduceIte, Bool.false_eq_true, zIx_t0, zIx_t1, zIx_t2, zIx_t3, Bool.not_true, Bool.not_false, G, ctr, cst, zIsi_int, zIsi_tup, zIsi_lst, zIsi_bl, isTy, Option.some.injEq, exists_eq_left', List.cons.injEq, D.int.injEq, and_true, true_and, exists_and_left, and_self, okd_int, eqD_int, zComp, zwipe, zIx_fr0, zIx_fr1, Bool.true_and, Bool.and_true, decide_eq_true_eq, and_assoc, zIx_pt0, zIx_pt1, zIx_lk0, zIx_lk1, FR_inj, PT_inj, lookD_inj, PA_inj, PAs_inj, okd_FR, eqD_FR, okd_PT, eqD_PT, zSl_tup, cutD_1, cutD_to1, D.tup.injEq, D.lst.injEq, D.ref.injEq, ne_eq, zSeq_asg, zSeq_iff, zSeq_ret, zSeq_retN, zSeq_expr, zSeq_next, zSeq_seq, zSeq_never, zSeq_whl, zSeq_for, zSeq_aug, zNext_nx, zEnds_nx, zEnds_rt]
  exact ⟨M, sub_refl, w⟩
theorem p_is_tuple : ∀ ds M q, c_is_tuple ds M q → rdCs G ir_is_tuple (zEnds q) (zstart N_is_tuple ds) M := by
  rintro ds M q ⟨xs, l, m, rfl, w⟩
  simp only [ir_is_tuple, N_is_tuple, rdCs, rdC, rd, rds, rdc, rdo, rdg, rdgs, rdi, rdAV, rdAT, rdOV, rdOT, ofV, mkT, testV, zVar, slot, zCst, zBin, zUn, zChain, zAndV, zOrV, zAndT, zOrT, zNotV, zNotT, zIte, zIteT, zTup, zTupS, zANil, zACons, zAStar, zCall, zCallK, zONone, zOSome, zSlice, zBitsD, zGName, zGTup_tup, zGTup_lst, zGTup_FR, zGsNil, zGsCons,  zSetD, zGItem, zISeq, zIRng, zIZip, zIEnum, zYes, zAugD, zstart, zOp, zAdd, zSub, zMul, zFdiv, zMod, zPow, zShl, zCo, zEq, zNe, zIntC, zIs, zIsn, Zz.isNon, zBi, zLen, zAbs, zNegD, zTru, zBl, zRgL, zInt1, zMax2, zMin2, itemsOf, Zz.listOfD, Tgs.len, List.map_cons, List.map_nil, List.length_cons, List.length_nil, List.replicate_succ, List.replicate_zero, List.cons_append, List.nil_append, List.append_nil, List.set_cons_zero, List.set_cons_succ, Nat.sub_self, Nat.reduceSub, Nat.reduceAdd, reduceIte, Bool.false_eq_true, zIx_t0, zIx_t1, zIx_t2, zIx_t3, Bool.not_true, Bool.not_false, G, ctr, cst, zIsi_int, zIsi_tup, zIsi_lst, zIsi_bl, isTy, Option.some.injEq, exists_eq_left', List.cons.injEq, D.int.injEq, and_true, true_and, exists_and_left, and_self, okd_int, eqD_int, zComp, zwipe, zIx_fr0, zIx_fr1, Bool.true_and, Bool.and_true, decide_eq_true_eq, and_assoc, zIx_pt0, zIx_pt1, zIx_lk0, zIx_lk1, FR_inj, PT_inj, lookD_inj, PA_inj, PAs_inj, okd_FR, eqD_FR, okd_PT, eqD_PT, zSl_tup, cutD_1, cutD_to1, D.tup.injEq, D.lst.injEq, D.ref.injEq, ne_eq, zSeq_asg, zSeq_iff, zSeq_ret, zSeq_retN, zSeq_expr, zSeq_next, zSeq_seq, zSeq_never, zSeq_whl, zSeq_for, zSeq_aug, zNext_nx, zEnds_nx, zEnds_rt]
  by_cases h : l ≤ xs.length
  · rw [if_pos h]
    rw [decide_eq_true h, Bool.true_and] at w
    exact ⟨M, sub_refl, w⟩
  · rw [if_neg h]
    rw [decide_eq_false h, Bool.false_and] at w
    exact ⟨M, sub_refl, w⟩
theorem gcd_wh {Z : ZEnds} {M : Mh} : ∀ (n a b : Nat), b ≤ n → Z.nx [some (.int (Nat.gcd a b : Nat)), some (.int 0)] M → zWh (testV (zBin zNe (zVar 1) (zCst (D.int 0)))) (zSeq (zAsg (zGTup 2 (zGsCons (zGName 0) (zGsCons (zGName 1) zGsNil))) (zTup (zACons (zVar 1) (zACons (zBin zMod (zVar 0) (zVar 1)) zANil)))) zNext) (n + 1) Z [some (.int (a : Nat)), some (.int (b : Nat))] M := by
  intro n
  induction n with
  | zero =>
    intro a b h w
    obtain rfl : b = 0 := by omega
    rw [Nat.gcd_zero_right] at w
    unfold zWh
    simp only [rdCs, rdC, rd, rds, rdc, rdo, rdg, rdgs, rdi, rdAV, rdAT, rdOV, rdOT, ofV, mkT, testV, zVar, slot, zCst, zBin, zUn, zChain, zAndV, zOrV, zAndT, zOrT, zNotV, zNotT, zIte, zIteT, zTup, zTupS, zANil, zACons, zAStar, zCall, zCallK, zONone, zOSome, zSlice, zBitsD, zGName, zGTup_tup, zGTup_lst, zGTup_FR, zGsNil, zGsCons,  zSetD, zGItem, zISeq, zIRng, zIZip, zIEnum, zYes, zAugD, zstart, zOp, zAdd, zSub, zMul, zFdiv, zMod, zPow, zShl, zCo, zEq, zNe, zIntC, zIs, zIsn, Zz.isNon, zBi, zLen, zAbs, zNegD, zTru, zBl, zRgL, zInt1, zMax2, zMin2, itemsOf, Zz.listOfD, Tgs.len, List.map_cons, List.map_nil, List.length_cons, List.length_nil, List.replicate_succ, List.replicate_zero, List.cons_append, List.nil_append, List.append_nil, List.set_cons_zero, List.set_cons_succ, Nat.sub_self, Nat.reduceSub, Nat.reduceAdd, reduceIte, Bool.false_eq_true, zIx_t0, zIx_t1, zIx_t2, zIx_t3, Bool.not_true, Bool.not_false, G, ctr, cst, zIsi_int, zIsi_tup, zIsi_lst, zIsi_bl, isTy, Option.some.injEq, exists_eq_left', List.cons.injEq, D.int.injEq, and_true, true_and, exists_and_left, and_self, okd_int, eqD_int, zComp, zwipe, zIx_fr0, zIx_fr1, Bool.true_and, Bool.and_true, decide_eq_true_eq, and_assoc, zIx_pt0, zIx_pt1, zIx_lk0, zIx_lk1, FR_inj, PT_inj, lookD_inj, PA_inj, PAs_inj, okd_FR, eqD_FR, okd_PT, eqD_PT, zSl_tup, cutD_1, cutD_to1, D.tup.injEq, D.lst.injEq, D.ref.injEq, ne_eq, zSeq_asg, zSeq_iff, zSeq_ret, zSeq_retN, zSeq_expr, zSeq_next, zSeq_seq, zSeq_never, zSeq_whl, zSeq_for, zSeq_aug, zNext_nx, zEnds_nx, zEnds_rt]
    exact w
  | succ n ih =>
    intro a b h w
    unfold zWh
    simp only [rdCs, rdC, rd, rds, rdc, rdo, rdg, rdgs, rdi, rdAV, rdAT, rdOV, rdOT, ofV, mkT, testV, zVar, slot, zCst, zBin, zUn, zChain, zAndV, zOrV, zAndT, zOrT, zNotV, zNotT, zIte, zIteT, zTup, zTupS, zANil, zACons, zAStar, zCall, zCallK, zONone, zOSome, zSlice, zBitsD, zGName, zGTup_tup, zGTup_lst, zGTup_FR, zGsNil, zGsCons,  zSetD, zGItem, zISeq, zIRng, zIZip, zIEnum, zYes, zAugD, zstart, zOp, zAdd, zSub, zMul, zFdiv, zMod, zPow, zShl, zCo, zEq, zNe, zIntC, zIs, zIsn, Zz.isNon, zBi, zLen, zAbs, zNegD, zTru, zBl, zRgL, zInt1, zMax2, zMin2, itemsOf, Zz.listOfD, Tgs.len, List.map_cons, List.map_nil, List.length_cons, List.length_nil, List.replicate_succ, List.replicate_zero, List.cons_append, List.nil_append, List.append_nil, List.set_cons_zero, List.set_cons_succ, Nat.sub_self, Nat.reduceSub, Nat.reduceAdd, reduceIte, Bool.false_eq_true, zIx_t0, zIx_t1, zIx_t2, zIx_t3, Bool.not_true, Bool.not_false, G, ctr, cst, zIsi_int, zIsi_tup, zIsi_lst, zIsi_bl, isTy, Option.some.injEq, exists_eq_left', List.cons.injEq, D.int.injEq, and_true, true_and, exists_and_left, and_self, okd_int, eqD_int, zComp, zwipe, zIx_fr0, zIx_fr1, Bool.true_and, Bool.and_true, decide_eq_true_eq, and_assoc, zIx_pt0, zIx_pt1, zIx_lk0, zIx_lk1, FR_inj, PT_inj, lookD_inj, PA_inj, PAs_inj, okd_FR, eqD_FR, okd_PT, eqD_PT, zSl_tup, cutD_1, cutD_to1, D.tup.injEq, D.lst.injEq, D.ref.injEq, ne_eq, zSeq_asg, zSeq_iff, zSeq_ret, zSeq_retN, zSeq_expr, zSeq_next, zSeq_seq, zSeq_never, zSeq_whl, zSeq_for, zSeq_aug, zNext_nx, zEnds_nx, zEnds_rt]
    by_cases hb : b = 0
    · subst hb
      rw [Nat.gcd_zero_right] at w
      exact w
    · have hb' : (b : Int) ≠ 0 := by exact_mod_cast hb
      rw [if_pos (by rw [decide_eq_false hb']; rfl)]
      refine ⟨hb', ?_⟩
      have e : (a : Int).fmod b = ((a % b : Nat) : Int) := by rw [Int.fmod_eq_emod_of_nonneg _ (Int.natCast_nonneg b)]; exact (Int.natCast_emod a b).symm
      rw [e]
      have hlt := Nat.mod_lt a (Nat.pos_of_ne_zero hb)
      refine ih b (a % b) (by omega) ?_
      rw [Nat.gcd_comm b, ← Nat.gcd_rec, Nat.gcd_comm]
      exact w
theorem p_common : ∀ ds M q, c_common ds M q → rdCs G ir_common (zEnds q) (zstart N_common ds) M := by
  rintro ds M q ⟨a, b, rfl, w⟩
  simp only [ir_common, N_common, rdCs, rdC, rd, rds, rdc, rdo, rdg, rdgs, rdi, rdAV, rdAT, rdOV, rdOT, ofV, mkT, testV, zVar, slot, zCst, zBin, zUn, zChain, zAndV, zOrV, zAndT, zOrT, zNotV, zNotT, zIte, zIteT, zTup, zTupS, zANil, zACons, zAStar, zCall, zCallK, zONone, zOSome, zSlice, zBitsD, zGName, zGTup_tup, zGTup_lst, zGTup_FR, zGsNil, zGsCons,  zSetD, zGItem, zISeq, zIRng, zIZip, zIEnum, zYes, zAugD, zstart, zOp, zAdd, zSub, zMul, zFdiv, zMod, zPow, zShl, zCo, zEq, zNe, zIntC, zIs, zIsn, Zz.isNon, zBi, zLen, zAbs, zNegD, zTru, zBl, zRgL, zInt1, zMax2, zMin2, itemsOf, Zz.listOfD, Tgs.len, List.map_cons, List.map_nil, List.length_cons, List.length_nil, List.replicate_succ, List.replicate_zero, List.cons_append, List.nil_append, List.append_nil, List.set_cons_zero, List.set_cons_succ, Nat.sub_self, Nat.reduceSub, Nat.reduceAdd, reduceIte, Bool.false_eq_true, zIx_t0, zIx_t1, zIx_t2, zIx_t3, Bool.not_true, Bool.not_false, G, ctr, cst, zIsi_int, zIsi_tup, zIsi_lst, zIsi_bl, isTy, Option.some.injEq, exists_eq_left', List.cons.injEq, D.int.injEq, and_true, true_and, exists_and_left, and_self, okd_int, eqD_int, zComp, zwipe, zIx_fr0, zIx_fr1, Bool.true_and, Bool.and_true, decide_eq_true_eq, and_assoc, zIx_pt0, zIx_pt1, zIx_lk0, zIx_lk1, FR_inj, PT_inj, lookD_inj, PA_inj, PAs_inj, okd_FR, eqD_FR, okd_PT, eqD_PT, zSl_tup, cutD_1, cutD_to1, D.tup.injEq, D.lst.injEq, D.ref.injEq, ne_eq, zSeq_asg, zSeq_iff, zSeq_ret, zSeq_retN, zSeq_expr, zSeq_next, zSeq_seq, zSeq_never, zSeq_whl, zSeq_for, zSeq_aug, zNext_nx, zEnds_nx, zEnds_rt]
  exact ⟨_, gcd_wh b.natAbs a.natAbs b.natAbs (Nat.le_refl _) ⟨M, sub_refl, w⟩⟩
theorem fdiv_ex {g t : Int} (h : g ≠ 0) : (g * t).fdiv g = t := Int.mul_fdiv_cancel_left _ h
/-- both parts of a fraction, by the common divisor with the bottom's sign -/
theorem fr_parts (t b : Int) (hb : b ≠ 0) : (∀ g : Int, g = (if 0 < b then ((Int.gcd t b : Nat) : Int) else -((Int.gcd t b : Nat) : Int)) → D.tup [.int (t.fdiv g), .int (b.fdiv g)] = FR (Rat.divInt t b)) := by
  intro g hg
  have g0 : 0 < Int.gcd t b := Int.gcd_pos_of_ne_zero_right _ hb
  obtain ⟨t', ht⟩ := Int.gcd_dvd_left (a := t) (b := b)
  obtain ⟨b', hb'⟩ := Int.gcd_dvd_right (a := t) (b := b)
  have gi : ((Int.gcd t b : Nat) : Int) ≠ 0 := by exact_mod_cast (Nat.ne_of_gt g0)
  unfold FR
  rw [Rat.num_divInt, Rat.den_divInt, if_neg hb, Int.gcd_comm b t]
  generalize hk : Int.gcd t b = k at *
  have e1 : b.sign * t / (k : Int) = b.sign * t' := by
    rw [ht, ← Int.mul_assoc, Int.mul_comm b.sign, Int.mul_assoc, Int.mul_ediv_cancel_left _ gi]
  have e2 : ((b.natAbs / k : Nat) : Int) = b'.natAbs := by
    have : b.natAbs = k * b'.natAbs := by rw [hb', Int.natAbs_mul, Int.natAbs_natCast]
    rw [this, Nat.mul_div_cancel_left _ g0]
  rw [e1, e2]
  have kp : (0 : Int) < k := by exact_mod_cast g0
  by_cases h : 0 < b
  · rw [if_pos h] at hg
    have hp : 0 < b' := by
      refine Int.lt_of_mul_lt_mul_left (a := (k : Int)) ?_ (by omega)
      rw [Int.mul_zero, ← hb']; exact h
    rw [hg, Int.sign_eq_one_of_pos h, Int.one_mul, show t.fdiv (k : Int) = t' from by rw [ht]; exact fdiv_ex gi, show b.fdiv (k : Int) = b' from by rw [hb']; exact fdiv_ex gi]
    rw [show ((b'.natAbs : Nat) : Int) = b' by omega]
  · rw [if_neg h] at hg
    have hneg : b < 0 := by omega
    have hp : b' < 0 := by
      refine Int.lt_of_mul_lt_mul_left (a := (k : Int)) ?_ (by omega)
      rw [Int.mul_zero, ← hb']; exact hneg
    have ng : -(k : Int) ≠ 0 := by omega
    rw [hg, Int.sign_eq_neg_one_of_neg hneg, show t.fdiv (-(k : Int)) = -t' from by rw [ht, show (k : Int) * t' = -(k : Int) * -t' by rw [Int.neg_mul_neg]]; exact fdiv_ex ng,
      show b.fdiv (-(k : Int)) = -b' from by rw [hb', show (k : Int) * b' = -(k : Int) * -b' by rw [Int.neg_mul_neg]]; exact fdiv_ex ng]
    rw [show ((b'.natAbs : Nat) : Int) = -b' by omega, Int.neg_one_mul]
theorem p_fraction : ∀ ds M q, c_fraction ds M q → rdCs G ir_fraction (zEnds q) (zstart N_fraction ds) M := by
  rintro ds M q ⟨a, b, rfl, ⟨h0, h1, h2⟩, w⟩
  simp only [ir_fraction, N_fraction, c_common, rdCs, rdC, rd, rds, rdc, rdo, rdg, rdgs, rdi, rdAV, rdAT, rdOV, rdOT, ofV, mkT, testV, zVar, slot, zCst, zBin, zUn, zChain, zAndV, zOrV, zAndT, zOrT, zNotV, zNotT, zIte, zIteT, zTup, zTupS, zANil, zACons, zAStar, zCall, zCallK, zONone, zOSome, zSlice, zBitsD, zGName, zGTup_tup, zGTup_lst, zGTup_FR, zGsNil, zGsCons,  zSetD, zGItem, zISeq, zIRng, zIZip, zIEnum, zYes, zAugD, zstart, zOp, zAdd, zSub, zMul, zFdiv, zMod, zPow, zShl, zCo, zEq, zNe, zIntC, zIs, zIsn, Zz.isNon, zBi, zLen, zAbs, zNegD, zTru, zBl, zRgL, zInt1, zMax2, zMin2, itemsOf, Zz.listOfD, Tgs.len, List.map_cons, List.map_nil, List.length_cons, List.length_nil, List.replicate_succ, List.replicate_zero, List.cons_append, List.nil_append, List.append_nil, List.set_cons_zero, List.set_cons_succ, Nat.sub_self, Nat.reduceSub, Nat.reduceAdd, reduceIte, Bool.false_eq_true, zIx_t0, zIx_t1, zIx_t2, zIx_t3, Bool.not_true, Bool.not_false, G, ctr, cst, zIsi_int, zIsi_tup, zIsi_lst, zIsi_bl, isTy, Option.some.injEq, exists_eq_left', List.cons.injEq, D.int.injEq, and_true, true_and, exists_and_left, and_self, okd_int, eqD_int, zComp, zwipe, zIx_fr0, zIx_fr1, Bool.true_and, Bool.and_true, decide_eq_true_eq, and_assoc, zIx_pt0, zIx_pt1, zIx_lk0, zIx_lk1, FR_inj, PT_inj, lookD_inj, PA_inj, PAs_inj, okd_FR, eqD_FR, okd_PT, eqD_PT, zSl_tup, cutD_1, cutD_to1, D.tup.injEq, D.lst.injEq, D.ref.injEq, ne_eq, zSeq_asg, zSeq_iff, zSeq_ret, zSeq_retN, zSeq_expr, zSeq_next, zSeq_seq, zSeq_never, zSeq_whl, zSeq_for, zSeq_aug, zNext_nx, zEnds_nx, zEnds_rt]
  have gb : intBits ((Int.gcd a b : Nat) : Int) ≤ 9000 := bits_le (by rw [Int.natAbs_natCast]; exact Nat.le_of_dvd (Int.natAbs_pos.mpr h0) (Nat.gcd_dvd_right a.natAbs b.natAbs)) h2
  have g0 : ((Int.gcd a b : Nat) : Int) ≠ 0 := by exact_mod_cast Nat.ne_of_gt (Int.gcd_pos_of_ne_zero_right _ h0)
  have key := fr_parts a b h0
  by_cases h : 0 < b
  · rw [if_pos h] at key ⊢
    refine ⟨divOk_of g0 gb, divOk_of g0 gb, M, sub_refl, ?_⟩
    rw [key _ rfl]; exact w
  · rw [if_neg h] at key ⊢
    have gn : -((Int.gcd a b : Nat) : Int) ≠ 0 := by omega
    refine ⟨divOk_of gn (intBits_neg_le gb), divOk_of gn (intBits_neg_le gb), M, sub_refl, ?_⟩
    rw [key _ rfl]; exact w
theorem p_is_fraction : ∀ ds M q, c_is_fraction ds M q → rdCs G ir_is_fraction (zEnds q) (zstart N_is_fraction ds) M := by
  rintro ds M q ⟨r, rfl, w⟩
  simp only [ir_is_fraction, N_is_fraction, c_is_tuple, c_is_whole, c_common, rdCs, rdC, rd, rds, rdc, rdo, rdg, rdgs, rdi, rdAV, rdAT, rdOV, rdOT, ofV, mkT, testV, zVar, slot, zCst, zBin, zUn, zChain, zAndV, zOrV, zAndT, zOrT, zNotV, zNotT, zIte, zIteT, zTup, zTupS, zANil, zACons, zAStar, zCall, zCallK, zONone, zOSome, zSlice, zBitsD, zGName, zGTup_tup, zGTup_lst, zGTup_FR, zGsNil, zGsCons,  zSetD, zGItem, zISeq, zIRng, zIZip, zIEnum, zYes, zAugD, zstart, zOp, zAdd, zSub, zMul, zFdiv, zMod, zPow, zShl, zCo, zEq, zNe, zIntC, zIs, zIsn, Zz.isNon, zBi, zLen, zAbs, zNegD, zTru, zBl, zRgL, zInt1, zMax2, zMin2, itemsOf, Zz.listOfD, Tgs.len, List.map_cons, List.map_nil, List.length_cons, List.length_nil, List.replicate_succ, List.replicate_zero, List.cons_append, List.nil_append, List.append_nil, List.set_cons_zero, List.set_cons_succ, Nat.sub_self, Nat.reduceSub, Nat.reduceAdd, reduceIte, Bool.false_eq_true, zIx_t0, zIx_t1, zIx_t2, zIx_t3, Bool.not_true, Bool.not_false, G, ctr, cst, zIsi_int, zIsi_tup, zIsi_lst, zIsi_bl, isTy, Option.some.injEq, exists_eq_left', List.cons.injEq, D.int.injEq, and_true, true_and, exists_and_left, and_self, okd_int, eqD_int, zComp, zwipe, zIx_fr0, zIx_fr1, Bool.true_and, Bool.and_true, decide_eq_true_eq, and_assoc, zIx_pt0, zIx_pt1, zIx_lk0, zIx_lk1, FR_inj, PT_inj, lookD_inj, PA_inj, PAs_inj, okd_FR, eqD_FR, okd_PT, eqD_PT, zSl_tup, cutD_1, cutD_to1, D.tup.injEq, D.lst.injEq, D.ref.injEq, ne_eq, zSeq_asg, zSeq_iff, zSeq_ret, zSeq_retN, zSeq_expr, zSeq_next, zSeq_seq, zSeq_never, zSeq_whl, zSeq_for, zSeq_aug, zNext_nx, zEnds_nx, zEnds_rt]
  refine ⟨_, rfl, ?_⟩
  rw [if_neg (by simp)]
  intro a ha
  refine turns_map (fun _ => .bl true) ha (by show 2 ≤ sizeLine; decide) (fun x hx M' K h => ?_) ?_
  · have : ∃ i, x = .int i := by
      rcases List.mem_cons.mp hx with e | hx
      · exact ⟨_, e⟩
      · exact ⟨_, by simpa using hx⟩
    obtain ⟨i, rfl⟩ := this
    simp only [rdCs, rdC, rd, rds, rdc, rdo, rdg, rdgs, rdi, rdAV, rdAT, rdOV, rdOT, ofV, mkT, testV, zVar, slot, zCst, zBin, zUn, zChain, zAndV, zOrV, zAndT, zOrT, zNotV, zNotT, zIte, zIteT, zTup, zTupS, zANil, zACons, zAStar, zCall, zCallK, zONone, zOSome, zSlice, zBitsD, zGName, zGTup_tup, zGTup_lst, zGTup_FR, zGsNil, zGsCons,  zSetD, zGItem, zISeq, zIRng, zIZip, zIEnum, zYes, zAugD, zstart, zOp, zAdd, zSub, zMul, zFdiv, zMod, zPow, zShl, zCo, zEq, zNe, zIntC, zIs, zIsn, Zz.isNon, zBi, zLen, zAbs, zNegD, zTru, zBl, zRgL, zInt1, zMax2, zMin2, itemsOf, Zz.listOfD, Tgs.len, List.map_cons, List.map_nil, List.length_cons, List.length_nil, List.replicate_succ, List.replicate_zero, List.cons_append, List.nil_append, List.append_nil, List.set_cons_zero, List.set_cons_succ, Nat.sub_self, Nat.reduceSub, Nat.reduceAdd, reduceIte, Bool.false_eq_true, zIx_t0, zIx_t1, zIx_t2, zIx_t3, Bool.not_true, Bool.not_false, G, ctr, cst, zIsi_int, zIsi_tup, zIsi_lst, zIsi_bl, isTy, Option.some.injEq, exists_eq_left', List.cons.injEq, D.int.injEq, and_true, true_and, exists_and_left, and_self, okd_int, eqD_int, zComp, zwipe, zIx_fr0, zIx_fr1, Bool.true_and, Bool.and_true, decide_eq_true_eq, and_assoc, zIx_pt0, zIx_pt1, zIx_lk0, zIx_lk1, FR_inj, PT_inj, lookD_inj, PA_inj, PAs_inj, okd_FR, eqD_FR, okd_PT, eqD_PT, zSl_tup, cutD_1, cutD_to1, D.tup.injEq, D.lst.injEq, D.ref.injEq, ne_eq, zSeq_asg, zSeq_iff, zSeq_ret, zSeq_retN, zSeq_expr, zSeq_next, zSeq_seq, zSeq_never, zSeq_whl, zSeq_for, zSeq_aug, zNext_nx, zEnds_nx, zEnds_rt]
    exact ⟨i, rfl, h⟩
  · refine ⟨[true, true], rfl, ?_⟩
    simp only [rdCs, rdC, rd, rds, rdc, rdo, rdg, rdgs, rdi, rdAV, rdAT, rdOV, rdOT, ofV, mkT, testV, zVar, slot, zCst, zBin, zUn, zChain, zAndV, zOrV, zAndT, zOrT, zNotV, zNotT, zIte, zIteT, zTup, zTupS, zANil, zACons, zAStar, zCall, zCallK, zONone, zOSome, zSlice, zBitsD, zGName, zGTup_tup, zGTup_lst, zGTup_FR, zGsNil, zGsCons,  zSetD, zGItem, zISeq, zIRng, zIZip, zIEnum, zYes, zAugD, zstart, zOp, zAdd, zSub, zMul, zFdiv, zMod, zPow, zShl, zCo, zEq, zNe, zIntC, zIs, zIsn, Zz.isNon, zBi, zLen, zAbs, zNegD, zTru, zBl, zRgL, zInt1, zMax2, zMin2, itemsOf, Zz.listOfD, Tgs.len, List.map_cons, List.map_nil, List.length_cons, List.length_nil, List.replicate_succ, List.replicate_zero, List.cons_append, List.nil_append, List.append_nil, List.set_cons_zero, List.set_cons_succ, Nat.sub_self, Nat.reduceSub, Nat.reduceAdd, reduceIte, Bool.false_eq_true, zIx_t0, zIx_t1, zIx_t2, zIx_t3, Bool.not_true, Bool.not_false, G, ctr, cst, zIsi_int, zIsi_tup, zIsi_lst, zIsi_bl, isTy, Option.some.injEq, exists_eq_left', List.cons.injEq, D.int.injEq, and_true, true_and, exists_and_left, and_self, okd_int, eqD_int, zComp, zwipe, zIx_fr0, zIx_fr1, Bool.true_and, Bool.and_true, decide_eq_true_eq, and_assoc, zIx_pt0, zIx_pt1, zIx_lk0, zIx_lk1, FR_inj, PT_inj, lookD_inj, PA_inj, PAs_inj, okd_FR, eqD_FR, okd_PT, eqD_PT, zSl_tup, cutD_1, cutD_to1, D.tup.injEq, D.lst.injEq, D.ref.injEq, ne_eq, zSeq_asg, zSeq_iff, zSeq_ret, zSeq_retN, zSeq_expr, zSeq_next, zSeq_seq, zSeq_never, zSeq_whl, zSeq_for, zSeq_aug, zNext_nx, zEnds_nx, zEnds_rt]
    have h1 : (1 : Int) ≤ r.den := by have := r.den_pos; omega
    have h2 : ((Int.gcd r.num r.den : Nat) : Int) = 1 := by
      have := r.reduced
      exact_mod_cast this
    rw [if_neg (by decide), if_pos h1, h2]
    exact ⟨M, sub_refl, w⟩
end K46
end
section
/-! K46d: points, sides. -/
namespace K46
open PySem PySem.Spec PyProof.Rows L2 Zz
open PySem.Builtin.Int (intBits)

theorem sq_nonneg (x : Rat) : 0 ≤ x * x := by
  rcases Rat.nonneg_total x with h | h
  · exact Rat.mul_nonneg h h
  · have := Rat.mul_nonneg h h
    rwa [Rat.neg_mul, Rat.mul_neg, Rat.neg_neg] at this
theorem dot_ne {a b : P2} (h : a ≠ b) : dot (sub2 b a) (sub2 b a) ≠ 0 := by
  intro e
  unfold dot sub2 at e
  have hx := sq_nonneg (b.1 - a.1)
  have hy := sq_nonneg (b.2 - a.2)
  have ex : (b.1 - a.1) * (b.1 - a.1) = 0 := by
    generalize (b.1 - a.1) * (b.1 - a.1) = x at *
    generalize (b.2 - a.2) * (b.2 - a.2) = y at *
    grind
  have ey : (b.2 - a.2) * (b.2 - a.2) = 0 := by
    generalize (b.1 - a.1) * (b.1 - a.1) = x at *
    generalize (b.2 - a.2) * (b.2 - a.2) = y at *
    grind
  have ex' : b.1 - a.1 = 0 := (Rat.mul_eq_zero.mp ex).elim id id
  have ey' : b.2 - a.2 = 0 := (Rat.mul_eq_zero.mp ey).elim id id
  exact h (Prod.ext (by grind) (by grind))
theorem num_neg {r : Rat} : r.num < 0 ↔ r < 0 := by
  rw [← Rat.not_le, ← Rat.num_nonneg, Int.not_le]
theorem p_is_point : ∀ ds M q, c_is_point ds M q → rdCs G ir_is_point (zEnds q) (zstart N_is_point ds) M := by
  rintro ds M q ⟨p, rfl, w⟩
  simp only [ir_is_point, N_is_point, c_is_tuple, c_is_fraction, rdCs, rdC, rd, rds, rdc, rdo, rdg, rdgs, rdi, rdAV, rdAT, rdOV, rdOT, ofV, mkT, testV, zVar, slot, zCst, zBin, zUn, zChain, zAndV, zOrV, zAndT, zOrT, zNotV, zNotT, zIte, zIteT, zTup, zTupS, zANil, zACons, zAStar, zCall, zCallK, zONone, zOSome, zSlice, zBitsD, zGName, zGTup_tup, zGTup_lst, zGTup_FR, zGsNil, zGsCons,  zSetD, zGItem, zISeq, zIRng, zIZip, zIEnum, zYes, zAugD, zstart, zOp, zAdd, zSub, zMul, zFdiv, zMod, zPow, zShl, zCo, zEq, zNe, zIntC, zIs, zIsn, Zz.isNon, zBi, zLen, zAbs, zNegD, zTru, zBl, zRgL, zInt1, zMax2, zMin2, itemsOf, Zz.listOfD, Tgs.len, List.map_cons, List.map_nil, List.length_cons, List.length_nil, List.replicate_succ, List.replicate_zero, List.cons_append, List.nil_append, List.append_nil, List.set_cons_zero, List.set_cons_succ, Nat.sub_self, Nat.reduceSub, Nat.reduceAdd, reduceIte, Bool.false_eq_true, zIx_t0, zIx_t1, zIx_t2, zIx_t3, Bool.not_true, Bool.not_false, G, ctr, cst, zIsi_int, zIsi_tup, zIsi_lst, zIsi_bl, isTy, Option.some.injEq, exists_eq_left', List.cons.injEq, D.int.injEq, and_true, true_and, exists_and_left, and_self, okd_int, eqD_int, zComp, zwipe, zIx_fr0, zIx_fr1, Bool.true_and, Bool.and_true, decide_eq_true_eq, and_assoc, zIx_pt0, zIx_pt1, zIx_lk0, zIx_lk1, FR_inj, PT_inj, lookD_inj, PA_inj, PAs_inj, okd_FR, eqD_FR, okd_PT, eqD_PT, zSl_tup, cutD_1, cutD_to1, D.tup.injEq, D.lst.injEq, D.ref.injEq, ne_eq, zSeq_asg, zSeq_iff, zSeq_ret, zSeq_retN, zSeq_expr, zSeq_next, zSeq_seq, zSeq_never, zSeq_whl, zSeq_for, zSeq_aug, zNext_nx, zEnds_nx, zEnds_rt]
  refine ⟨_, rfl, ?_⟩
  rw [if_pos (by simp)]
  exact ⟨M, sub_refl, w⟩
theorem p_is_from_nought : ∀ ds M q, c_is_from_nought ds M q → rdCs G ir_is_from_nought (zEnds q) (zstart N_is_from_nought ds) M := by
  rintro ds M q ⟨r, rfl, h, w⟩
  simp only [ir_is_from_nought, N_is_from_nought, c_is_tuple, c_is_fraction, rdCs, rdC, rd, rds, rdc, rdo, rdg, rdgs, rdi, rdAV, rdAT, rdOV, rdOT, ofV, mkT, testV, zVar, slot, zCst, zBin, zUn, zChain, zAndV, zOrV, zAndT, zOrT, zNotV, zNotT, zIte, zIteT, zTup, zTupS, zANil, zACons, zAStar, zCall, zCallK, zONone, zOSome, zSlice, zBitsD, zGName, zGTup_tup, zGTup_lst, zGTup_FR, zGsNil, zGsCons,  zSetD, zGItem, zISeq, zIRng, zIZip, zIEnum, zYes, zAugD, zstart, zOp, zAdd, zSub, zMul, zFdiv, zMod, zPow, zShl, zCo, zEq, zNe, zIntC, zIs, zIsn, Zz.isNon, zBi, zLen, zAbs, zNegD, zTru, zBl, zRgL, zInt1, zMax2, zMin2, itemsOf, Zz.listOfD, Tgs.len, List.map_cons, List.map_nil, List.length_cons, List.length_nil, List.replicate_succ, List.replicate_zero, List.cons_append, List.nil_append, List.append_nil, List.set_cons_zero, List.set_cons_succ, Nat.sub_self, Nat.reduceSub, Nat.reduceAdd, reduceIte, Bool.false_eq_true, zIx_t0, zIx_t1, zIx_t2, zIx_t3, Bool.not_true, Bool.not_false, G, ctr, cst, zIsi_int, zIsi_tup, zIsi_lst, zIsi_bl, isTy, Option.some.injEq, exists_eq_left', List.cons.injEq, D.int.injEq, and_true, true_and, exists_and_left, and_self, okd_int, eqD_int, zComp, zwipe, zIx_fr0, zIx_fr1, Bool.true_and, Bool.and_true, decide_eq_true_eq, and_assoc, zIx_pt0, zIx_pt1, zIx_lk0, zIx_lk1, FR_inj, PT_inj, lookD_inj, PA_inj, PAs_inj, okd_FR, eqD_FR, okd_PT, eqD_PT, zSl_tup, cutD_1, cutD_to1, D.tup.injEq, D.lst.injEq, D.ref.injEq, ne_eq, zSeq_asg, zSeq_iff, zSeq_ret, zSeq_retN, zSeq_expr, zSeq_next, zSeq_seq, zSeq_never, zSeq_whl, zSeq_for, zSeq_aug, zNext_nx, zEnds_nx, zEnds_rt]
  refine ⟨M, sub_refl, ?_⟩
  rw [decide_eq_true (Rat.num_nonneg.mpr h)]
  exact w
theorem p_check_length : ∀ ds M q, c_check_length ds M q → rdCs G ir_check_length (zEnds q) (zstart N_check_length ds) M := by
  rintro ds M q ⟨r, rfl, h, w⟩
  simp only [ir_check_length, N_check_length, c_is_from_nought, rdCs, rdC, rd, rds, rdc, rdo, rdg, rdgs, rdi, rdAV, rdAT, rdOV, rdOT, ofV, mkT, testV, zVar, slot, zCst, zBin, zUn, zChain, zAndV, zOrV, zAndT, zOrT, zNotV, zNotT, zIte, zIteT, zTup, zTupS, zANil, zACons, zAStar, zCall, zCallK, zONone, zOSome, zSlice, zBitsD, zGName, zGTup_tup, zGTup_lst, zGTup_FR, zGsNil, zGsCons,  zSetD, zGItem, zISeq, zIRng, zIZip, zIEnum, zYes, zAugD, zstart, zOp, zAdd, zSub, zMul, zFdiv, zMod, zPow, zShl, zCo, zEq, zNe, zIntC, zIs, zIsn, Zz.isNon, zBi, zLen, zAbs, zNegD, zTru, zBl, zRgL, zInt1, zMax2, zMin2, itemsOf, Zz.listOfD, Tgs.len, List.map_cons, List.map_nil, List.length_cons, List.length_nil, List.replicate_succ, List.replicate_zero, List.cons_append, List.nil_append, List.append_nil, List.set_cons_zero, List.set_cons_succ, Nat.sub_self, Nat.reduceSub, Nat.reduceAdd, reduceIte, Bool.false_eq_true, zIx_t0, zIx_t1, zIx_t2, zIx_t3, Bool.not_true, Bool.not_false, G, ctr, cst, zIsi_int, zIsi_tup, zIsi_lst, zIsi_bl, isTy, Option.some.injEq, exists_eq_left', List.cons.injEq, D.int.injEq, and_true, true_and, exists_and_left, and_self, okd_int, eqD_int, zComp, zwipe, zIx_fr0, zIx_fr1, Bool.true_and, Bool.and_true, decide_eq_true_eq, and_assoc, zIx_pt0, zIx_pt1, zIx_lk0, zIx_lk1, FR_inj, PT_inj, lookD_inj, PA_inj, PAs_inj, okd_FR, eqD_FR, okd_PT, eqD_PT, zSl_tup, cutD_1, cutD_to1, D.tup.injEq, D.lst.injEq, D.ref.injEq, ne_eq, zSeq_asg, zSeq_iff, zSeq_ret, zSeq_retN, zSeq_expr, zSeq_next, zSeq_seq, zSeq_never, zSeq_whl, zSeq_for, zSeq_aug, zNext_nx, zEnds_nx, zEnds_rt]
  exact ⟨h, M, sub_refl, w⟩
theorem p_check_speed : ∀ ds M q, c_check_speed ds M q → rdCs G ir_check_speed (zEnds q) (zstart N_check_speed ds) M := by
  rintro ds M q ⟨r, rfl, h, w⟩
  simp only [ir_check_speed, N_check_speed, c_is_from_nought, rdCs, rdC, rd, rds, rdc, rdo, rdg, rdgs, rdi, rdAV, rdAT, rdOV, rdOT, ofV, mkT, testV, zVar, slot, zCst, zBin, zUn, zChain, zAndV, zOrV, zAndT, zOrT, zNotV, zNotT, zIte, zIteT, zTup, zTupS, zANil, zACons, zAStar, zCall, zCallK, zONone, zOSome, zSlice, zBitsD, zGName, zGTup_tup, zGTup_lst, zGTup_FR, zGsNil, zGsCons,  zSetD, zGItem, zISeq, zIRng, zIZip, zIEnum, zYes, zAugD, zstart, zOp, zAdd, zSub, zMul, zFdiv, zMod, zPow, zShl, zCo, zEq, zNe, zIntC, zIs, zIsn, Zz.isNon, zBi, zLen, zAbs, zNegD, zTru, zBl, zRgL, zInt1, zMax2, zMin2, itemsOf, Zz.listOfD, Tgs.len, List.map_cons, List.map_nil, List.length_cons, List.length_nil, List.replicate_succ, List.replicate_zero, List.cons_append, List.nil_append, List.append_nil, List.set_cons_zero, List.set_cons_succ, Nat.sub_self, Nat.reduceSub, Nat.reduceAdd, reduceIte, Bool.false_eq_true, zIx_t0, zIx_t1, zIx_t2, zIx_t3, Bool.not_true, Bool.not_false, G, ctr, cst, zIsi_int, zIsi_tup, zIsi_lst, zIsi_bl, isTy, Option.some.injEq, exists_eq_left', List.cons.injEq, D.int.injEq, and_true, true_and, exists_and_left, and_self, okd_int, eqD_int, zComp, zwipe, zIx_fr0, zIx_fr1, Bool.true_and, Bool.and_true, decide_eq_true_eq, and_assoc, zIx_pt0, zIx_pt1, zIx_lk0, zIx_lk1, FR_inj, PT_inj, lookD_inj, PA_inj, PAs_inj, okd_FR, eqD_FR, okd_PT, eqD_PT, zSl_tup, cutD_1, cutD_to1, D.tup.injEq, D.lst.injEq, D.ref.injEq, ne_eq, zSeq_asg, zSeq_iff, zSeq_ret, zSeq_retN, zSeq_expr, zSeq_next, zSeq_seq, zSeq_never, zSeq_whl, zSeq_for, zSeq_aug, zNext_nx, zEnds_nx, zEnds_rt]
  refine ⟨Rat.le_of_lt h, ?_⟩
  have : r.num ≠ 0 := fun e => Rat.ne_of_gt h (Rat.num_eq_zero.mp e)
  rw [if_neg this]
  exact ⟨M, sub_refl, w⟩
theorem p_point_less : ∀ ds M q, c_point_less ds M q → rdCs G ir_point_less (zEnds q) (zstart N_point_less ds) M := by
  rintro ds M q ⟨a, b, rfl, ⟨h1, h2⟩, w⟩
  simp only [ir_point_less, N_point_less, c2, rdCs, rdC, rd, rds, rdc, rdo, rdg, rdgs, rdi, rdAV, rdAT, rdOV, rdOT, ofV, mkT, testV, zVar, slot, zCst, zBin, zUn, zChain, zAndV, zOrV, zAndT, zOrT, zNotV, zNotT, zIte, zIteT, zTup, zTupS, zANil, zACons, zAStar, zCall, zCallK, zONone, zOSome, zSlice, zBitsD, zGName, zGTup_tup, zGTup_lst, zGTup_FR, zGsNil, zGsCons,  zSetD, zGItem, zISeq, zIRng, zIZip, zIEnum, zYes, zAugD, zstart, zOp, zAdd, zSub, zMul, zFdiv, zMod, zPow, zShl, zCo, zEq, zNe, zIntC, zIs, zIsn, Zz.isNon, zBi, zLen, zAbs, zNegD, zTru, zBl, zRgL, zInt1, zMax2, zMin2, itemsOf, Zz.listOfD, Tgs.len, List.map_cons, List.map_nil, List.length_cons, List.length_nil, List.replicate_succ, List.replicate_zero, List.cons_append, List.nil_append, List.append_nil, List.set_cons_zero, List.set_cons_succ, Nat.sub_self, Nat.reduceSub, Nat.reduceAdd, reduceIte, Bool.false_eq_true, zIx_t0, zIx_t1, zIx_t2, zIx_t3, Bool.not_true, Bool.not_false, G, ctr, cst, zIsi_int, zIsi_tup, zIsi_lst, zIsi_bl, isTy, Option.some.injEq, exists_eq_left', List.cons.injEq, D.int.injEq, and_true, true_and, exists_and_left, and_self, okd_int, eqD_int, zComp, zwipe, zIx_fr0, zIx_fr1, Bool.true_and, Bool.and_true, decide_eq_true_eq, and_assoc, zIx_pt0, zIx_pt1, zIx_lk0, zIx_lk1, FR_inj, PT_inj, lookD_inj, PA_inj, PAs_inj, okd_FR, eqD_FR, okd_PT, eqD_PT, zSl_tup, cutD_1, cutD_to1, D.tup.injEq, D.lst.injEq, D.ref.injEq, ne_eq, zSeq_asg, zSeq_iff, zSeq_ret, zSeq_retN, zSeq_expr, zSeq_next, zSeq_seq, zSeq_never, zSeq_whl, zSeq_for, zSeq_aug, zNext_nx, zEnds_nx, zEnds_rt]
  have m : (1000 : Nat) ≤ 4400 := by decide
  exact ⟨h1.x.mono m, h2.x.mono m, h1.y.mono m, h2.y.mono m, M, sub_refl, w⟩
theorem p_product : ∀ ds M q, c_product ds M q → rdCs G ir_product (zEnds q) (zstart N_product ds) M := by
  rintro ds M q ⟨a, b, rfl, ⟨h1, h2⟩, w⟩
  simp only [ir_product, N_product, c2, rdCs, rdC, rd, rds, rdc, rdo, rdg, rdgs, rdi, rdAV, rdAT, rdOV, rdOT, ofV, mkT, testV, zVar, slot, zCst, zBin, zUn, zChain, zAndV, zOrV, zAndT, zOrT, zNotV, zNotT, zIte, zIteT, zTup, zTupS, zANil, zACons, zAStar, zCall, zCallK, zONone, zOSome, zSlice, zBitsD, zGName, zGTup_tup, zGTup_lst, zGTup_FR, zGsNil, zGsCons,  zSetD, zGItem, zISeq, zIRng, zIZip, zIEnum, zYes, zAugD, zstart, zOp, zAdd, zSub, zMul, zFdiv, zMod, zPow, zShl, zCo, zEq, zNe, zIntC, zIs, zIsn, Zz.isNon, zBi, zLen, zAbs, zNegD, zTru, zBl, zRgL, zInt1, zMax2, zMin2, itemsOf, Zz.listOfD, Tgs.len, List.map_cons, List.map_nil, List.length_cons, List.length_nil, List.replicate_succ, List.replicate_zero, List.cons_append, List.nil_append, List.append_nil, List.set_cons_zero, List.set_cons_succ, Nat.sub_self, Nat.reduceSub, Nat.reduceAdd, reduceIte, Bool.false_eq_true, zIx_t0, zIx_t1, zIx_t2, zIx_t3, Bool.not_true, Bool.not_false, G, ctr, cst, zIsi_int, zIsi_tup, zIsi_lst, zIsi_bl, isTy, Option.some.injEq, exists_eq_left', List.cons.injEq, D.int.injEq, and_true, true_and, exists_and_left, and_self, okd_int, eqD_int, zComp, zwipe, zIx_fr0, zIx_fr1, Bool.true_and, Bool.and_true, decide_eq_true_eq, and_assoc, zIx_pt0, zIx_pt1, zIx_lk0, zIx_lk1, FR_inj, PT_inj, lookD_inj, PA_inj, PAs_inj, okd_FR, eqD_FR, okd_PT, eqD_PT, zSl_tup, cutD_1, cutD_to1, D.tup.injEq, D.lst.injEq, D.ref.injEq, ne_eq, zSeq_asg, zSeq_iff, zSeq_ret, zSeq_retN, zSeq_expr, zSeq_next, zSeq_seq, zSeq_never, zSeq_whl, zSeq_for, zSeq_aug, zNext_nx, zEnds_nx, zEnds_rt]
  have m : (1000 : Nat) ≤ 4400 := by decide
  exact ⟨h1.x.mono m, h2.x.mono m, h1.y.mono m, h2.y.mono m, (h1.x.mul h2.x).mono (by decide), (h1.y.mul h2.y).mono (by decide), M, sub_refl, w⟩
theorem p_is_look : ∀ ds M q, c_is_look ds M q → rdCs G ir_is_look (zEnds q) (zstart N_is_look ds) M := by
  rintro ds M q ⟨t, p, rfl, w⟩
  simp only [ir_is_look, N_is_look, c_is_tuple, c_is_fraction, c_is_point, rdCs, rdC, rd, rds, rdc, rdo, rdg, rdgs, rdi, rdAV, rdAT, rdOV, rdOT, ofV, mkT, testV, zVar, slot, zCst, zBin, zUn, zChain, zAndV, zOrV, zAndT, zOrT, zNotV, zNotT, zIte, zIteT, zTup, zTupS, zANil, zACons, zAStar, zCall, zCallK, zONone, zOSome, zSlice, zBitsD, zGName, zGTup_tup, zGTup_lst, zGTup_FR, zGsNil, zGsCons,  zSetD, zGItem, zISeq, zIRng, zIZip, zIEnum, zYes, zAugD, zstart, zOp, zAdd, zSub, zMul, zFdiv, zMod, zPow, zShl, zCo, zEq, zNe, zIntC, zIs, zIsn, Zz.isNon, zBi, zLen, zAbs, zNegD, zTru, zBl, zRgL, zInt1, zMax2, zMin2, itemsOf, Zz.listOfD, Tgs.len, List.map_cons, List.map_nil, List.length_cons, List.length_nil, List.replicate_succ, List.replicate_zero, List.cons_append, List.nil_append, List.append_nil, List.set_cons_zero, List.set_cons_succ, Nat.sub_self, Nat.reduceSub, Nat.reduceAdd, reduceIte, Bool.false_eq_true, zIx_t0, zIx_t1, zIx_t2, zIx_t3, Bool.not_true, Bool.not_false, G, ctr, cst, zIsi_int, zIsi_tup, zIsi_lst, zIsi_bl, isTy, Option.some.injEq, exists_eq_left', List.cons.injEq, D.int.injEq, and_true, true_and, exists_and_left, and_self, okd_int, eqD_int, zComp, zwipe, zIx_fr0, zIx_fr1, Bool.true_and, Bool.and_true, decide_eq_true_eq, and_assoc, zIx_pt0, zIx_pt1, zIx_lk0, zIx_lk1, FR_inj, PT_inj, lookD_inj, PA_inj, PAs_inj, okd_FR, eqD_FR, okd_PT, eqD_PT, zSl_tup, cutD_1, cutD_to1, D.tup.injEq, D.lst.injEq, D.ref.injEq, ne_eq, zSeq_asg, zSeq_iff, zSeq_ret, zSeq_retN, zSeq_expr, zSeq_next, zSeq_seq, zSeq_never, zSeq_whl, zSeq_for, zSeq_aug, zNext_nx, zEnds_nx, zEnds_rt]
  refine ⟨_, rfl, ?_⟩
  rw [if_pos (by simp)]
  exact ⟨M, sub_refl, w⟩
theorem p_check_look : ∀ ds M q, c_check_look ds M q → rdCs G ir_check_look (zEnds q) (zstart N_check_look ds) M := by
  rintro ds M q ⟨t, p, rfl, w⟩
  simp only [ir_check_look, N_check_look, c_is_look, rdCs, rdC, rd, rds, rdc, rdo, rdg, rdgs, rdi, rdAV, rdAT, rdOV, rdOT, ofV, mkT, testV, zVar, slot, zCst, zBin, zUn, zChain, zAndV, zOrV, zAndT, zOrT, zNotV, zNotT, zIte, zIteT, zTup, zTupS, zANil, zACons, zAStar, zCall, zCallK, zONone, zOSome, zSlice, zBitsD, zGName, zGTup_tup, zGTup_lst, zGTup_FR, zGsNil, zGsCons,  zSetD, zGItem, zISeq, zIRng, zIZip, zIEnum, zYes, zAugD, zstart, zOp, zAdd, zSub, zMul, zFdiv, zMod, zPow, zShl, zCo, zEq, zNe, zIntC, zIs, zIsn, Zz.isNon, zBi, zLen, zAbs, zNegD, zTru, zBl, zRgL, zInt1, zMax2, zMin2, itemsOf, Zz.listOfD, Tgs.len, List.map_cons, List.map_nil, List.length_cons, List.length_nil, List.replicate_succ, List.replicate_zero, List.cons_append, List.nil_append, List.append_nil, List.set_cons_zero, List.set_cons_succ, Nat.sub_self, Nat.reduceSub, Nat.reduceAdd, reduceIte, Bool.false_eq_true, zIx_t0, zIx_t1, zIx_t2, zIx_t3, Bool.not_true, Bool.not_false, G, ctr, cst, zIsi_int, zIsi_tup, zIsi_lst, zIsi_bl, isTy, Option.some.injEq, exists_eq_left', List.cons.injEq, D.int.injEq, and_true, true_and, exists_and_left, and_self, okd_int, eqD_int, zComp, zwipe, zIx_fr0, zIx_fr1, Bool.true_and, Bool.and_true, decide_eq_true_eq, and_assoc, zIx_pt0, zIx_pt1, zIx_lk0, zIx_lk1, FR_inj, PT_inj, lookD_inj, PA_inj, PAs_inj, okd_FR, eqD_FR, okd_PT, eqD_PT, zSl_tup, cutD_1, cutD_to1, D.tup.injEq, D.lst.injEq, D.ref.injEq, ne_eq, zSeq_asg, zSeq_iff, zSeq_ret, zSeq_retN, zSeq_expr, zSeq_next, zSeq_seq, zSeq_never, zSeq_whl, zSeq_for, zSeq_aug, zNext_nx, zEnds_nx, zEnds_rt]
  exact ⟨M, sub_refl, w⟩
theorem p_square_of : ∀ ds M q, c_square_of ds M q → rdCs G ir_square_of (zEnds q) (zstart N_square_of ds) M := by
  rintro ds M q ⟨a, b, rfl, ⟨h1, h2⟩, w⟩
  simp only [ir_square_of, N_square_of, c_point_less, c_product, rdCs, rdC, rd, rds, rdc, rdo, rdg, rdgs, rdi, rdAV, rdAT, rdOV, rdOT, ofV, mkT, testV, zVar, slot, zCst, zBin, zUn, zChain, zAndV, zOrV, zAndT, zOrT, zNotV, zNotT, zIte, zIteT, zTup, zTupS, zANil, zACons, zAStar, zCall, zCallK, zONone, zOSome, zSlice, zBitsD, zGName, zGTup_tup, zGTup_lst, zGTup_FR, zGsNil, zGsCons,  zSetD, zGItem, zISeq, zIRng, zIZip, zIEnum, zYes, zAugD, zstart, zOp, zAdd, zSub, zMul, zFdiv, zMod, zPow, zShl, zCo, zEq, zNe, zIntC, zIs, zIsn, Zz.isNon, zBi, zLen, zAbs, zNegD, zTru, zBl, zRgL, zInt1, zMax2, zMin2, itemsOf, Zz.listOfD, Tgs.len, List.map_cons, List.map_nil, List.length_cons, List.length_nil, List.replicate_succ, List.replicate_zero, List.cons_append, List.nil_append, List.append_nil, List.set_cons_zero, List.set_cons_succ, Nat.sub_self, Nat.reduceSub, Nat.reduceAdd, reduceIte, Bool.false_eq_true, zIx_t0, zIx_t1, zIx_t2, zIx_t3, Bool.not_true, Bool.not_false, G, ctr, cst, zIsi_int, zIsi_tup, zIsi_lst, zIsi_bl, isTy, Option.some.injEq, exists_eq_left', List.cons.injEq, D.int.injEq, and_true, true_and, exists_and_left, and_self, okd_int, eqD_int, zComp, zwipe, zIx_fr0, zIx_fr1, Bool.true_and, Bool.and_true, decide_eq_true_eq, and_assoc, zIx_pt0, zIx_pt1, zIx_lk0, zIx_lk1, FR_inj, PT_inj, lookD_inj, PA_inj, PAs_inj, okd_FR, eqD_FR, okd_PT, eqD_PT, zSl_tup, cutD_1, cutD_to1, D.tup.injEq, D.lst.injEq, D.ref.injEq, ne_eq, zSeq_asg, zSeq_iff, zSeq_ret, zSeq_retN, zSeq_expr, zSeq_next, zSeq_seq, zSeq_never, zSeq_whl, zSeq_for, zSeq_aug, zNext_nx, zEnds_nx, zEnds_rt]
  have hb : BP 1000 (sub2 a b) := ⟨(h1.x.sub h2.x).mono (by decide), (h1.y.sub h2.y).mono (by decide)⟩
  have m : (450 : Nat) ≤ 1000 := by decide
  exact ⟨⟨h1.x.mono m, h1.y.mono m⟩, ⟨h2.x.mono m, h2.y.mono m⟩, hb, hb, M, sub_refl, w⟩
theorem p_led : ∀ ds M q, c_led ds M q → rdCs G ir_led (zEnds q) (zstart N_led ds) M := by
  rintro ds M q ⟨a, b, t, rfl, ⟨h1, h2, h3⟩, w⟩
  simp only [ir_led, N_led, c2, rdCs, rdC, rd, rds, rdc, rdo, rdg, rdgs, rdi, rdAV, rdAT, rdOV, rdOT, ofV, mkT, testV, zVar, slot, zCst, zBin, zUn, zChain, zAndV, zOrV, zAndT, zOrT, zNotV, zNotT, zIte, zIteT, zTup, zTupS, zANil, zACons, zAStar, zCall, zCallK, zONone, zOSome, zSlice, zBitsD, zGName, zGTup_tup, zGTup_lst, zGTup_FR, zGsNil, zGsCons,  zSetD, zGItem, zISeq, zIRng, zIZip, zIEnum, zYes, zAugD, zstart, zOp, zAdd, zSub, zMul, zFdiv, zMod, zPow, zShl, zCo, zEq, zNe, zIntC, zIs, zIsn, Zz.isNon, zBi, zLen, zAbs, zNegD, zTru, zBl, zRgL, zInt1, zMax2, zMin2, itemsOf, Zz.listOfD, Tgs.len, List.map_cons, List.map_nil, List.length_cons, List.length_nil, List.replicate_succ, List.replicate_zero, List.cons_append, List.nil_append, List.append_nil, List.set_cons_zero, List.set_cons_succ, Nat.sub_self, Nat.reduceSub, Nat.reduceAdd, reduceIte, Bool.false_eq_true, zIx_t0, zIx_t1, zIx_t2, zIx_t3, Bool.not_true, Bool.not_false, G, ctr, cst, zIsi_int, zIsi_tup, zIsi_lst, zIsi_bl, isTy, Option.some.injEq, exists_eq_left', List.cons.injEq, D.int.injEq, and_true, true_and, exists_and_left, and_self, okd_int, eqD_int, zComp, zwipe, zIx_fr0, zIx_fr1, Bool.true_and, Bool.and_true, decide_eq_true_eq, and_assoc, zIx_pt0, zIx_pt1, zIx_lk0, zIx_lk1, FR_inj, PT_inj, lookD_inj, PA_inj, PAs_inj, okd_FR, eqD_FR, okd_PT, eqD_PT, zSl_tup, cutD_1, cutD_to1, D.tup.injEq, D.lst.injEq, D.ref.injEq, ne_eq, zSeq_asg, zSeq_iff, zSeq_ret, zSeq_retN, zSeq_expr, zSeq_next, zSeq_seq, zSeq_never, zSeq_whl, zSeq_for, zSeq_aug, zNext_nx, zEnds_nx, zEnds_rt]
  have m : (1000 : Nat) ≤ 4400 := by decide
  exact ⟨h3.mono m, h2.x.mono m, h1.x.mono m, (h3.mul h2.x).mono (by decide), h3.mono m, h2.y.mono m, h1.y.mono m, (h3.mul h2.y).mono (by decide), M, sub_refl, w⟩
theorem p_turn : ∀ ds M q, c_turn ds M q → rdCs G ir_turn (zEnds q) (zstart N_turn ds) M := by
  rintro ds M q ⟨a, b, c, rfl, ⟨h1, h2, h3⟩, w⟩
  simp only [ir_turn, N_turn, c2, rdCs, rdC, rd, rds, rdc, rdo, rdg, rdgs, rdi, rdAV, rdAT, rdOV, rdOT, ofV, mkT, testV, zVar, slot, zCst, zBin, zUn, zChain, zAndV, zOrV, zAndT, zOrT, zNotV, zNotT, zIte, zIteT, zTup, zTupS, zANil, zACons, zAStar, zCall, zCallK, zONone, zOSome, zSlice, zBitsD, zGName, zGTup_tup, zGTup_lst, zGTup_FR, zGsNil, zGsCons,  zSetD, zGItem, zISeq, zIRng, zIZip, zIEnum, zYes, zAugD, zstart, zOp, zAdd, zSub, zMul, zFdiv, zMod, zPow, zShl, zCo, zEq, zNe, zIntC, zIs, zIsn, Zz.isNon, zBi, zLen, zAbs, zNegD, zTru, zBl, zRgL, zInt1, zMax2, zMin2, itemsOf, Zz.listOfD, Tgs.len, List.map_cons, List.map_nil, List.length_cons, List.length_nil, List.replicate_succ, List.replicate_zero, List.cons_append, List.nil_append, List.append_nil, List.set_cons_zero, List.set_cons_succ, Nat.sub_self, Nat.reduceSub, Nat.reduceAdd, reduceIte, Bool.false_eq_true, zIx_t0, zIx_t1, zIx_t2, zIx_t3, Bool.not_true, Bool.not_false, G, ctr, cst, zIsi_int, zIsi_tup, zIsi_lst, zIsi_bl, isTy, Option.some.injEq, exists_eq_left', List.cons.injEq, D.int.injEq, and_true, true_and, exists_and_left, and_self, okd_int, eqD_int, zComp, zwipe, zIx_fr0, zIx_fr1, Bool.true_and, Bool.and_true, decide_eq_true_eq, and_assoc, zIx_pt0, zIx_pt1, zIx_lk0, zIx_lk1, FR_inj, PT_inj, lookD_inj, PA_inj, PAs_inj, okd_FR, eqD_FR, okd_PT, eqD_PT, zSl_tup, cutD_1, cutD_to1, D.tup.injEq, D.lst.injEq, D.ref.injEq, ne_eq, zSeq_asg, zSeq_iff, zSeq_ret, zSeq_retN, zSeq_expr, zSeq_next, zSeq_seq, zSeq_never, zSeq_whl, zSeq_for, zSeq_aug, zNext_nx, zEnds_nx, zEnds_rt]
  have m : (100 : Nat) ≤ 4400 := by decide
  exact ⟨h2.x.mono m, h1.x.mono m, h3.y.mono m, h1.y.mono m, (h2.x.sub h1.x).mono (by decide), (h3.y.sub h1.y).mono (by decide), h2.y.mono m, h1.y.mono m, h3.x.mono m, h1.x.mono m, (h2.y.sub h1.y).mono (by decide), (h3.x.sub h1.x).mono (by decide),
    ((h2.x.sub h1.x).mul (h3.y.sub h1.y)).mono (by decide), ((h2.y.sub h1.y).mul (h3.x.sub h1.x)).mono (by decide), M, sub_refl, w⟩
theorem p_is_ahead : ∀ ds M q, c_is_ahead ds M q → rdCs G ir_is_ahead (zEnds q) (zstart N_is_ahead ds) M := by
  rintro ds M q ⟨a, b, rfl, ⟨h1, h2⟩, w⟩
  simp only [ir_is_ahead, N_is_ahead, c_is_below, rdCs, rdC, rd, rds, rdc, rdo, rdg, rdgs, rdi, rdAV, rdAT, rdOV, rdOT, ofV, mkT, testV, zVar, slot, zCst, zBin, zUn, zChain, zAndV, zOrV, zAndT, zOrT, zNotV, zNotT, zIte, zIteT, zTup, zTupS, zANil, zACons, zAStar, zCall, zCallK, zONone, zOSome, zSlice, zBitsD, zGName, zGTup_tup, zGTup_lst, zGTup_FR, zGsNil, zGsCons,  zSetD, zGItem, zISeq, zIRng, zIZip, zIEnum, zYes, zAugD, zstart, zOp, zAdd, zSub, zMul, zFdiv, zMod, zPow, zShl, zCo, zEq, zNe, zIntC, zIs, zIsn, Zz.isNon, zBi, zLen, zAbs, zNegD, zTru, zBl, zRgL, zInt1, zMax2, zMin2, itemsOf, Zz.listOfD, Tgs.len, List.map_cons, List.map_nil, List.length_cons, List.length_nil, List.replicate_succ, List.replicate_zero, List.cons_append, List.nil_append, List.append_nil, List.set_cons_zero, List.set_cons_succ, Nat.sub_self, Nat.reduceSub, Nat.reduceAdd, reduceIte, Bool.false_eq_true, zIx_t0, zIx_t1, zIx_t2, zIx_t3, Bool.not_true, Bool.not_false, G, ctr, cst, zIsi_int, zIsi_tup, zIsi_lst, zIsi_bl, isTy, Option.some.injEq, exists_eq_left', List.cons.injEq, D.int.injEq, and_true, true_and, exists_and_left, and_self, okd_int, eqD_int, zComp, zwipe, zIx_fr0, zIx_fr1, Bool.true_and, Bool.and_true, decide_eq_true_eq, and_assoc, zIx_pt0, zIx_pt1, zIx_lk0, zIx_lk1, FR_inj, PT_inj, lookD_inj, PA_inj, PAs_inj, okd_FR, eqD_FR, okd_PT, eqD_PT, zSl_tup, cutD_1, cutD_to1, D.tup.injEq, D.lst.injEq, D.ref.injEq, ne_eq, zSeq_asg, zSeq_iff, zSeq_ret, zSeq_retN, zSeq_expr, zSeq_next, zSeq_seq, zSeq_never, zSeq_whl, zSeq_for, zSeq_aug, zNext_nx, zEnds_nx, zEnds_rt]
  have m : (100 : Nat) ≤ 4400 := by decide
  refine ⟨h1.x.mono m, h2.x.mono m, ?_⟩
  unfold ahead at w
  by_cases e1 : a.1 < b.1
  · rw [if_pos e1]
    rw [decide_eq_true e1, Bool.true_or] at w
    exact ⟨M, sub_refl, w⟩
  · rw [if_neg e1]
    rw [decide_eq_false e1, Bool.false_or] at w
    by_cases e2 : a.1 = b.1
    · rw [if_pos e2]
      rw [decide_eq_true e2, Bool.true_and] at w
      exact ⟨h1.y.mono m, h2.y.mono m, M, sub_refl, w⟩
    · rw [if_neg e2]
      rw [decide_eq_false e2, Bool.false_and] at w
      exact ⟨M, sub_refl, w⟩
theorem p_sides_of : ∀ ds M q, c_sides_of ds M q → rdCs G ir_sides_of (zEnds q) (zstart N_sides_of ds) M := by
  rintro ds M q ⟨ps, rfl, ⟨h1, h2⟩, w⟩
  simp only [ir_sides_of, N_sides_of, rdCs, rdC, rd, rds, rdc, rdo, rdg, rdgs, rdi, rdAV, rdAT, rdOV, rdOT, ofV, mkT, testV, zVar, slot, zCst, zBin, zUn, zChain, zAndV, zOrV, zAndT, zOrT, zNotV, zNotT, zIte, zIteT, zTup, zTupS, zANil, zACons, zAStar, zCall, zCallK, zONone, zOSome, zSlice, zBitsD, zGName, zGTup_tup, zGTup_lst, zGTup_FR, zGsNil, zGsCons,  zSetD, zGItem, zISeq, zIRng, zIZip, zIEnum, zYes, zAugD, zstart, zOp, zAdd, zSub, zMul, zFdiv, zMod, zPow, zShl, zCo, zEq, zNe, zIntC, zIs, zIsn, Zz.isNon, zBi, zLen, zAbs, zNegD, zTru, zBl, zRgL, zInt1, zMax2, zMin2, itemsOf, Zz.listOfD, Tgs.len, List.map_cons, List.map_nil, List.length_cons, List.length_nil, List.replicate_succ, List.replicate_zero, List.cons_append, List.nil_append, List.append_nil, List.set_cons_zero, List.set_cons_succ, Nat.sub_self, Nat.reduceSub, Nat.reduceAdd, reduceIte, Bool.false_eq_true, zIx_t0, zIx_t1, zIx_t2, zIx_t3, Bool.not_true, Bool.not_false, G, ctr, cst, zIsi_int, zIsi_tup, zIsi_lst, zIsi_bl, isTy, Option.some.injEq, exists_eq_left', List.cons.injEq, D.int.injEq, and_true, true_and, exists_and_left, and_self, okd_int, eqD_int, zComp, zwipe, zIx_fr0, zIx_fr1, Bool.true_and, Bool.and_true, decide_eq_true_eq, and_assoc, zIx_pt0, zIx_pt1, zIx_lk0, zIx_lk1, FR_inj, PT_inj, lookD_inj, PA_inj, PAs_inj, okd_FR, eqD_FR, okd_PT, eqD_PT, zSl_tup, cutD_1, cutD_to1, D.tup.injEq, D.lst.injEq, D.ref.injEq, ne_eq, zSeq_asg, zSeq_iff, zSeq_ret, zSeq_retN, zSeq_expr, zSeq_next, zSeq_seq, zSeq_never, zSeq_whl, zSeq_for, zSeq_aug, zNext_nx, zEnds_nx, zEnds_rt]
  show zSl (.tup (ps.map PT)) (some 1) none M _
  rw [zSl_tup, cutD_1]
  refine ⟨_, rfl, ?_⟩
  show zIx (.tup (ps.map PT)) (.int 0) M _
  cases ps with
  | nil => exact absurd rfl h1
  | cons p r =>
    rw [List.map_cons, zIx_t0]
    refine ⟨?_, ?_⟩
    · rw [List.length_append, List.drop_one, List.tail_cons, List.length_map, List.length_singleton]
      have : (1001 : Nat) ≤ sizeLine := by decide
      rw [List.length_cons] at h2
      omega
    · show ∃ M3, _ ∧ q (.lst (zipD (PT p :: r.map PT) ((PT p :: r.map PT).drop 1 ++ [PT p]))) M3
      refine ⟨M, sub_refl, ?_⟩
      have : (PT p :: r.map PT).drop 1 ++ [PT p] = (r ++ [p]).map PT := by simp
      rw [this, ← List.map_cons, zipD_map]
      exact w
theorem p_check_patches : ∀ ds M q, c_check_patches ds M q → rdCs G ir_check_patches (zEnds q) (zstart N_check_patches ds) M := by
  rintro ds M q ⟨l, rfl, h, w⟩
  simp only [ir_check_patches, N_check_patches, c_is_patch, c_is_tuple, rdCs, rdC, rd, rds, rdc, rdo, rdg, rdgs, rdi, rdAV, rdAT, rdOV, rdOT, ofV, mkT, testV, zVar, slot, zCst, zBin, zUn, zChain, zAndV, zOrV, zAndT, zOrT, zNotV, zNotT, zIte, zIteT, zTup, zTupS, zANil, zACons, zAStar, zCall, zCallK, zONone, zOSome, zSlice, zBitsD, zGName, zGTup_tup, zGTup_lst, zGTup_FR, zGsNil, zGsCons,  zSetD, zGItem, zISeq, zIRng, zIZip, zIEnum, zYes, zAugD, zstart, zOp, zAdd, zSub, zMul, zFdiv, zMod, zPow, zShl, zCo, zEq, zNe, zIntC, zIs, zIsn, Zz.isNon, zBi, zLen, zAbs, zNegD, zTru, zBl, zRgL, zInt1, zMax2, zMin2, itemsOf, Zz.listOfD, Tgs.len, List.map_cons, List.map_nil, List.length_cons, List.length_nil, List.replicate_succ, List.replicate_zero, List.cons_append, List.nil_append, List.append_nil, List.set_cons_zero, List.set_cons_succ, Nat.sub_self, Nat.reduceSub, Nat.reduceAdd, reduceIte, Bool.false_eq_true, zIx_t0, zIx_t1, zIx_t2, zIx_t3, Bool.not_true, Bool.not_false, G, ctr, cst, zIsi_int, zIsi_tup, zIsi_lst, zIsi_bl, isTy, Option.some.injEq, exists_eq_left', List.cons.injEq, D.int.injEq, and_true, true_and, exists_and_left, and_self, okd_int, eqD_int, zComp, zwipe, zIx_fr0, zIx_fr1, Bool.true_and, Bool.and_true, decide_eq_true_eq, and_assoc, zIx_pt0, zIx_pt1, zIx_lk0, zIx_lk1, FR_inj, PT_inj, lookD_inj, PA_inj, PAs_inj, okd_FR, eqD_FR, okd_PT, eqD_PT, zSl_tup, cutD_1, cutD_to1, D.tup.injEq, D.lst.injEq, D.ref.injEq, ne_eq, zSeq_asg, zSeq_iff, zSeq_ret, zSeq_retN, zSeq_expr, zSeq_next, zSeq_seq, zSeq_never, zSeq_whl, zSeq_for, zSeq_aug, zNext_nx, zEnds_nx, zEnds_rt]
  refine ⟨_, rfl, ?_⟩
  rw [if_neg (by
    have := h.l1; have := h.l6
    simp only [List.length_map, Bool.not_eq_true', Bool.and_eq_false_iff, decide_eq_false_iff_not, not_or, Decidable.not_not]
    exact ⟨by omega, by omega⟩)]
  intro a ha
  refine turns_map (fun _ => .bl true) ha ?_ (fun x hx M' K hK => ?_) ?_
  · have := h.l6
    rw [List.length_map]
    exact Nat.le_trans this (by decide)
  · obtain ⟨ps, hp, rfl⟩ := List.mem_map.mp hx
    simp only [c_is_patch, rdCs, rdC, rd, rds, rdc, rdo, rdg, rdgs, rdi, rdAV, rdAT, rdOV, rdOT, ofV, mkT, testV, zVar, slot, zCst, zBin, zUn, zChain, zAndV, zOrV, zAndT, zOrT, zNotV, zNotT, zIte, zIteT, zTup, zTupS, zANil, zACons, zAStar, zCall, zCallK, zONone, zOSome, zSlice, zBitsD, zGName, zGTup_tup, zGTup_lst, zGTup_FR, zGsNil, zGsCons,  zSetD, zGItem, zISeq, zIRng, zIZip, zIEnum, zYes, zAugD, zstart, zOp, zAdd, zSub, zMul, zFdiv, zMod, zPow, zShl, zCo, zEq, zNe, zIntC, zIs, zIsn, Zz.isNon, zBi, zLen, zAbs, zNegD, zTru, zBl, zRgL, zInt1, zMax2, zMin2, itemsOf, Zz.listOfD, Tgs.len, List.map_cons, List.map_nil, List.length_cons, List.length_nil, List.replicate_succ, List.replicate_zero, List.cons_append, List.nil_append, List.append_nil, List.set_cons_zero, List.set_cons_succ, Nat.sub_self, Nat.reduceSub, Nat.reduceAdd, reduceIte, Bool.false_eq_true, zIx_t0, zIx_t1, zIx_t2, zIx_t3, Bool.not_true, Bool.not_false, G, ctr, cst, zIsi_int, zIsi_tup, zIsi_lst, zIsi_bl, isTy, Option.some.injEq, exists_eq_left', List.cons.injEq, D.int.injEq, and_true, true_and, exists_and_left, and_self, okd_int, eqD_int, zComp, zwipe, zIx_fr0, zIx_fr1, Bool.true_and, Bool.and_true, decide_eq_true_eq, and_assoc, zIx_pt0, zIx_pt1, zIx_lk0, zIx_lk1, FR_inj, PT_inj, lookD_inj, PA_inj, PAs_inj, okd_FR, eqD_FR, okd_PT, eqD_PT, zSl_tup, cutD_1, cutD_to1, D.tup.injEq, D.lst.injEq, D.ref.injEq, ne_eq, zSeq_asg, zSeq_iff, zSeq_ret, zSeq_retN, zSeq_expr, zSeq_next, zSeq_seq, zSeq_never, zSeq_whl, zSeq_for, zSeq_aug, zNext_nx, zEnds_nx, zEnds_rt]
    exact ⟨h.good ps hp, hK⟩
  · refine ⟨l.map fun _ => true, ?_, ?_⟩
    · simp [Zz.listOfD, Function.comp_def]
    · have e : ((l.map fun _ => true).all id) = true := by simp
      rw [e]
      simp only [rdCs, rdC, rd, rds, rdc, rdo, rdg, rdgs, rdi, rdAV, rdAT, rdOV, rdOT, ofV, mkT, testV, zVar, slot, zCst, zBin, zUn, zChain, zAndV, zOrV, zAndT, zOrT, zNotV, zNotT, zIte, zIteT, zTup, zTupS, zANil, zACons, zAStar, zCall, zCallK, zONone, zOSome, zSlice, zBitsD, zGName, zGTup_tup, zGTup_lst, zGTup_FR, zGsNil, zGsCons,  zSetD, zGItem, zISeq, zIRng, zIZip, zIEnum, zYes, zAugD, zstart, zOp, zAdd, zSub, zMul, zFdiv, zMod, zPow, zShl, zCo, zEq, zNe, zIntC, zIs, zIsn, Zz.isNon, zBi, zLen, zAbs, zNegD, zTru, zBl, zRgL, zInt1, zMax2, zMin2, itemsOf, Zz.listOfD, Tgs.len, List.map_cons, List.map_nil, List.length_cons, List.length_nil, List.replicate_succ, List.replicate_zero, List.cons_append, List.nil_append, List.append_nil, List.set_cons_zero, List.set_cons_succ, Nat.sub_self, Nat.reduceSub, Nat.reduceAdd, reduceIte, Bool.false_eq_true, zIx_t0, zIx_t1, zIx_t2, zIx_t3, Bool.not_true, Bool.not_false, G, ctr, cst, zIsi_int, zIsi_tup, zIsi_lst, zIsi_bl, isTy, Option.some.injEq, exists_eq_left', List.cons.injEq, D.int.injEq, and_true, true_and, exists_and_left, and_self, okd_int, eqD_int, zComp, zwipe, zIx_fr0, zIx_fr1, Bool.true_and, Bool.and_true, decide_eq_true_eq, and_assoc, zIx_pt0, zIx_pt1, zIx_lk0, zIx_lk1, FR_inj, PT_inj, lookD_inj, PA_inj, PAs_inj, okd_FR, eqD_FR, okd_PT, eqD_PT, zSl_tup, cutD_1, cutD_to1, D.tup.injEq, D.lst.injEq, D.ref.injEq, ne_eq, zSeq_asg, zSeq_iff, zSeq_ret, zSeq_retN, zSeq_expr, zSeq_next, zSeq_seq, zSeq_never, zSeq_whl, zSeq_for, zSeq_aug, zNext_nx, zEnds_nx, zEnds_rt]
      exact ⟨M, sub_refl, w⟩
theorem p_check_asked : ∀ ds M q, c_check_asked ds M q → rdCs G ir_check_asked (zEnds q) (zstart N_check_asked ds) M := by
  rintro ds M q ⟨t, p, v, l, x, rfl, h, w⟩
  simp only [ir_check_asked, N_check_asked, c_check_look, c_check_speed, c_check_patches, c_check_length, rdCs, rdC, rd, rds, rdc, rdo, rdg, rdgs, rdi, rdAV, rdAT, rdOV, rdOT, ofV, mkT, testV, zVar, slot, zCst, zBin, zUn, zChain, zAndV, zOrV, zAndT, zOrT, zNotV, zNotT, zIte, zIteT, zTup, zTupS, zANil, zACons, zAStar, zCall, zCallK, zONone, zOSome, zSlice, zBitsD, zGName, zGTup_tup, zGTup_lst, zGTup_FR, zGsNil, zGsCons,  zSetD, zGItem, zISeq, zIRng, zIZip, zIEnum, zYes, zAugD, zstart, zOp, zAdd, zSub, zMul, zFdiv, zMod, zPow, zShl, zCo, zEq, zNe, zIntC, zIs, zIsn, Zz.isNon, zBi, zLen, zAbs, zNegD, zTru, zBl, zRgL, zInt1, zMax2, zMin2, itemsOf, Zz.listOfD, Tgs.len, List.map_cons, List.map_nil, List.length_cons, List.length_nil, List.replicate_succ, List.replicate_zero, List.cons_append, List.nil_append, List.append_nil, List.set_cons_zero, List.set_cons_succ, Nat.sub_self, Nat.reduceSub, Nat.reduceAdd, reduceIte, Bool.false_eq_true, zIx_t0, zIx_t1, zIx_t2, zIx_t3, Bool.not_true, Bool.not_false, G, ctr, cst, zIsi_int, zIsi_tup, zIsi_lst, zIsi_bl, isTy, Option.some.injEq, exists_eq_left', List.cons.injEq, D.int.injEq, and_true, true_and, exists_and_left, and_self, okd_int, eqD_int, zComp, zwipe, zIx_fr0, zIx_fr1, Bool.true_and, Bool.and_true, decide_eq_true_eq, and_assoc, zIx_pt0, zIx_pt1, zIx_lk0, zIx_lk1, FR_inj, PT_inj, lookD_inj, PA_inj, PAs_inj, okd_FR, eqD_FR, okd_PT, eqD_PT, zSl_tup, cutD_1, cutD_to1, D.tup.injEq, D.lst.injEq, D.ref.injEq, ne_eq, zSeq_asg, zSeq_iff, zSeq_ret, zSeq_retN, zSeq_expr, zSeq_next, zSeq_seq, zSeq_never, zSeq_whl, zSeq_for, zSeq_aug, zNext_nx, zEnds_nx, zEnds_rt]
  exact ⟨h.vp, h.gl, h.wp, M, sub_refl, w⟩
theorem p_near_on : ∀ ds M q, c_near_on ds M q → rdCs G ir_near_on (zEnds q) (zstart N_near_on ds) M := by
  rintro ds M q ⟨p, a, b, rfl, ⟨h1, h2, h3, h4⟩, w⟩
  simp only [ir_near_on, N_near_on, c_point_less, c_product, c_over, c_is_below, c_led, rdCs, rdC, rd, rds, rdc, rdo, rdg, rdgs, rdi, rdAV, rdAT, rdOV, rdOT, ofV, mkT, testV, zVar, slot, zCst, zBin, zUn, zChain, zAndV, zOrV, zAndT, zOrT, zNotV, zNotT, zIte, zIteT, zTup, zTupS, zANil, zACons, zAStar, zCall, zCallK, zONone, zOSome, zSlice, zBitsD, zGName, zGTup_tup, zGTup_lst, zGTup_FR, zGsNil, zGsCons,  zSetD, zGItem, zISeq, zIRng, zIZip, zIEnum, zYes, zAugD, zstart, zOp, zAdd, zSub, zMul, zFdiv, zMod, zPow, zShl, zCo, zEq, zNe, zIntC, zIs, zIsn, Zz.isNon, zBi, zLen, zAbs, zNegD, zTru, zBl, zRgL, zInt1, zMax2, zMin2, itemsOf, Zz.listOfD, Tgs.len, List.map_cons, List.map_nil, List.length_cons, List.length_nil, List.replicate_succ, List.replicate_zero, List.cons_append, List.nil_append, List.append_nil, List.set_cons_zero, List.set_cons_succ, Nat.sub_self, Nat.reduceSub, Nat.reduceAdd, reduceIte, Bool.false_eq_true, zIx_t0, zIx_t1, zIx_t2, zIx_t3, Bool.not_true, Bool.not_false, G, ctr, cst, zIsi_int, zIsi_tup, zIsi_lst, zIsi_bl, isTy, Option.some.injEq, exists_eq_left', List.cons.injEq, D.int.injEq, and_true, true_and, exists_and_left, and_self, okd_int, eqD_int, zComp, zwipe, zIx_fr0, zIx_fr1, Bool.true_and, Bool.and_true, decide_eq_true_eq, and_assoc, zIx_pt0, zIx_pt1, zIx_lk0, zIx_lk1, FR_inj, PT_inj, lookD_inj, PA_inj, PAs_inj, okd_FR, eqD_FR, okd_PT, eqD_PT, zSl_tup, cutD_1, cutD_to1, D.tup.injEq, D.lst.injEq, D.ref.injEq, ne_eq, zSeq_asg, zSeq_iff, zSeq_ret, zSeq_retN, zSeq_expr, zSeq_next, zSeq_seq, zSeq_never, zSeq_whl, zSeq_for, zSeq_aug, zNext_nx, zEnds_nx, zEnds_rt]
  have m12 : (12 : Nat) ≤ 1000 := by decide
  have m24 : (24 : Nat) ≤ 1000 := by decide
  have bw : BP 25 (sub2 b a) := ⟨h3.x.sub h2.x, h3.y.sub h2.y⟩
  have bp : BP 37 (sub2 p a) := ⟨h1.x.sub h2.x, h1.y.sub h2.y⟩
  have m25 : (25 : Nat) ≤ 1000 := by decide
  have ba : BP 1000 a := ⟨h2.x.mono m12, h2.y.mono m12⟩
  have bb : BP 1000 b := ⟨h3.x.mono m12, h3.y.mono m12⟩
  have bpp : BP 1000 p := ⟨h1.x.mono m24, h1.y.mono m24⟩
  have bw' : BP 1000 (sub2 b a) := ⟨bw.x.mono m25, bw.y.mono m25⟩
  have bp' : BP 1000 (sub2 p a) := ⟨bp.x.mono (by decide), bp.y.mono (by decide)⟩
  have d1 : B 125 (dot (sub2 p a) (sub2 b a)) := (bp.x.mul bw.x).add (bp.y.mul bw.y)
  have d2 : B 101 (dot (sub2 b a) (sub2 b a)) := (bw.x.mul bw.x).add (bw.y.mul bw.y)
  have d0 : dot (sub2 b a) (sub2 b a) ≠ 0 := dot_ne h4
  have d3 : B 226 (dot (sub2 p a) (sub2 b a) / dot (sub2 b a) (sub2 b a)) := d1.div d0 d2
  refine ⟨bb, ba, bpp, ba, bp', bw', bw', bw', d0, d1.mono (by decide), d2.mono (by decide), ?_⟩
  unfold near clamp part at w
  by_cases e1 : (dot (sub2 p a) (sub2 b a) / dot (sub2 b a) (sub2 b a)) < 0
  · rw [if_pos e1] at w
    rw [if_pos (num_neg.mpr e1)]
    exact ⟨0, rfl, ba, bw', ⟨by decide, by decide⟩, M, sub_refl, w⟩
  · rw [if_neg e1] at w
    rw [if_neg (fun z => e1 (num_neg.mp z))]
    refine ⟨1, rfl, ⟨by decide, by decide⟩, d3.mono (by decide), ?_⟩
    by_cases e2 : 1 < (dot (sub2 p a) (sub2 b a) / dot (sub2 b a) (sub2 b a))
    · rw [if_pos e2] at w ⊢
      exact ⟨1, rfl, ba, bw', ⟨by decide, by decide⟩, M, sub_refl, w⟩
    · rw [if_neg e2] at w ⊢
      exact ⟨ba, bw', d3.mono (by decide), M, sub_refl, w⟩
end K46
end
section
/-! K46e: rims, patches. -/
namespace K46
open PySem PySem.Spec PyProof.Rows L2 Zz
open PySem.Builtin.Int (intBits)

/-! ### the least of a list -/
theorem least_spec : ∀ (x : Rat) (r : List Rat), least (x :: r) ∈ x :: r ∧ ∀ y ∈ x :: r, least (x :: r) ≤ y
  | x, [] => ⟨by simp [least], fun y hy => by
    have : y = x := by simpa using hy
    rw [this]; exact Rat.le_refl⟩
  | x, y :: r => by
    obtain ⟨h1, h2⟩ := least_spec y r
    unfold least
    by_cases h : least (y :: r) < x
    · rw [if_pos h]
      refine ⟨List.mem_cons_of_mem _ h1, fun z hz => ?_⟩
      rcases List.mem_cons.mp hz with e | hz
      · rw [e]; exact Rat.le_of_lt h
      · exact h2 z hz
    · rw [if_neg h]
      have h : x ≤ least (y :: r) := Rat.not_lt.mp h
      refine ⟨List.mem_cons_self, fun z hz => ?_⟩
      rcases List.mem_cons.mp hz with e | hz
      · rw [e]; exact Rat.le_refl
      · exact Rat.le_trans h (h2 z hz)
theorem least_mem {xs : List Rat} (h : xs ≠ []) : least xs ∈ xs := by
  cases xs with
  | nil => exact absurd rfl h
  | cons x r => exact (least_spec x r).1
theorem least_le {xs : List Rat} {y : Rat} (h : y ∈ xs) : least xs ≤ y := by
  cases xs with
  | nil => cases h
  | cons x r => exact (least_spec x r).2 y h
theorem least_eq {xs : List Rat} {m : Rat} (h : m ∈ xs) (h2 : ∀ y ∈ xs, m ≤ y) : least xs = m :=
  Rat.le_antisymm (least_le h) (h2 _ (least_mem (fun e => by rw [e] at h; cases h)))
/-- the first least, one by one -/
def lstep (c : Option Rat) (x : Rat) : Option Rat := match c with
  | none => some x
  | some r => if x < r then some x else some r
theorem lfold_some : ∀ (xs : List Rat) (r : Rat), xs.foldl lstep (some r) = some (least (r :: xs))
  | [], r => by simp [least]
  | x :: xs, r => by
    rw [List.foldl_cons]
    have e : lstep (some r) x = some (if x < r then x else r) := by unfold lstep; by_cases h : x < r <;> simp [h]
    rw [e, lfold_some]
    congr 1
    symm
    obtain ⟨h1, h2⟩ := least_spec (if x < r then x else r) xs
    refine least_eq ?_ fun y hy => ?_
    · rcases List.mem_cons.mp h1 with e | h
      · rw [e]
        by_cases c : x < r
        · rw [if_pos c]; simp
        · rw [if_neg c]; simp
      · exact List.mem_cons_of_mem _ (List.mem_cons_of_mem _ h)
    · have h0 := h2 _ List.mem_cons_self
      rcases List.mem_cons.mp hy with e | hy
      · rw [e]
        refine Rat.le_trans h0 ?_
        by_cases c : x < r
        · rw [if_pos c]; exact Rat.le_of_lt c
        · rw [if_neg c]; exact Rat.le_refl
      · rcases List.mem_cons.mp hy with e | hy
        · rw [e]
          refine Rat.le_trans h0 ?_
          by_cases c : x < r
          · rw [if_pos c]; exact Rat.le_refl
          · rw [if_neg c]; exact Rat.not_lt.mp c
        · exact h2 y (List.mem_cons_of_mem _ hy)
theorem lfold {xs : List Rat} (h : xs ≠ []) : xs.foldl lstep none = some (least xs) := by
  cases xs with
  | nil => exact absurd rfl h
  | cons x r => exact lfold_some r x

/-! ### sides -/
theorem sides_ne_nil {ps : List P2} (h : ps ≠ []) : sides ps ≠ [] := by
  cases ps with
  | nil => exact absurd rfl h
  | cons p r =>
    unfold sides
    intro e
    have := congrArg List.length e
    rw [List.length_zip] at this
    simp at this
theorem sides_get {ps : List P2} {s : P2 × P2} (h : s ∈ sides ps) : ∃ i, i < ps.length ∧ ps[i]? = some s.1 ∧ ps[(i + 1) % ps.length]? = some s.2 := by
  obtain ⟨i, hi, e⟩ := List.mem_iff_getElem.mp (show s ∈ ps.zip (ps.drop 1 ++ ps.take 1) from h)
  have hl : (ps.drop 1 ++ ps.take 1).length = ps.length := by rw [List.length_append, List.length_drop, List.length_take]; omega
  have hi' : i < ps.length := by
    rw [List.length_zip, hl] at hi
    omega
  refine ⟨i, hi', ?_, ?_⟩
  · have : ((ps.zip (ps.drop 1 ++ ps.take 1))[i]'hi).1 = ps[i] := by rw [List.getElem_zip]
    rw [List.getElem?_eq_getElem hi', ← this, e]
  · have : ((ps.zip (ps.drop 1 ++ ps.take 1))[i]'hi).2 = (ps.drop 1 ++ ps.take 1)[i]'(by rw [hl]; exact hi') := by rw [List.getElem_zip]
    rw [e] at this
    rw [this]
    by_cases c : i + 1 < ps.length
    · rw [Nat.mod_eq_of_lt c, List.getElem_append_left (by rw [List.length_drop]; omega), List.getElem_drop, List.getElem?_eq_getElem c]
      congr 2
      omega
    · have e1 : i + 1 = ps.length := by omega
      rw [e1, Nat.mod_self, List.getElem_append_right (by rw [List.length_drop]; omega), List.getElem_take, List.getElem?_eq_getElem (by omega)]
      congr 2
      rw [List.length_drop]; omega
theorem sides_ok {ps : List P2} (g : Good ps) {s : P2 × P2} (h : s ∈ sides ps) : BP 12 s.1 ∧ BP 12 s.2 ∧ s.1 ≠ s.2 := by
  obtain ⟨i, hi, h1, h2⟩ := sides_get h
  have m10 : (10 : Nat) ≤ 12 := by decide
  refine ⟨⟨(g.b _ (List.mem_of_getElem? h1)).x.mono m10, (g.b _ (List.mem_of_getElem? h1)).y.mono m10⟩, ⟨(g.b _ (List.mem_of_getElem? h2)).x.mono m10, (g.b _ (List.mem_of_getElem? h2)).y.mono m10⟩, fun e => ?_⟩
  have hl := g.l3
  have hj : (i + 1) % ps.length < ps.length := Nat.mod_lt _ (by omega)
  rw [List.getElem?_eq_getElem hi] at h1
  rw [List.getElem?_eq_getElem hj] at h2
  have : ps[i] = ps[(i + 1) % ps.length] := by rw [Option.some.inj h1, Option.some.inj h2, e]
  have := (List.getElem_inj g.nd).mp this
  by_cases c : i + 1 < ps.length
  · rw [Nat.mod_eq_of_lt c] at this; omega
  · have e1 : i + 1 = ps.length := by omega
    rw [e1, Nat.mod_self] at this; omega
theorem B_clamp {k : Nat} {t : Rat} (h : B k t) (hk : 1 ≤ k) : B k (clamp t) := by
  unfold clamp
  split
  · exact (⟨by decide, by decide⟩ : B 1 0).mono hk
  · split
    · exact (⟨by decide, by decide⟩ : B 1 1).mono hk
    · exact h
theorem BP_near {p a b : P2} (h1 : BP 24 p) (h2 : BP 12 a) (h3 : BP 12 b) (h4 : a ≠ b) : BP 264 (near p a b) := by
  have bw : BP 25 (sub2 b a) := ⟨h3.x.sub h2.x, h3.y.sub h2.y⟩
  have bp : BP 37 (sub2 p a) := ⟨h1.x.sub h2.x, h1.y.sub h2.y⟩
  have d1 : B 125 (dot (sub2 p a) (sub2 b a)) := (bp.x.mul bw.x).add (bp.y.mul bw.y)
  have d2 : B 101 (dot (sub2 b a) (sub2 b a)) := (bw.x.mul bw.x).add (bw.y.mul bw.y)
  have d3 : B 226 (part p a b) := d1.div (dot_ne h4) d2
  have d4 := B_clamp d3 (by decide)
  exact ⟨h2.x.add (d4.mul bw.x), h2.y.add (d4.mul bw.y)⟩
theorem B_side {p a b : P2} (h1 : BP 24 p) (h2 : BP 12 a) (h3 : BP 12 b) (h4 : a ≠ b) : B 1157 (sideSq p a b) := by
  have n := BP_near h1 h2 h3 h4
  have s : BP 289 (sub2 p (near p a b)) := ⟨h1.x.sub n.x, h1.y.sub n.y⟩
  exact (s.x.mul s.x).add (s.y.mul s.y)
theorem B_rim {p : P2} {ps : List P2} (h1 : BP 24 p) (g : Good ps) : B 1157 (rimSq p ps) := by
  unfold rimSq
  have hne : (sides ps).map (fun s => sideSq p s.1 s.2) ≠ [] := by
    have hl := g.l3
    have := sides_ne_nil (ps := ps) (by intro e; rw [e] at hl; simp at hl)
    intro e
    exact this (List.map_eq_nil_iff.mp e)
  obtain ⟨s, hs, e⟩ := List.mem_map.mp (least_mem hne)
  rw [← e]
  obtain ⟨a1, a2, a3⟩ := sides_ok g hs
  exact B_side h1 a1 a2 a3
theorem p_rim_of : ∀ ds M q, c_rim_of ds M q → rdCs G ir_rim_of (zEnds q) (zstart N_rim_of ds) M := by
  rintro ds M q ⟨p, ps, rfl, ⟨h1, h2⟩, w⟩
  simp only [ir_rim_of, N_rim_of, c_sides_of, c_near_on, c_square_of, c_is_below, rdCs, rdC, rd, rds, rdc, rdo, rdg, rdgs, rdi, rdAV, rdAT, rdOV, rdOT, ofV, mkT, testV, zVar, slot, zCst, zBin, zUn, zChain, zAndV, zOrV, zAndT, zOrT, zNotV, zNotT, zIte, zIteT, zTup, zTupS, zANil, zACons, zAStar, zCall, zCallK, zONone, zOSome, zSlice, zBitsD, zGName, zGTup_tup, zGTup_lst, zGTup_FR, zGsNil, zGsCons,  zSetD, zGItem, zISeq, zIRng, zIZip, zIEnum, zYes, zAugD, zstart, zOp, zAdd, zSub, zMul, zFdiv, zMod, zPow, zShl, zCo, zEq, zNe, zIntC, zIs, zIsn, Zz.isNon, zBi, zLen, zAbs, zNegD, zTru, zBl, zRgL, zInt1, zMax2, zMin2, itemsOf, Zz.listOfD, Tgs.len, List.map_cons, List.map_nil, List.length_cons, List.length_nil, List.replicate_succ, List.replicate_zero, List.cons_append, List.nil_append, List.append_nil, List.set_cons_zero, List.set_cons_succ, Nat.sub_self, Nat.reduceSub, Nat.reduceAdd, reduceIte, Bool.false_eq_true, zIx_t0, zIx_t1, zIx_t2, zIx_t3, Bool.not_true, Bool.not_false, G, ctr, cst, zIsi_int, zIsi_tup, zIsi_lst, zIsi_bl, isTy, Option.some.injEq, exists_eq_left', List.cons.injEq, D.int.injEq, and_true, true_and, exists_and_left, and_self, okd_int, eqD_int, zComp, zwipe, zIx_fr0, zIx_fr1, Bool.true_and, Bool.and_true, decide_eq_true_eq, and_assoc, zIx_pt0, zIx_pt1, zIx_lk0, zIx_lk1, FR_inj, PT_inj, lookD_inj, PA_inj, PAs_inj, okd_FR, eqD_FR, okd_PT, eqD_PT, zSl_tup, cutD_1, cutD_to1, D.tup.injEq, D.lst.injEq, D.ref.injEq, ne_eq, zSeq_asg, zSeq_iff, zSeq_ret, zSeq_retN, zSeq_expr, zSeq_next, zSeq_seq, zSeq_never, zSeq_whl, zSeq_for, zSeq_aug, zNext_nx, zEnds_nx, zEnds_rt]
  have hne : ps ≠ [] := by intro e; have := h2.l3; rw [e] at this; simp at this
  refine ⟨hne, Nat.le_trans h2.l8 (by decide), ?_⟩
  refine zLoop_fold (fun s : P2 × P2 => .tup [PT s.1, PT s.2]) (fun (c : Option Rat) s => ∃ x3 x4 x5, match c with
      | none => s = [some (PT p), some (PA ps), some D.non, x3, x4, x5]
      | some r => ∃ sd nr, s = [some (PT p), some (PA ps), some (D.tup [FR r, sd, nr]), x3, x4, x5] ∧ B 1157 r) (fun c s => lstep c (sideSq p s.1 s.2)) M (sides ps) ?_ none _ ⟨none, none, none, rfl⟩ ?_
  · rintro ⟨a, b⟩ hs c s k ⟨x3, x4, x5, hc⟩ hk
    obtain ⟨a1, a2, a3⟩ := sides_ok h2 hs
    have bs := B_side h1 a1 a2 a3
    have bn := BP_near h1 a1 a2 a3
    have m1 : (24 : Nat) ≤ 450 := by decide
    have m2 : (264 : Nat) ≤ 450 := by decide
    cases c with
    | none =>
      have hc : s = [some (PT p), some (PA ps), some D.non, x3, x4, x5] := hc
      subst hc
      simp only [c_near_on, c_square_of, c_is_below, rdCs, rdC, rd, rds, rdc, rdo, rdg, rdgs, rdi, rdAV, rdAT, rdOV, rdOT, ofV, mkT, testV, zVar, slot, zCst, zBin, zUn, zChain, zAndV, zOrV, zAndT, zOrT, zNotV, zNotT, zIte, zIteT, zTup, zTupS, zANil, zACons, zAStar, zCall, zCallK, zONone, zOSome, zSlice, zBitsD, zGName, zGTup_tup, zGTup_lst, zGTup_FR, zGsNil, zGsCons,  zSetD, zGItem, zISeq, zIRng, zIZip, zIEnum, zYes, zAugD, zstart, zOp, zAdd, zSub, zMul, zFdiv, zMod, zPow, zShl, zCo, zEq, zNe, zIntC, zIs, zIsn, Zz.isNon, zBi, zLen, zAbs, zNegD, zTru, zBl, zRgL, zInt1, zMax2, zMin2, itemsOf, Zz.listOfD, Tgs.len, List.map_cons, List.map_nil, List.length_cons, List.length_nil, List.replicate_succ, List.replicate_zero, List.cons_append, List.nil_append, List.append_nil, List.set_cons_zero, List.set_cons_succ, Nat.sub_self, Nat.reduceSub, Nat.reduceAdd, reduceIte, Bool.false_eq_true, zIx_t0, zIx_t1, zIx_t2, zIx_t3, Bool.not_true, Bool.not_false, G, ctr, cst, zIsi_int, zIsi_tup, zIsi_lst, zIsi_bl, isTy, Option.some.injEq, exists_eq_left', List.cons.injEq, D.int.injEq, and_true, true_and, exists_and_left, and_self, okd_int, eqD_int, zComp, zwipe, zIx_fr0, zIx_fr1, Bool.true_and, Bool.and_true, decide_eq_true_eq, and_assoc, zIx_pt0, zIx_pt1, zIx_lk0, zIx_lk1, FR_inj, PT_inj, lookD_inj, PA_inj, PAs_inj, okd_FR, eqD_FR, okd_PT, eqD_PT, zSl_tup, cutD_1, cutD_to1, D.tup.injEq, D.lst.injEq, D.ref.injEq, ne_eq, zSeq_asg, zSeq_iff, zSeq_ret, zSeq_retN, zSeq_expr, zSeq_next, zSeq_seq, zSeq_never, zSeq_whl, zSeq_for, zSeq_aug, zNext_nx, zEnds_nx, zEnds_rt]
      exact ⟨h1, a1, a2, a3, ⟨h1.x.mono m1, h1.y.mono m1⟩, ⟨bn.x.mono m2, bn.y.mono m2⟩, hk _ ⟨_, _, _, _, _, rfl, bs⟩⟩
    | some r =>
      obtain ⟨sd, nr, rfl, br⟩ := hc
      simp only [c_near_on, c_square_of, c_is_below, rdCs, rdC, rd, rds, rdc, rdo, rdg, rdgs, rdi, rdAV, rdAT, rdOV, rdOT, ofV, mkT, testV, zVar, slot, zCst, zBin, zUn, zChain, zAndV, zOrV, zAndT, zOrT, zNotV, zNotT, zIte, zIteT, zTup, zTupS, zANil, zACons, zAStar, zCall, zCallK, zONone, zOSome, zSlice, zBitsD, zGName, zGTup_tup, zGTup_lst, zGTup_FR, zGsNil, zGsCons,  zSetD, zGItem, zISeq, zIRng, zIZip, zIEnum, zYes, zAugD, zstart, zOp, zAdd, zSub, zMul, zFdiv, zMod, zPow, zShl, zCo, zEq, zNe, zIntC, zIs, zIsn, Zz.isNon, zBi, zLen, zAbs, zNegD, zTru, zBl, zRgL, zInt1, zMax2, zMin2, itemsOf, Zz.listOfD, Tgs.len, List.map_cons, List.map_nil, List.length_cons, List.length_nil, List.replicate_succ, List.replicate_zero, List.cons_append, List.nil_append, List.append_nil, List.set_cons_zero, List.set_cons_succ, Nat.sub_self, Nat.reduceSub, Nat.reduceAdd, reduceIte, Bool.false_eq_true, zIx_t0, zIx_t1, zIx_t2, zIx_t3, Bool.not_true, Bool.not_false, G, ctr, cst, zIsi_int, zIsi_tup, zIsi_lst, zIsi_bl, isTy, Option.some.injEq, exists_eq_left', List.cons.injEq, D.int.injEq, and_true, true_and, exists_and_left, and_self, okd_int, eqD_int, zComp, zwipe, zIx_fr0, zIx_fr1, Bool.true_and, Bool.and_true, decide_eq_true_eq, and_assoc, zIx_pt0, zIx_pt1, zIx_lk0, zIx_lk1, FR_inj, PT_inj, lookD_inj, PA_inj, PAs_inj, okd_FR, eqD_FR, okd_PT, eqD_PT, zSl_tup, cutD_1, cutD_to1, D.tup.injEq, D.lst.injEq, D.ref.injEq, ne_eq, zSeq_asg, zSeq_iff, zSeq_ret, zSeq_retN, zSeq_expr, zSeq_next, zSeq_seq, zSeq_never, zSeq_whl, zSeq_for, zSeq_aug, zNext_nx, zEnds_nx, zEnds_rt]
      refine ⟨h1, a1, a2, a3, ⟨h1.x.mono m1, h1.y.mono m1⟩, ⟨bn.x.mono m2, bn.y.mono m2⟩, B.mono bs (by decide), br.mono (by decide), ?_⟩
      by_cases c : sideSq p a b < r
      · rw [if_pos (show sqd p (near p a b) < r from c)]
        have e : lstep (some r) (sideSq p (a, b).1 (a, b).2) = some (sideSq p a b) := if_pos c
        rw [e] at hk
        exact hk _ ⟨_, _, _, _, _, rfl, bs⟩
      · rw [if_neg (show ¬ sqd p (near p a b) < r from c)]
        have e : lstep (some r) (sideSq p (a, b).1 (a, b).2) = some r := if_neg c
        rw [e] at hk
        exact hk _ ⟨_, _, _, _, _, rfl, br⟩
  · intro s' h
    have e : (sides ps).foldl (fun c s => lstep c (sideSq p s.1 s.2)) none = some (rimSq p ps) := by
      have := lfold (xs := (sides ps).map fun s => sideSq p s.1 s.2) (by
        intro e
        exact sides_ne_nil hne (List.map_eq_nil_iff.mp e))
      rw [List.foldl_map] at this
      exact this
    rw [e] at h
    obtain ⟨x3, x4, x5, sd, nr, rfl, _⟩ := h
    exact ⟨M, sub_refl, w sd nr⟩
theorem squares_ne {p : P2} {l : List (List P2)} (g : GoodAll l) : squares p l ≠ [] := by
  intro e
  have l1 := g.l1
  rw [List.map_eq_nil_iff.mp e] at l1
  simp at l1
theorem B_least {p : P2} {l : List (List P2)} (h1 : BP 24 p) (g : GoodAll l) : B 1157 (least (squares p l)) := by
  obtain ⟨ps, hs, e⟩ := List.mem_map.mp (least_mem (squares_ne (p := p) g))
  have e : rimSq p ps = least (squares p l) := e
  rw [← e]
  exact B_rim h1 (g.good ps hs)
def istep (c : Option (Nat × Rat)) (x : Rat × Nat) : Option (Nat × Rat) := match c with
  | none => some (x.2, x.1)
  | some r => if x.1 < r.2 then some (x.2, x.1) else some r
theorem ifold_some : ∀ (xs : List Rat) (pre : List Rat) (i : Nat) (r : Rat), IsIdx pre i → pre[i]? = some r → ∃ j, (xs.zipIdx pre.length).foldl istep (some (i, r)) = some (j, least (pre ++ xs)) ∧ IsIdx (pre ++ xs) j
  | [], pre, i, r, h, hr => by
    refine ⟨i, ?_, by rw [List.append_nil]; exact h⟩
    have := h.1
    rw [hr] at this
    rw [List.append_nil, ← Option.some.inj this]
    rfl
  | x :: xs, pre, i, r, h, hr => by
    have hi : i < pre.length := (List.getElem?_eq_some_iff.mp hr).1
    have el : least pre = r := by
      have := h.1
      rw [hr] at this
      exact (Option.some.inj this).symm
    have hpne : pre ≠ [] := by intro e; rw [e] at hi; simp at hi
    rw [List.zipIdx_cons, List.foldl_cons]
    have e2 : pre ++ x :: xs = (pre ++ [x]) ++ xs := by simp
    have e3 : pre.length + 1 = (pre ++ [x]).length := by simp
    rw [e2, e3]
    by_cases c : x < r
    · have e : istep (some (i, r)) (x, pre.length) = some (pre.length, x) := if_pos c
      rw [e]
      have lx : least (pre ++ [x]) = x := by
        refine least_eq (by simp) fun y hy => ?_
        rcases List.mem_append.mp hy with hy | hy
        · exact Rat.le_trans (Rat.le_of_lt c) (by rw [← el]; exact least_le hy)
        · have : y = x := by simpa using hy
          rw [this]; exact Rat.le_refl
      refine ifold_some xs (pre ++ [x]) pre.length x ⟨by rw [lx, List.getElem?_append_right (Nat.le_refl _)]; simp, fun j hj => ?_⟩ (by rw [List.getElem?_append_right (Nat.le_refl _)]; simp)
      rw [lx, List.getElem?_append_left hj]
      intro e
      have := least_le (List.mem_of_getElem? e)
      rw [el] at this
      exact Rat.not_lt.mpr this c
    · have e : istep (some (i, r)) (x, pre.length) = some (i, r) := if_neg c
      rw [e]
      have lx : least (pre ++ [x]) = r := by
        refine least_eq (List.mem_append_left _ (List.mem_of_getElem? hr)) fun y hy => ?_
        rcases List.mem_append.mp hy with hy | hy
        · rw [← el]; exact least_le hy
        · have : y = x := by simpa using hy
          rw [this]; exact Rat.not_lt.mp c
      refine ifold_some xs (pre ++ [x]) i r ⟨by rw [lx, List.getElem?_append_left hi]; exact hr, fun j hj => ?_⟩ (by rw [List.getElem?_append_left hi]; exact hr)
      rw [lx, List.getElem?_append_left (by omega), ← el]
      exact h.2 j hj
theorem ifold {xs : List Rat} (h : xs ≠ []) : ∃ j, (xs.zipIdx 0).foldl istep none = some (j, least xs) ∧ IsIdx xs j := by
  cases xs with
  | nil => exact absurd rfl h
  | cons x r =>
    obtain ⟨j, h1, h2⟩ := ifold_some r [x] 0 x ⟨by simp [least], fun j hj => absurd hj (Nat.not_lt_zero _)⟩ rfl
    exact ⟨j, h1, h2⟩
theorem p_nearest_rim : ∀ ds M q, c_nearest_rim ds M q → rdCs G ir_nearest_rim (zEnds q) (zstart N_nearest_rim ds) M := by
  rintro ds M q ⟨p, l, rfl, ⟨h1, h2⟩, w⟩
  simp only [ir_nearest_rim, N_nearest_rim, c_rim_of, c_is_below, rdCs, rdC, rd, rds, rdc, rdo, rdg, rdgs, rdi, rdAV, rdAT, rdOV, rdOT, ofV, mkT, testV, zVar, slot, zCst, zBin, zUn, zChain, zAndV, zOrV, zAndT, zOrT, zNotV, zNotT, zIte, zIteT, zTup, zTupS, zANil, zACons, zAStar, zCall, zCallK, zONone, zOSome, zSlice, zBitsD, zGName, zGTup_tup, zGTup_lst, zGTup_FR, zGsNil, zGsCons,  zSetD, zGItem, zISeq, zIRng, zIZip, zIEnum, zYes, zAugD, zstart, zOp, zAdd, zSub, zMul, zFdiv, zMod, zPow, zShl, zCo, zEq, zNe, zIntC, zIs, zIsn, Zz.isNon, zBi, zLen, zAbs, zNegD, zTru, zBl, zRgL, zInt1, zMax2, zMin2, itemsOf, Zz.listOfD, Tgs.len, List.map_cons, List.map_nil, List.length_cons, List.length_nil, List.replicate_succ, List.replicate_zero, List.cons_append, List.nil_append, List.append_nil, List.set_cons_zero, List.set_cons_succ, Nat.sub_self, Nat.reduceSub, Nat.reduceAdd, reduceIte, Bool.false_eq_true, zIx_t0, zIx_t1, zIx_t2, zIx_t3, Bool.not_true, Bool.not_false, G, ctr, cst, zIsi_int, zIsi_tup, zIsi_lst, zIsi_bl, isTy, Option.some.injEq, exists_eq_left', List.cons.injEq, D.int.injEq, and_true, true_and, exists_and_left, and_self, okd_int, eqD_int, zComp, zwipe, zIx_fr0, zIx_fr1, Bool.true_and, Bool.and_true, decide_eq_true_eq, and_assoc, zIx_pt0, zIx_pt1, zIx_lk0, zIx_lk1, FR_inj, PT_inj, lookD_inj, PA_inj, PAs_inj, okd_FR, eqD_FR, okd_PT, eqD_PT, zSl_tup, cutD_1, cutD_to1, D.tup.injEq, D.lst.injEq, D.ref.injEq, ne_eq, zSeq_asg, zSeq_iff, zSeq_ret, zSeq_retN, zSeq_expr, zSeq_next, zSeq_seq, zSeq_never, zSeq_whl, zSeq_for, zSeq_aug, zNext_nx, zEnds_nx, zEnds_rt]
  show zLoop _ _ (enumD 0 (l.map PA)) _ _ M
  rw [enumD_map]
  refine zLoop_fold (fun x : List P2 × Nat => D.tup [.int (x.2 : Nat), PA x.1]) (fun (c : Option (Nat × Rat)) s => ∃ x3 x4 x5, match c with
      | none => s = [some (PT p), some (PAs l), some D.non, x3, x4, x5]
      | some r => ∃ sd nr, s = [some (PT p), some (PAs l), some (D.tup [.int (r.1 : Nat), FR r.2, sd, nr]), x3, x4, x5] ∧ B 1157 r.2) (fun c x => istep c (rimSq p x.1, x.2)) M (l.zipIdx 0) ?_ none _ ⟨none, none, none, rfl⟩ ?_
  · rintro ⟨ps, n⟩ hs c s k ⟨x3, x4, x5, hc⟩ hk
    have gp : Good ps := h2.good ps (List.fst_mem_of_mem_zipIdx hs)
    have bs := B_rim h1 gp
    cases c with
    | none =>
      have hc : s = [some (PT p), some (PAs l), some D.non, x3, x4, x5] := hc
      subst hc
      simp only [c_rim_of, c_is_below, rdCs, rdC, rd, rds, rdc, rdo, rdg, rdgs, rdi, rdAV, rdAT, rdOV, rdOT, ofV, mkT, testV, zVar, slot, zCst, zBin, zUn, zChain, zAndV, zOrV, zAndT, zOrT, zNotV, zNotT, zIte, zIteT, zTup, zTupS, zANil, zACons, zAStar, zCall, zCallK, zONone, zOSome, zSlice, zBitsD, zGName, zGTup_tup, zGTup_lst, zGTup_FR, zGsNil, zGsCons,  zSetD, zGItem, zISeq, zIRng, zIZip, zIEnum, zYes, zAugD, zstart, zOp, zAdd, zSub, zMul, zFdiv, zMod, zPow, zShl, zCo, zEq, zNe, zIntC, zIs, zIsn, Zz.isNon, zBi, zLen, zAbs, zNegD, zTru, zBl, zRgL, zInt1, zMax2, zMin2, itemsOf, Zz.listOfD, Tgs.len, List.map_cons, List.map_nil, List.length_cons, List.length_nil, List.replicate_succ, List.replicate_zero, List.cons_append, List.nil_append, List.append_nil, List.set_cons_zero, List.set_cons_succ, Nat.sub_self, Nat.reduceSub, Nat.reduceAdd, reduceIte, Bool.false_eq_true, zIx_t0, zIx_t1, zIx_t2, zIx_t3, Bool.not_true, Bool.not_false, G, ctr, cst, zIsi_int, zIsi_tup, zIsi_lst, zIsi_bl, isTy, Option.some.injEq, exists_eq_left', List.cons.injEq, D.int.injEq, and_true, true_and, exists_and_left, and_self, okd_int, eqD_int, zComp, zwipe, zIx_fr0, zIx_fr1, Bool.true_and, Bool.and_true, decide_eq_true_eq, and_assoc, zIx_pt0, zIx_pt1, zIx_lk0, zIx_lk1, FR_inj, PT_inj, lookD_inj, PA_inj, PAs_inj, okd_FR, eqD_FR, okd_PT, eqD_PT, zSl_tup, cutD_1, cutD_to1, D.tup.injEq, D.lst.injEq, D.ref.injEq, ne_eq, zSeq_asg, zSeq_iff, zSeq_ret, zSeq_retN, zSeq_expr, zSeq_next, zSeq_seq, zSeq_never, zSeq_whl, zSeq_for, zSeq_aug, zNext_nx, zEnds_nx, zEnds_rt]
      exact ⟨h1, gp, fun sd nr => ⟨by decide, hk _ ⟨_, _, _, _, _, rfl, bs⟩⟩⟩
    | some r =>
      obtain ⟨sd, nr, rfl, br⟩ := hc
      simp only [c_rim_of, c_is_below, rdCs, rdC, rd, rds, rdc, rdo, rdg, rdgs, rdi, rdAV, rdAT, rdOV, rdOT, ofV, mkT, testV, zVar, slot, zCst, zBin, zUn, zChain, zAndV, zOrV, zAndT, zOrT, zNotV, zNotT, zIte, zIteT, zTup, zTupS, zANil, zACons, zAStar, zCall, zCallK, zONone, zOSome, zSlice, zBitsD, zGName, zGTup_tup, zGTup_lst, zGTup_FR, zGsNil, zGsCons,  zSetD, zGItem, zISeq, zIRng, zIZip, zIEnum, zYes, zAugD, zstart, zOp, zAdd, zSub, zMul, zFdiv, zMod, zPow, zShl, zCo, zEq, zNe, zIntC, zIs, zIsn, Zz.isNon, zBi, zLen, zAbs, zNegD, zTru, zBl, zRgL, zInt1, zMax2, zMin2, itemsOf, Zz.listOfD, Tgs.len, List.map_cons, List.map_nil, List.length_cons, List.length_nil, List.replicate_succ, List.replicate_zero, List.cons_append, List.nil_append, List.append_nil, List.set_cons_zero, List.set_cons_succ, Nat.sub_self, Nat.reduceSub, Nat.reduceAdd, reduceIte, Bool.false_eq_true, zIx_t0, zIx_t1, zIx_t2, zIx_t3, Bool.not_true, Bool.not_false, G, ctr, cst, zIsi_int, zIsi_tup, zIsi_lst, zIsi_bl, isTy, Option.some.injEq, exists_eq_left', List.cons.injEq, D.int.injEq, and_true, true_and, exists_and_left, and_self, okd_int, eqD_int, zComp, zwipe, zIx_fr0, zIx_fr1, Bool.true_and, Bool.and_true, decide_eq_true_eq, and_assoc, zIx_pt0, zIx_pt1, zIx_lk0, zIx_lk1, FR_inj, PT_inj, lookD_inj, PA_inj, PAs_inj, okd_FR, eqD_FR, okd_PT, eqD_PT, zSl_tup, cutD_1, cutD_to1, D.tup.injEq, D.lst.injEq, D.ref.injEq, ne_eq, zSeq_asg, zSeq_iff, zSeq_ret, zSeq_retN, zSeq_expr, zSeq_next, zSeq_seq, zSeq_never, zSeq_whl, zSeq_for, zSeq_aug, zNext_nx, zEnds_nx, zEnds_rt]
      refine ⟨h1, gp, fun sd2 nr2 => ⟨bs.mono (by decide), br.mono (by decide), ?_⟩⟩
      by_cases c : rimSq p ps < r.2
      · rw [if_pos c]
        have e : istep (some r) (rimSq p (ps, n).1, (ps, n).2) = some (n, rimSq p ps) := if_pos c
        rw [e] at hk
        exact ⟨by decide, hk _ ⟨_, _, _, _, _, rfl, bs⟩⟩
      · rw [if_neg c]
        have e : istep (some r) (rimSq p (ps, n).1, (ps, n).2) = some r := if_neg c
        rw [e] at hk
        exact hk _ ⟨_, _, _, _, _, rfl, br⟩
  · intro s' h
    obtain ⟨j, e, hj⟩ := ifold (squares_ne (p := p) h2)
    have e : (l.zipIdx 0).foldl (fun c x => istep c (rimSq p x.1, x.2)) none = some (j, least (squares p l)) := by
      rw [← e]
      unfold squares
      rw [List.zipIdx_map, List.foldl_map]
      rfl
    rw [e] at h
    obtain ⟨x3, x4, x5, sd, nr, rfl, _⟩ := h
    exact ⟨M, sub_refl, w j sd nr hj⟩
theorem all_true {α : Type} {M : Mh} {q : KD} (l : List α) (w : q (.bl true) M) : zAll [.lst (l.map fun _ => D.bl true)] M q := by
  refine ⟨l.map fun _ => true, by simp [Zz.listOfD, Function.comp_def], ?_⟩
  have e : ((l.map fun _ => true).all id) = true := by simp
  rw [e]
  exact w
theorem num_pos {r : Rat} : 0 < r.num ↔ 0 < r := by
  have h1 : r.num ≤ 0 ↔ r ≤ 0 := by
    have := Rat.num_nonneg (q := -r)
    rw [Rat.neg_num] at this
    have e : 0 ≤ -r ↔ r ≤ 0 := by
      rw [← Rat.neg_le_neg_iff, Rat.neg_neg]; rfl
    rw [← e, ← this]; omega
  rw [← Rat.not_le, ← h1]; omega
theorem keyT_PT (p : P2) : keyT (PT p) = true := by
  unfold keyT PT FR
  simp [keyOk, keysOk, keyOf, keysOf, NestedKey.depth, NestedKey.depthAll]
theorem keyOf_PT {p q : P2} (h : keyOf (PT p) = keyOf (PT q)) : p = q := by
  unfold PT FR at h
  simp only [keyOf, keysOf, NestedKey.tup.injEq, List.cons.injEq, NestedKey.num.injEq, and_true] at h
  exact Prod.ext (Rat.ext h.1.1 (by exact_mod_cast h.1.2)) (Rat.ext h.2.1 (by exact_mod_cast h.2.2))
theorem keysOf_map {α : Type} (f : α → D) : ∀ xs : List α, keysOf (xs.map f) = xs.map fun x => keyOf (f x)
  | [] => rfl
  | x :: xs => by
    rw [List.map_cons, List.map_cons, ← keysOf_map f xs]
    rw [keysOf]
def prevP (ps : List P2) (n : Nat) : P2 := ps.getD ((n + ps.length - 1) % ps.length) (0, 0)
theorem zIx_prev {ps : List P2} {n : Nat} (h : n < ps.length) {M : Mh} {q : KD} : zIx (PA ps) (.int ((n : Int) - 1)) M q = q (PT (prevP ps n)) M := by
  have e : L2.atI (ps.map PT) ((n : Int) - 1) = some (PT (prevP ps n)) := by
    have hm : (n + ps.length - 1) % ps.length < ps.length := Nat.mod_lt _ (by omega)
    have hx : ixN (ps.map PT).length ((n : Int) - 1) = some ((n + ps.length - 1) % ps.length) := by
      unfold ixN
      rw [List.length_map]
      cases n with
      | zero =>
        rw [if_neg (by omega), if_pos (by omega)]
        congr 1
        rw [Nat.mod_eq_of_lt (by omega)]
        omega
      | succ m =>
        rw [if_pos (by omega), if_pos (by omega)]
        congr 1
        rw [show m + 1 + ps.length - 1 = m + ps.length by omega, Nat.add_mod_right, Nat.mod_eq_of_lt (by omega)]
        omega
    unfold L2.atI
    rw [hx]
    show (ps.map PT)[(n + ps.length - 1) % ps.length]? = _
    rw [List.getElem?_map, List.getElem?_eq_getElem hm]
    unfold prevP
    rw [List.getD_eq_getElem?_getD, List.getElem?_eq_getElem hm]
    rfl
  refine propext ⟨fun ⟨xs, e1, y, h1, w⟩ => ?_, fun w => ⟨_, rfl, _, e, w⟩⟩
  have e1 : ps.map PT = xs := Option.some.inj e1
  subst e1
  rw [e] at h1
  cases h1
  exact w
theorem p_is_patch : ∀ ds M q, c_is_patch ds M q → rdCs G ir_is_patch (zEnds q) (zstart N_is_patch ds) M := by
  rintro ds M q ⟨ps, rfl, h, w⟩
  simp only [ir_is_patch, N_is_patch, c_is_tuple, c_is_point, c_is_ahead, c_turn, rdCs, rdC, rd, rds, rdc, rdo, rdg, rdgs, rdi, rdAV, rdAT, rdOV, rdOT, ofV, mkT, testV, zVar, slot, zCst, zBin, zUn, zChain, zAndV, zOrV, zAndT, zOrT, zNotV, zNotT, zIte, zIteT, zTup, zTupS, zANil, zACons, zAStar, zCall, zCallK, zONone, zOSome, zSlice, zBitsD, zGName, zGTup_tup, zGTup_lst, zGTup_FR, zGsNil, zGsCons,  zSetD, zGItem, zISeq, zIRng, zIZip, zIEnum, zYes, zAugD, zstart, zOp, zAdd, zSub, zMul, zFdiv, zMod, zPow, zShl, zCo, zEq, zNe, zIntC, zIs, zIsn, Zz.isNon, zBi, zLen, zAbs, zNegD, zTru, zBl, zRgL, zInt1, zMax2, zMin2, itemsOf, Zz.listOfD, Tgs.len, List.map_cons, List.map_nil, List.length_cons, List.length_nil, List.replicate_succ, List.replicate_zero, List.cons_append, List.nil_append, List.append_nil, List.set_cons_zero, List.set_cons_succ, Nat.sub_self, Nat.reduceSub, Nat.reduceAdd, reduceIte, Bool.false_eq_true, zIx_t0, zIx_t1, zIx_t2, zIx_t3, Bool.not_true, Bool.not_false, G, ctr, cst, zIsi_int, zIsi_tup, zIsi_lst, zIsi_bl, isTy, Option.some.injEq, exists_eq_left', List.cons.injEq, D.int.injEq, and_true, true_and, exists_and_left, and_self, okd_int, eqD_int, zComp, zwipe, zIx_fr0, zIx_fr1, Bool.true_and, Bool.and_true, decide_eq_true_eq, and_assoc, zIx_pt0, zIx_pt1, zIx_lk0, zIx_lk1, FR_inj, PT_inj, lookD_inj, PA_inj, PAs_inj, okd_FR, eqD_FR, okd_PT, eqD_PT, zSl_tup, cutD_1, cutD_to1, D.tup.injEq, D.lst.injEq, D.ref.injEq, ne_eq, zSeq_asg, zSeq_iff, zSeq_ret, zSeq_retN, zSeq_expr, zSeq_next, zSeq_seq, zSeq_never, zSeq_whl, zSeq_for, zSeq_aug, zNext_nx, zEnds_nx, zEnds_rt]
  refine ⟨_, rfl, ?_⟩
  have l3 := h.l3
  have l8 := h.l8
  have lsz : (8 : Nat) ≤ sizeLine := by decide
  have b100 : ∀ p ∈ ps, BP 100 p := fun p hp => ⟨(h.b p hp).x.mono (by decide), (h.b p hp).y.mono (by decide)⟩
  rw [if_neg (by
    simp only [List.length_map, Bool.not_eq_true', Bool.and_eq_false_iff, decide_eq_false_iff_not, not_or, Decidable.not_not]
    exact ⟨by omega, by omega⟩)]
  intro a ha
  refine turns_map (fun _ => .bl true) ha (by rw [List.length_map]; omega) (fun x hx M' K hK => ?_) ?_
  · obtain ⟨p, hp, rfl⟩ := List.mem_map.mp hx
    simp only [c_is_point, rdCs, rdC, rd, rds, rdc, rdo, rdg, rdgs, rdi, rdAV, rdAT, rdOV, rdOT, ofV, mkT, testV, zVar, slot, zCst, zBin, zUn, zChain, zAndV, zOrV, zAndT, zOrT, zNotV, zNotT, zIte, zIteT, zTup, zTupS, zANil, zACons, zAStar, zCall, zCallK, zONone, zOSome, zSlice, zBitsD, zGName, zGTup_tup, zGTup_lst, zGTup_FR, zGsNil, zGsCons,  zSetD, zGItem, zISeq, zIRng, zIZip, zIEnum, zYes, zAugD, zstart, zOp, zAdd, zSub, zMul, zFdiv, zMod, zPow, zShl, zCo, zEq, zNe, zIntC, zIs, zIsn, Zz.isNon, zBi, zLen, zAbs, zNegD, zTru, zBl, zRgL, zInt1, zMax2, zMin2, itemsOf, Zz.listOfD, Tgs.len, List.map_cons, List.map_nil, List.length_cons, List.length_nil, List.replicate_succ, List.replicate_zero, List.cons_append, List.nil_append, List.append_nil, List.set_cons_zero, List.set_cons_succ, Nat.sub_self, Nat.reduceSub, Nat.reduceAdd, reduceIte, Bool.false_eq_true, zIx_t0, zIx_t1, zIx_t2, zIx_t3, Bool.not_true, Bool.not_false, G, ctr, cst, zIsi_int, zIsi_tup, zIsi_lst, zIsi_bl, isTy, Option.some.injEq, exists_eq_left', List.cons.injEq, D.int.injEq, and_true, true_and, exists_and_left, and_self, okd_int, eqD_int, zComp, zwipe, zIx_fr0, zIx_fr1, Bool.true_and, Bool.and_true, decide_eq_true_eq, and_assoc, zIx_pt0, zIx_pt1, zIx_lk0, zIx_lk1, FR_inj, PT_inj, lookD_inj, PA_inj, PAs_inj, okd_FR, eqD_FR, okd_PT, eqD_PT, zSl_tup, cutD_1, cutD_to1, D.tup.injEq, D.lst.injEq, D.ref.injEq, ne_eq, zSeq_asg, zSeq_iff, zSeq_ret, zSeq_retN, zSeq_expr, zSeq_next, zSeq_seq, zSeq_never, zSeq_whl, zSeq_for, zSeq_aug, zNext_nx, zEnds_nx, zEnds_rt]
    exact hK
  rw [List.map_map]
  refine all_true ps ?_
  simp only [rdCs, rdC, rd, rds, rdc, rdo, rdg, rdgs, rdi, rdAV, rdAT, rdOV, rdOT, ofV, mkT, testV, zVar, slot, zCst, zBin, zUn, zChain, zAndV, zOrV, zAndT, zOrT, zNotV, zNotT, zIte, zIteT, zTup, zTupS, zANil, zACons, zAStar, zCall, zCallK, zONone, zOSome, zSlice, zBitsD, zGName, zGTup_tup, zGTup_lst, zGTup_FR, zGsNil, zGsCons,  zSetD, zGItem, zISeq, zIRng, zIZip, zIEnum, zYes, zAugD, zstart, zOp, zAdd, zSub, zMul, zFdiv, zMod, zPow, zShl, zCo, zEq, zNe, zIntC, zIs, zIsn, Zz.isNon, zBi, zLen, zAbs, zNegD, zTru, zBl, zRgL, zInt1, zMax2, zMin2, itemsOf, Zz.listOfD, Tgs.len, List.map_cons, List.map_nil, List.length_cons, List.length_nil, List.replicate_succ, List.replicate_zero, List.cons_append, List.nil_append, List.append_nil, List.set_cons_zero, List.set_cons_succ, Nat.sub_self, Nat.reduceSub, Nat.reduceAdd, reduceIte, Bool.false_eq_true, zIx_t0, zIx_t1, zIx_t2, zIx_t3, Bool.not_true, Bool.not_false, G, ctr, cst, zIsi_int, zIsi_tup, zIsi_lst, zIsi_bl, isTy, Option.some.injEq, exists_eq_left', List.cons.injEq, D.int.injEq, and_true, true_and, exists_and_left, and_self, okd_int, eqD_int, zComp, zwipe, zIx_fr0, zIx_fr1, Bool.true_and, Bool.and_true, decide_eq_true_eq, and_assoc, zIx_pt0, zIx_pt1, zIx_lk0, zIx_lk1, FR_inj, PT_inj, lookD_inj, PA_inj, PAs_inj, okd_FR, eqD_FR, okd_PT, eqD_PT, zSl_tup, cutD_1, cutD_to1, D.tup.injEq, D.lst.injEq, D.ref.injEq, ne_eq, zSeq_asg, zSeq_iff, zSeq_ret, zSeq_retN, zSeq_expr, zSeq_next, zSeq_seq, zSeq_never, zSeq_whl, zSeq_for, zSeq_aug, zNext_nx, zEnds_nx, zEnds_rt]
  show zSl (.tup (ps.map PT)) (some 1) none M _
  rw [zSl_tup, cutD_1, ← List.map_drop]
  intro a2 ha2
  obtain ⟨p0, r, rfl⟩ : ∃ p0 r, ps = p0 :: r := by
    cases ps with
    | nil => simp at l3
    | cons p0 r => exact ⟨p0, r, rfl⟩
  refine turns_map (fun _ => .bl true) ha2 (by rw [List.length_map, List.length_drop]; omega) (fun x hx M' K hK => ?_) ?_
  · obtain ⟨p, hp, rfl⟩ := List.mem_map.mp hx
    simp only [c_is_ahead, rdCs, rdC, rd, rds, rdc, rdo, rdg, rdgs, rdi, rdAV, rdAT, rdOV, rdOT, ofV, mkT, testV, zVar, slot, zCst, zBin, zUn, zChain, zAndV, zOrV, zAndT, zOrT, zNotV, zNotT, zIte, zIteT, zTup, zTupS, zANil, zACons, zAStar, zCall, zCallK, zONone, zOSome, zSlice, zBitsD, zGName, zGTup_tup, zGTup_lst, zGTup_FR, zGsNil, zGsCons,  zSetD, zGItem, zISeq, zIRng, zIZip, zIEnum, zYes, zAugD, zstart, zOp, zAdd, zSub, zMul, zFdiv, zMod, zPow, zShl, zCo, zEq, zNe, zIntC, zIs, zIsn, Zz.isNon, zBi, zLen, zAbs, zNegD, zTru, zBl, zRgL, zInt1, zMax2, zMin2, itemsOf, Zz.listOfD, Tgs.len, List.map_cons, List.map_nil, List.length_cons, List.length_nil, List.replicate_succ, List.replicate_zero, List.cons_append, List.nil_append, List.append_nil, List.set_cons_zero, List.set_cons_succ, Nat.sub_self, Nat.reduceSub, Nat.reduceAdd, reduceIte, Bool.false_eq_true, zIx_t0, zIx_t1, zIx_t2, zIx_t3, Bool.not_true, Bool.not_false, G, ctr, cst, zIsi_int, zIsi_tup, zIsi_lst, zIsi_bl, isTy, Option.some.injEq, exists_eq_left', List.cons.injEq, D.int.injEq, and_true, true_and, exists_and_left, and_self, okd_int, eqD_int, zComp, zwipe, zIx_fr0, zIx_fr1, Bool.true_and, Bool.and_true, decide_eq_true_eq, and_assoc, zIx_pt0, zIx_pt1, zIx_lk0, zIx_lk1, FR_inj, PT_inj, lookD_inj, PA_inj, PAs_inj, okd_FR, eqD_FR, okd_PT, eqD_PT, zSl_tup, cutD_1, cutD_to1, D.tup.injEq, D.lst.injEq, D.ref.injEq, ne_eq, zSeq_asg, zSeq_iff, zSeq_ret, zSeq_retN, zSeq_expr, zSeq_next, zSeq_seq, zSeq_never, zSeq_whl, zSeq_for, zSeq_aug, zNext_nx, zEnds_nx, zEnds_rt]
    show zIx (.tup (PT p0 :: r.map PT)) (.int 0) M' _
    rw [zIx_t0]
    have hf : ahead p0 p = true := h.first p hp
    refine ⟨_, rfl, b100 p0 List.mem_cons_self, b100 p (List.mem_of_mem_drop hp), ?_⟩
    rw [hf]; exact hK
  rw [List.map_map]
  refine all_true _ ?_
  simp only [rdCs, rdC, rd, rds, rdc, rdo, rdg, rdgs, rdi, rdAV, rdAT, rdOV, rdOT, ofV, mkT, testV, zVar, slot, zCst, zBin, zUn, zChain, zAndV, zOrV, zAndT, zOrT, zNotV, zNotT, zIte, zIteT, zTup, zTupS, zANil, zACons, zAStar, zCall, zCallK, zONone, zOSome, zSlice, zBitsD, zGName, zGTup_tup, zGTup_lst, zGTup_FR, zGsNil, zGsCons,  zSetD, zGItem, zISeq, zIRng, zIZip, zIEnum, zYes, zAugD, zstart, zOp, zAdd, zSub, zMul, zFdiv, zMod, zPow, zShl, zCo, zEq, zNe, zIntC, zIs, zIsn, Zz.isNon, zBi, zLen, zAbs, zNegD, zTru, zBl, zRgL, zInt1, zMax2, zMin2, itemsOf, Zz.listOfD, Tgs.len, List.map_cons, List.map_nil, List.length_cons, List.length_nil, List.replicate_succ, List.replicate_zero, List.cons_append, List.nil_append, List.append_nil, List.set_cons_zero, List.set_cons_succ, Nat.sub_self, Nat.reduceSub, Nat.reduceAdd, reduceIte, Bool.false_eq_true, zIx_t0, zIx_t1, zIx_t2, zIx_t3, Bool.not_true, Bool.not_false, G, ctr, cst, zIsi_int, zIsi_tup, zIsi_lst, zIsi_bl, isTy, Option.some.injEq, exists_eq_left', List.cons.injEq, D.int.injEq, and_true, true_and, exists_and_left, and_self, okd_int, eqD_int, zComp, zwipe, zIx_fr0, zIx_fr1, Bool.true_and, Bool.and_true, decide_eq_true_eq, and_assoc, zIx_pt0, zIx_pt1, zIx_lk0, zIx_lk1, FR_inj, PT_inj, lookD_inj, PA_inj, PAs_inj, okd_FR, eqD_FR, okd_PT, eqD_PT, zSl_tup, cutD_1, cutD_to1, D.tup.injEq, D.lst.injEq, D.ref.injEq, ne_eq, zSeq_asg, zSeq_iff, zSeq_ret, zSeq_retN, zSeq_expr, zSeq_next, zSeq_seq, zSeq_never, zSeq_whl, zSeq_for, zSeq_aug, zNext_nx, zEnds_nx, zEnds_rt]
  generalize p0 :: r = ps at *
  show zLoop _ _ (enumD 0 (ps.map PT)) _ _ M
  rw [enumD_map]
  refine zLoop_fold (fun x : P2 × Nat => D.tup [.int (x.2 : Nat), PT x.1]) (fun (_ : Unit) s => ∃ x1 x2 x3, s = [some (PA ps), x1, x2, x3, none]) (fun _ _ => ()) M (ps.zipIdx 0) ?_ () _ ⟨none, none, none, rfl⟩ ?_
  · rintro ⟨p, n⟩ hs _ s k ⟨x1, x2, x3, rfl⟩ hk
    have hn : n < ps.length ∧ ps[n]? = some p := by
      have e := List.mem_zipIdx_iff_getElem?.mp hs
      exact ⟨(List.getElem?_eq_some_iff.mp e).1, e⟩
    simp only [c_turn, rdCs, rdC, rd, rds, rdc, rdo, rdg, rdgs, rdi, rdAV, rdAT, rdOV, rdOT, ofV, mkT, testV, zVar, slot, zCst, zBin, zUn, zChain, zAndV, zOrV, zAndT, zOrT, zNotV, zNotT, zIte, zIteT, zTup, zTupS, zANil, zACons, zAStar, zCall, zCallK, zONone, zOSome, zSlice, zBitsD, zGName, zGTup_tup, zGTup_lst, zGTup_FR, zGsNil, zGsCons,  zSetD, zGItem, zISeq, zIRng, zIZip, zIEnum, zYes, zAugD, zstart, zOp, zAdd, zSub, zMul, zFdiv, zMod, zPow, zShl, zCo, zEq, zNe, zIntC, zIs, zIsn, Zz.isNon, zBi, zLen, zAbs, zNegD, zTru, zBl, zRgL, zInt1, zMax2, zMin2, itemsOf, Zz.listOfD, Tgs.len, List.map_cons, List.map_nil, List.length_cons, List.length_nil, List.replicate_succ, List.replicate_zero, List.cons_append, List.nil_append, List.append_nil, List.set_cons_zero, List.set_cons_succ, Nat.sub_self, Nat.reduceSub, Nat.reduceAdd, reduceIte, Bool.false_eq_true, zIx_t0, zIx_t1, zIx_t2, zIx_t3, Bool.not_true, Bool.not_false, G, ctr, cst, zIsi_int, zIsi_tup, zIsi_lst, zIsi_bl, isTy, Option.some.injEq, exists_eq_left', List.cons.injEq, D.int.injEq, and_true, true_and, exists_and_left, and_self, okd_int, eqD_int, zComp, zwipe, zIx_fr0, zIx_fr1, Bool.true_and, Bool.and_true, decide_eq_true_eq, and_assoc, zIx_pt0, zIx_pt1, zIx_lk0, zIx_lk1, FR_inj, PT_inj, lookD_inj, PA_inj, PAs_inj, okd_FR, eqD_FR, okd_PT, eqD_PT, zSl_tup, cutD_1, cutD_to1, D.tup.injEq, D.lst.injEq, D.ref.injEq, ne_eq, zSeq_asg, zSeq_iff, zSeq_ret, zSeq_retN, zSeq_expr, zSeq_next, zSeq_seq, zSeq_never, zSeq_whl, zSeq_for, zSeq_aug, zNext_nx, zEnds_nx, zEnds_rt]
    intro a3 ha3
    refine turns_if (fun x => if memD x [PT (prevP ps n), PT p] = true then none else some x) ha3 (by rw [List.length_map]; omega) (fun x hx M' K hK => ?_) ?_
    · obtain ⟨o, ho, rfl⟩ := List.mem_map.mp hx
      simp only [rdCs, rdC, rd, rds, rdc, rdo, rdg, rdgs, rdi, rdAV, rdAT, rdOV, rdOT, ofV, mkT, testV, zVar, slot, zCst, zBin, zUn, zChain, zAndV, zOrV, zAndT, zOrT, zNotV, zNotT, zIte, zIteT, zTup, zTupS, zANil, zACons, zAStar, zCall, zCallK, zONone, zOSome, zSlice, zBitsD, zGName, zGTup_tup, zGTup_lst, zGTup_FR, zGsNil, zGsCons,  zSetD, zGItem, zISeq, zIRng, zIZip, zIEnum, zYes, zAugD, zstart, zOp, zAdd, zSub, zMul, zFdiv, zMod, zPow, zShl, zCo, zEq, zNe, zIntC, zIs, zIsn, Zz.isNon, zBi, zLen, zAbs, zNegD, zTru, zBl, zRgL, zInt1, zMax2, zMin2, itemsOf, Zz.listOfD, Tgs.len, List.map_cons, List.map_nil, List.length_cons, List.length_nil, List.replicate_succ, List.replicate_zero, List.cons_append, List.nil_append, List.append_nil, List.set_cons_zero, List.set_cons_succ, Nat.sub_self, Nat.reduceSub, Nat.reduceAdd, reduceIte, Bool.false_eq_true, zIx_t0, zIx_t1, zIx_t2, zIx_t3, Bool.not_true, Bool.not_false, G, ctr, cst, zIsi_int, zIsi_tup, zIsi_lst, zIsi_bl, isTy, Option.some.injEq, exists_eq_left', List.cons.injEq, D.int.injEq, and_true, true_and, exists_and_left, and_self, okd_int, eqD_int, zComp, zwipe, zIx_fr0, zIx_fr1, Bool.true_and, Bool.and_true, decide_eq_true_eq, and_assoc, zIx_pt0, zIx_pt1, zIx_lk0, zIx_lk1, FR_inj, PT_inj, lookD_inj, PA_inj, PAs_inj, okd_FR, eqD_FR, okd_PT, eqD_PT, zSl_tup, cutD_1, cutD_to1, D.tup.injEq, D.lst.injEq, D.ref.injEq, ne_eq, zSeq_asg, zSeq_iff, zSeq_ret, zSeq_retN, zSeq_expr, zSeq_next, zSeq_seq, zSeq_never, zSeq_whl, zSeq_for, zSeq_aug, zNext_nx, zEnds_nx, zEnds_rt]
      rw [zIx_prev hn.1]
      show zNmem (PT o) (.tup [PT (prevP ps n), PT p]) M' _
      refine ⟨⟨by rw [okd_PT]; trivial, ?_⟩, ?_⟩
      · unfold okd okds okds okds
        rw [Bool.and_true, Bool.and_eq_true, okd_PT, okd_PT]; exact ⟨trivial, trivial⟩
      · cases c : memD (PT o) [PT (prevP ps n), PT p] with
        | true => rw [c] at hK; exact hK
        | false => rw [c] at hK; exact hK
    · simp only [rdCs, rdC, rd, rds, rdc, rdo, rdg, rdgs, rdi, rdAV, rdAT, rdOV, rdOT, ofV, mkT, testV, zVar, slot, zCst, zBin, zUn, zChain, zAndV, zOrV, zAndT, zOrT, zNotV, zNotT, zIte, zIteT, zTup, zTupS, zANil, zACons, zAStar, zCall, zCallK, zONone, zOSome, zSlice, zBitsD, zGName, zGTup_tup, zGTup_lst, zGTup_FR, zGsNil, zGsCons,  zSetD, zGItem, zISeq, zIRng, zIZip, zIEnum, zYes, zAugD, zstart, zOp, zAdd, zSub, zMul, zFdiv, zMod, zPow, zShl, zCo, zEq, zNe, zIntC, zIs, zIsn, Zz.isNon, zBi, zLen, zAbs, zNegD, zTru, zBl, zRgL, zInt1, zMax2, zMin2, itemsOf, Zz.listOfD, Tgs.len, List.map_cons, List.map_nil, List.length_cons, List.length_nil, List.replicate_succ, List.replicate_zero, List.cons_append, List.nil_append, List.append_nil, List.set_cons_zero, List.set_cons_succ, Nat.sub_self, Nat.reduceSub, Nat.reduceAdd, reduceIte, Bool.false_eq_true, zIx_t0, zIx_t1, zIx_t2, zIx_t3, Bool.not_true, Bool.not_false, G, ctr, cst, zIsi_int, zIsi_tup, zIsi_lst, zIsi_bl, isTy, Option.some.injEq, exists_eq_left', List.cons.injEq, D.int.injEq, and_true, true_and, exists_and_left, and_self, okd_int, eqD_int, zComp, zwipe, zIx_fr0, zIx_fr1, Bool.true_and, Bool.and_true, decide_eq_true_eq, and_assoc, zIx_pt0, zIx_pt1, zIx_lk0, zIx_lk1, FR_inj, PT_inj, lookD_inj, PA_inj, PAs_inj, okd_FR, eqD_FR, okd_PT, eqD_PT, zSl_tup, cutD_1, cutD_to1, D.tup.injEq, D.lst.injEq, D.ref.injEq, ne_eq, zSeq_asg, zSeq_iff, zSeq_ret, zSeq_retN, zSeq_expr, zSeq_next, zSeq_seq, zSeq_never, zSeq_whl, zSeq_for, zSeq_aug, zNext_nx, zEnds_nx, zEnds_rt]
      intro a4 ha4
      refine turns_map (fun _ => .bl true) ha4 (by refine Nat.le_trans (List.length_filterMap_le ..) ?_; rw [List.length_map]; omega) (fun x hx M' K hK => ?_) ?_
      · obtain ⟨y, hy, e⟩ := List.mem_filterMap.mp hx
        obtain ⟨o, ho, rfl⟩ := List.mem_map.mp hy
        by_cases c : memD (PT o) [PT (prevP ps n), PT p] = true
        · rw [if_pos c] at e; cases e
        · rw [if_neg c] at e
          cases e
          have hc : o ≠ prevP ps n ∧ o ≠ p := by
            unfold memD at c
            simp only [List.any_cons, List.any_nil, Bool.or_false, Bool.or_eq_true, eqD_PT, decide_eq_true_eq, not_or] at c
            exact ⟨fun e => c.1 e.symm, fun e => c.2 e.symm⟩
          have hp : ps.getD n (0, 0) = p := by rw [List.getD_eq_getElem?_getD, hn.2]; rfl
          have ht := h.turn n hn.1 o ho hc.1 (by rw [hp]; exact hc.2)
          rw [hp] at ht
          simp only [c_turn, rdCs, rdC, rd, rds, rdc, rdo, rdg, rdgs, rdi, rdAV, rdAT, rdOV, rdOT, ofV, mkT, testV, zVar, slot, zCst, zBin, zUn, zChain, zAndV, zOrV, zAndT, zOrT, zNotV, zNotT, zIte, zIteT, zTup, zTupS, zANil, zACons, zAStar, zCall, zCallK, zONone, zOSome, zSlice, zBitsD, zGName, zGTup_tup, zGTup_lst, zGTup_FR, zGsNil, zGsCons,  zSetD, zGItem, zISeq, zIRng, zIZip, zIEnum, zYes, zAugD, zstart, zOp, zAdd, zSub, zMul, zFdiv, zMod, zPow, zShl, zCo, zEq, zNe, zIntC, zIs, zIsn, Zz.isNon, zBi, zLen, zAbs, zNegD, zTru, zBl, zRgL, zInt1, zMax2, zMin2, itemsOf, Zz.listOfD, Tgs.len, List.map_cons, List.map_nil, List.length_cons, List.length_nil, List.replicate_succ, List.replicate_zero, List.cons_append, List.nil_append, List.append_nil, List.set_cons_zero, List.set_cons_succ, Nat.sub_self, Nat.reduceSub, Nat.reduceAdd, reduceIte, Bool.false_eq_true, zIx_t0, zIx_t1, zIx_t2, zIx_t3, Bool.not_true, Bool.not_false, G, ctr, cst, zIsi_int, zIsi_tup, zIsi_lst, zIsi_bl, isTy, Option.some.injEq, exists_eq_left', List.cons.injEq, D.int.injEq, and_true, true_and, exists_and_left, and_self, okd_int, eqD_int, zComp, zwipe, zIx_fr0, zIx_fr1, Bool.true_and, Bool.and_true, decide_eq_true_eq, and_assoc, zIx_pt0, zIx_pt1, zIx_lk0, zIx_lk1, FR_inj, PT_inj, lookD_inj, PA_inj, PAs_inj, okd_FR, eqD_FR, okd_PT, eqD_PT, zSl_tup, cutD_1, cutD_to1, D.tup.injEq, D.lst.injEq, D.ref.injEq, ne_eq, zSeq_asg, zSeq_iff, zSeq_ret, zSeq_retN, zSeq_expr, zSeq_next, zSeq_seq, zSeq_never, zSeq_whl, zSeq_for, zSeq_aug, zNext_nx, zEnds_nx, zEnds_rt]
          rw [zIx_prev hn.1]
          have hm : prevP ps n ∈ ps := by
            unfold prevP
            rw [List.getD_eq_getElem?_getD, List.getElem?_eq_getElem (Nat.mod_lt _ (by omega))]
            exact List.getElem_mem _
          refine ⟨_, rfl, b100 _ hm, b100 _ (List.mem_of_getElem? hn.2), b100 _ ho, ?_⟩
          have hpos : 0 < (cross (prevP ps n) p o).num := num_pos.mpr ht
          rw [decide_eq_true hpos]
          exact hK
      · rw [show (List.filterMap (fun x => if memD x [PT (prevP ps n), PT p] = true then none else some x) (ps.map PT)).map (fun _ => D.bl true) = _ from rfl]
        refine all_true _ ?_
        simp only [rdCs, rdC, rd, rds, rdc, rdo, rdg, rdgs, rdi, rdAV, rdAT, rdOV, rdOT, ofV, mkT, testV, zVar, slot, zCst, zBin, zUn, zChain, zAndV, zOrV, zAndT, zOrT, zNotV, zNotT, zIte, zIteT, zTup, zTupS, zANil, zACons, zAStar, zCall, zCallK, zONone, zOSome, zSlice, zBitsD, zGName, zGTup_tup, zGTup_lst, zGTup_FR, zGsNil, zGsCons,  zSetD, zGItem, zISeq, zIRng, zIZip, zIEnum, zYes, zAugD, zstart, zOp, zAdd, zSub, zMul, zFdiv, zMod, zPow, zShl, zCo, zEq, zNe, zIntC, zIs, zIsn, Zz.isNon, zBi, zLen, zAbs, zNegD, zTru, zBl, zRgL, zInt1, zMax2, zMin2, itemsOf, Zz.listOfD, Tgs.len, List.map_cons, List.map_nil, List.length_cons, List.length_nil, List.replicate_succ, List.replicate_zero, List.cons_append, List.nil_append, List.append_nil, List.set_cons_zero, List.set_cons_succ, Nat.sub_self, Nat.reduceSub, Nat.reduceAdd, reduceIte, Bool.false_eq_true, zIx_t0, zIx_t1, zIx_t2, zIx_t3, Bool.not_true, Bool.not_false, G, ctr, cst, zIsi_int, zIsi_tup, zIsi_lst, zIsi_bl, isTy, Option.some.injEq, exists_eq_left', List.cons.injEq, D.int.injEq, and_true, true_and, exists_and_left, and_self, okd_int, eqD_int, zComp, zwipe, zIx_fr0, zIx_fr1, Bool.true_and, Bool.and_true, decide_eq_true_eq, and_assoc, zIx_pt0, zIx_pt1, zIx_lk0, zIx_lk1, FR_inj, PT_inj, lookD_inj, PA_inj, PAs_inj, okd_FR, eqD_FR, okd_PT, eqD_PT, zSl_tup, cutD_1, cutD_to1, D.tup.injEq, D.lst.injEq, D.ref.injEq, ne_eq, zSeq_asg, zSeq_iff, zSeq_ret, zSeq_retN, zSeq_expr, zSeq_next, zSeq_seq, zSeq_never, zSeq_whl, zSeq_for, zSeq_aug, zNext_nx, zEnds_nx, zEnds_rt]
        exact hk _ ⟨_, _, _, rfl⟩
  · rintro s' ⟨x1, x2, x3, rfl⟩
    simp only [rdCs, rdC, rd, rds, rdc, rdo, rdg, rdgs, rdi, rdAV, rdAT, rdOV, rdOT, ofV, mkT, testV, zVar, slot, zCst, zBin, zUn, zChain, zAndV, zOrV, zAndT, zOrT, zNotV, zNotT, zIte, zIteT, zTup, zTupS, zANil, zACons, zAStar, zCall, zCallK, zONone, zOSome, zSlice, zBitsD, zGName, zGTup_tup, zGTup_lst, zGTup_FR, zGsNil, zGsCons,  zSetD, zGItem, zISeq, zIRng, zIZip, zIEnum, zYes, zAugD, zstart, zOp, zAdd, zSub, zMul, zFdiv, zMod, zPow, zShl, zCo, zEq, zNe, zIntC, zIs, zIsn, Zz.isNon, zBi, zLen, zAbs, zNegD, zTru, zBl, zRgL, zInt1, zMax2, zMin2, itemsOf, Zz.listOfD, Tgs.len, List.map_cons, List.map_nil, List.length_cons, List.length_nil, List.replicate_succ, List.replicate_zero, List.cons_append, List.nil_append, List.append_nil, List.set_cons_zero, List.set_cons_succ, Nat.sub_self, Nat.reduceSub, Nat.reduceAdd, reduceIte, Bool.false_eq_true, zIx_t0, zIx_t1, zIx_t2, zIx_t3, Bool.not_true, Bool.not_false, G, ctr, cst, zIsi_int, zIsi_tup, zIsi_lst, zIsi_bl, isTy, Option.some.injEq, exists_eq_left', List.cons.injEq, D.int.injEq, and_true, true_and, exists_and_left, and_self, okd_int, eqD_int, zComp, zwipe, zIx_fr0, zIx_fr1, Bool.true_and, Bool.and_true, decide_eq_true_eq, and_assoc, zIx_pt0, zIx_pt1, zIx_lk0, zIx_lk1, FR_inj, PT_inj, lookD_inj, PA_inj, PAs_inj, okd_FR, eqD_FR, okd_PT, eqD_PT, zSl_tup, cutD_1, cutD_to1, D.tup.injEq, D.lst.injEq, D.ref.injEq, ne_eq, zSeq_asg, zSeq_iff, zSeq_ret, zSeq_retN, zSeq_expr, zSeq_next, zSeq_seq, zSeq_never, zSeq_whl, zSeq_for, zSeq_aug, zNext_nx, zEnds_nx, zEnds_rt]
    refine ⟨⟨by rw [List.length_map]; omega, ?_, ?_⟩, ?_⟩
    · refine List.all_eq_true.mpr fun x hx => ?_
      obtain ⟨p, hp, rfl⟩ := List.mem_map.mp hx
      exact keyT_PT p
    · rw [keysOf_map]
      exact h.nd.map _ fun p q hne e => hne (keyOf_PT e)
    · refine ⟨_, rfl, ?_⟩
      simp only [rdCs, rdC, rd, rds, rdc, rdo, rdg, rdgs, rdi, rdAV, rdAT, rdOV, rdOT, ofV, mkT, testV, zVar, slot, zCst, zBin, zUn, zChain, zAndV, zOrV, zAndT, zOrT, zNotV, zNotT, zIte, zIteT, zTup, zTupS, zANil, zACons, zAStar, zCall, zCallK, zONone, zOSome, zSlice, zBitsD, zGName, zGTup_tup, zGTup_lst, zGTup_FR, zGsNil, zGsCons,  zSetD, zGItem, zISeq, zIRng, zIZip, zIEnum, zYes, zAugD, zstart, zOp, zAdd, zSub, zMul, zFdiv, zMod, zPow, zShl, zCo, zEq, zNe, zIntC, zIs, zIsn, Zz.isNon, zBi, zLen, zAbs, zNegD, zTru, zBl, zRgL, zInt1, zMax2, zMin2, itemsOf, Zz.listOfD, Tgs.len, List.map_cons, List.map_nil, List.length_cons, List.length_nil, List.replicate_succ, List.replicate_zero, List.cons_append, List.nil_append, List.append_nil, List.set_cons_zero, List.set_cons_succ, Nat.sub_self, Nat.reduceSub, Nat.reduceAdd, reduceIte, Bool.false_eq_true, zIx_t0, zIx_t1, zIx_t2, zIx_t3, Bool.not_true, Bool.not_false, G, ctr, cst, zIsi_int, zIsi_tup, zIsi_lst, zIsi_bl, isTy, Option.some.injEq, exists_eq_left', List.cons.injEq, D.int.injEq, and_true, true_and, exists_and_left, and_self, okd_int, eqD_int, zComp, zwipe, zIx_fr0, zIx_fr1, Bool.true_and, Bool.and_true, decide_eq_true_eq, and_assoc, zIx_pt0, zIx_pt1, zIx_lk0, zIx_lk1, FR_inj, PT_inj, lookD_inj, PA_inj, PAs_inj, okd_FR, eqD_FR, okd_PT, eqD_PT, zSl_tup, cutD_1, cutD_to1, D.tup.injEq, D.lst.injEq, D.ref.injEq, ne_eq, zSeq_asg, zSeq_iff, zSeq_ret, zSeq_retN, zSeq_expr, zSeq_next, zSeq_seq, zSeq_never, zSeq_whl, zSeq_for, zSeq_aug, zNext_nx, zEnds_nx, zEnds_rt]
      exact ⟨M, sub_refl, by simpa using w⟩
end K46
end
section
/-! K46m: roots and moments, plainly. -/
namespace K46
open PySem PySem.Spec PyProof.Rows L2 Zz
open PySem.Builtin.Int (intBits)

theorem rt_exists : ∀ n : Nat, ∃ h, Rt n h
  | 0 => ⟨0, by decide, by decide⟩
  | n + 1 => by
    obtain ⟨h, h1, h2⟩ := rt_exists n
    by_cases c : (h + 1) * (h + 1) ≤ n + 1
    · refine ⟨h + 1, c, ?_⟩
      have : (h + 1 + 1) * (h + 1 + 1) = (h + 1) * (h + 1) + (h + 1) + (h + 1) + 1 := by grind
      omega
    · exact ⟨h, by omega, by omega⟩
theorem sq_lt {a b : Nat} (h : a * a < b * b) : a < b := by
  by_cases c : a < b
  · exact c
  · exact absurd h (Nat.not_lt.mpr (Nat.mul_le_mul (by omega) (by omega)))
theorem rt_unique {n h k : Nat} (a : Rt n h) (b : Rt n k) : h = k := by
  have h1 := sq_lt (Nat.lt_of_le_of_lt a.1 b.2)
  have h2 := sq_lt (Nat.lt_of_le_of_lt b.1 a.2)
  omega
theorem amgm {f g h : Nat} (e : f + g = 2 * h) : f * g ≤ h * h := by
  rcases Nat.le_total f h with c | c
  · obtain ⟨t, rfl⟩ := Nat.exists_eq_add_of_le c
    obtain rfl : g = f + 2 * t := by omega
    have : (f + t) * (f + t) = f * (f + 2 * t) + t * t := by grind
    omega
  · obtain ⟨t, rfl⟩ := Nat.exists_eq_add_of_le c
    obtain ⟨u, rfl⟩ : ∃ u, h = g + u := ⟨h - g, by omega⟩
    obtain rfl : t = u := by omega
    have : (g + t) * (g + t) = (g + t + t) * g + t * t := by grind
    omega
theorem newton_ge {n f h : Nat} (hf : 0 < f) (r : Rt n h) : h ≤ (f + n / f) / 2 := by
  by_cases c : h ≤ (f + n / f) / 2
  · exact c
  · have hn : n < f * (n / f + 1) := Nat.lt_mul_div_succ n hf
    generalize n / f = k at *
    have hk : f + k + 1 ≤ 2 * h := by omega
    have hg : f * (k + 1) ≤ f * (2 * h - f) := Nat.mul_le_mul (Nat.le_refl _) (by omega)
    have := amgm (f := f) (g := 2 * h - f) (h := h) (by omega)
    have := r.1
    omega
theorem newton_end {n f h : Nat} (hf : 0 < f) (r : Rt n h) (hh : h ≤ f) (e : f ≤ (f + n / f) / 2) : f = h := by
  have h1 : f ≤ n / f := by omega
  have h2 : f * f ≤ n := (Nat.le_div_iff_mul_le hf).mp h1
  have := sq_lt (Nat.lt_of_le_of_lt h2 r.2)
  omega
theorem rat_sq {v : Rat} {u : Int} (h : v * v = (u : Rat)) : ∃ k : Nat, (k : Int) * k = u := by
  have hp : v ^ 2 = (u : Rat) := by rw [← h, Rat.pow_succ, Rat.pow_one]
  have hd : v.den ^ 2 = 1 := by rw [← Rat.den_pow, hp]; rfl
  have hn : v.num ^ 2 = u := by rw [← Rat.num_pow, hp]; rfl
  refine ⟨v.num.natAbs, ?_⟩
  rw [← hn, ← Int.natCast_mul, Int.natAbs_mul_self, Int.pow_succ, Int.pow_succ, Int.pow_zero, Int.one_mul]
theorem rat_sq_int {v : Rat} {u : Int} (h : v * v = (u : Rat)) {r : Nat} (hr : Rt u.toNat r) : (r : Int) * r = u := by
  obtain ⟨k, hk⟩ := rat_sq h
  have e : u.toNat = k * k := by rw [← hk, ← Int.natCast_mul, Int.toNat_natCast]
  have : Rt (k * k) k := ⟨Nat.le_refl _, Nat.mul_lt_mul_of_lt_of_le (Nat.lt_succ_self k) (Nat.le_succ k) (Nat.succ_pos k)⟩
  rw [e] at hr
  rw [rt_unique hr this]; exact hk
theorem sq_inj {w u : Rat} (hw : 0 ≤ w) (hu : 0 ≤ u) (e : w * w = u * u) : w = u := by
  have : (w - u) * (w + u) = 0 := by grind
  rcases Rat.mul_eq_zero.mp this with h | h
  · grind
  · have : w = 0 := by grind
    grind
theorem prim_dvd {p q r p' q' r' : Int} (g : Int.gcd (Int.gcd p' q' : Nat) r' = 1) (e1 : p' * q = p * q') (e2 : p' * r = p * r') : p' ∣ p := by
  have h1 : p' ∣ p * (Int.gcd p' q' : Nat) := by
    have a1 : p' ∣ p * p' := Int.dvd_mul_left ..
    have a2 : p' ∣ p * q' := ⟨q, by rw [← e1]⟩
    have := Int.dvd_coe_gcd a1 a2
    rw [Int.gcd_mul_left] at this
    have : p' ∣ ((p.natAbs * Int.gcd p' q' : Nat) : Int) := this
    rw [Int.natCast_mul] at this
    rcases Int.natAbs_eq p with c | c
    · rw [c]; exact this
    · rw [c, Int.neg_mul]; exact Int.dvd_neg.mpr this
  have a3 : p' ∣ p * r' := ⟨r, by rw [← e2]⟩
  have := Int.dvd_coe_gcd h1 a3
  rw [Int.gcd_mul_left, g, Nat.mul_one] at this
  exact Int.dvd_natAbs.mp this
theorem prim_eq {m c : Rat} {p q r p' q' r' : Int} (h0 : 0 < p) (h0' : 0 < p') (g : Int.gcd (Int.gcd p q : Nat) r = 1) (g' : Int.gcd (Int.gcd p' q' : Nat) r' = 1)
    (e1 : (q : Rat) = m * p) (e2 : (r : Rat) = c * p) (e1' : (q' : Rat) = m * p') (e2' : (r' : Rat) = c * p') : p = p' ∧ q = q' ∧ r = r' := by
  have a1 : p' * q = p * q' := by
    have : ((p' * q : Int) : Rat) = ((p * q' : Int) : Rat) := by
      rw [Rat.intCast_mul, Rat.intCast_mul, e1, e1']; grind
    exact Rat.intCast_inj.mp this
  have a2 : p' * r = p * r' := by
    have : ((p' * r : Int) : Rat) = ((p * r' : Int) : Rat) := by
      rw [Rat.intCast_mul, Rat.intCast_mul, e2, e2']; grind
    exact Rat.intCast_inj.mp this
  have d1 := prim_dvd g' a1 a2
  have d2 := prim_dvd g (p := p') (p' := p) a1.symm a2.symm
  have e : p = p' := Int.dvd_antisymm (by omega) (by omega) d2 d1
  subst e
  refine ⟨rfl, ?_, ?_⟩
  · exact Rat.intCast_inj.mp (e1.trans e1'.symm)
  · exact Rat.intCast_inj.mp (e2.trans e2'.symm)
theorem mom_unique {m s : Rat} {d d' : D} (h : IsMom m s d) (h' : IsMom m s d') : d = d' := by
  rcases h with ⟨w, w0, w1, rfl⟩ | ⟨n, p, q, r, p0, g, e1, e2, rfl⟩
  · rcases h' with ⟨u, u0, u1, rfl⟩ | ⟨n', _⟩
    · rw [sq_inj w0 u0 (w1.trans u1.symm)]
    · exact absurd ⟨w, w1⟩ n'
  · rcases h' with ⟨u, u0, u1, rfl⟩ | ⟨n', p', q', r', p0', g', e1', e2', rfl⟩
    · exact absurd ⟨u, u1⟩ n
    · obtain ⟨rfl, rfl, rfl⟩ := prim_eq p0 p0' g g' e1 e2 e1' e2'
      rfl
/-- the reduced triple -/
theorem prim_of {a b c : Int} (h : 0 < a) : let g : Int := (Int.gcd (Int.gcd a b : Nat) c : Nat)
    0 < g ∧ a = g * (a / g) ∧ b = g * (b / g) ∧ c = g * (c / g) ∧ 0 < a / g ∧ Int.gcd (Int.gcd (a / g) (b / g) : Nat) (c / g) = 1 := by
  intro g
  have g1 : 0 < Int.gcd a b := Int.gcd_pos_of_ne_zero_left _ (by omega)
  have g0 : 0 < Int.gcd (Int.gcd a b : Nat) c := Int.gcd_pos_of_ne_zero_left _ (by omega)
  have gp : 0 < g := by show (0 : Int) < (Int.gcd (Int.gcd a b : Nat) c : Nat); omega
  have dab : g ∣ ((Int.gcd a b : Nat) : Int) := Int.gcd_dvd_left ..
  have da : g ∣ a := Int.dvd_trans dab (Int.gcd_dvd_left ..)
  have db : g ∣ b := Int.dvd_trans dab (Int.gcd_dvd_right ..)
  have dc : g ∣ c := Int.gcd_dvd_right ..
  have ea := (Int.mul_ediv_cancel' da).symm
  have eb := (Int.mul_ediv_cancel' db).symm
  have ec := (Int.mul_ediv_cancel' dc).symm
  refine ⟨gp, ea, eb, ec, ?_, ?_⟩
  · refine Int.lt_of_mul_lt_mul_left (a := g) ?_ (by omega)
    rw [Int.mul_zero, ← ea]; exact h
  · have hh : Int.gcd (Int.gcd (g * (a / g)) (g * (b / g)) : Nat) (g * (c / g)) = g.natAbs * Int.gcd (Int.gcd (a / g) (b / g) : Nat) (c / g) := by
      rw [Int.gcd_mul_left, Int.natCast_mul, show ((g.natAbs : Nat) : Int) = g by omega, Int.gcd_mul_left]
    rw [← ea, ← eb, ← ec] at hh
    have hg : g.natAbs = Int.gcd (Int.gcd a b : Nat) c := by
      show ((Int.gcd (Int.gcd a b : Nat) c : Nat) : Int).natAbs = _
      exact Int.natAbs_natCast _
    rw [hg] at hh
    exact (Nat.eq_of_mul_eq_mul_left g0 (by rw [Nat.mul_one]; exact hh)).symm
end K46
end
section
/-! K46c: moments. -/
namespace K46
open PySem PySem.Spec PyProof.Rows L2 Zz
open PySem.Builtin.Int (intBits)

theorem p_discriminant : ∀ ds M q, c_discriminant ds M q → rdCs G ir_discriminant (zEnds q) (zstart N_discriminant ds) M := by
  rintro ds M q ⟨a, b, c, rfl, ⟨h1, h2, h3⟩, w⟩
  simp only [ir_discriminant, N_discriminant, rdCs, rdC, rd, rds, rdc, rdo, rdg, rdgs, rdi, rdAV, rdAT, rdOV, rdOT, ofV, mkT, testV, zVar, slot, zCst, zBin, zUn, zChain, zAndV, zOrV, zAndT, zOrT, zNotV, zNotT, zIte, zIteT, zTup, zTupS, zANil, zACons, zAStar, zCall, zCallK, zONone, zOSome, zSlice, zBitsD, zGName, zGTup_tup, zGTup_lst, zGTup_FR, zGsNil, zGsCons,  zSetD, zGItem, zISeq, zIRng, zIZip, zIEnum, zYes, zAugD, zstart, zOp, zAdd, zSub, zMul, zFdiv, zMod, zPow, zShl, zCo, zEq, zNe, zIntC, zIs, zIsn, Zz.isNon, zBi, zLen, zAbs, zNegD, zTru, zBl, zRgL, zInt1, zMax2, zMin2, itemsOf, Zz.listOfD, Tgs.len, List.map_cons, List.map_nil, List.length_cons, List.length_nil, List.replicate_succ, List.replicate_zero, List.cons_append, List.nil_append, List.append_nil, List.set_cons_zero, List.set_cons_succ, Nat.sub_self, Nat.reduceSub, Nat.reduceAdd, reduceIte, Bool.false_eq_true, zIx_t0, zIx_t1, zIx_t2, zIx_t3, Bool.not_true, Bool.not_false, G, ctr, cst, zIsi_int, zIsi_tup, zIsi_lst, zIsi_bl, isTy, Option.some.injEq, exists_eq_left', List.cons.injEq, D.int.injEq, and_true, true_and, exists_and_left, and_self, okd_int, eqD_int, zComp, zwipe, zIx_fr0, zIx_fr1, Bool.true_and, Bool.and_true, decide_eq_true_eq, and_assoc, zIx_pt0, zIx_pt1, zIx_lk0, zIx_lk1, FR_inj, PT_inj, lookD_inj, PA_inj, PAs_inj, okd_FR, eqD_FR, okd_PT, eqD_PT, zSl_tup, cutD_1, cutD_to1, D.tup.injEq, D.lst.injEq, D.ref.injEq, ne_eq, zSeq_asg, zSeq_iff, zSeq_ret, zSeq_retN, zSeq_expr, zSeq_next, zSeq_seq, zSeq_never, zSeq_whl, zSeq_for, zSeq_aug, zNext_nx, zEnds_nx, zEnds_rt]
  exact ⟨mulOk h2 h2 (by decide), mulOk (by decide : intBits 4 ≤ 3) h1 (by decide), mulOk (bmul (by decide : intBits 4 ≤ 3) h1 (Nat.le_refl _)) h3 (by decide), M, sub_refl, w⟩
theorem sqd_nonneg (p q : P2) : 0 ≤ sqd p q := Rat.add_nonneg (sq_nonneg _) (sq_nonneg _)
theorem least_nonneg {p : P2} {l : List (List P2)} (g : GoodAll l) : 0 ≤ least (squares p l) := by
  obtain ⟨ps, hs, e⟩ := List.mem_map.mp (least_mem (squares_ne (p := p) g))
  have e : rimSq p ps = least (squares p l) := e
  rw [← e]
  have gp := g.good ps hs
  have hne : (sides ps).map (fun s => sideSq p s.1 s.2) ≠ [] := by
    have hl := gp.l3
    have := sides_ne_nil (ps := ps) (by intro e; rw [e] at hl; simp at hl)
    intro e
    exact this (List.map_eq_nil_iff.mp e)
  obtain ⟨s, hs, e⟩ := List.mem_map.mp (least_mem hne)
  unfold rimSq
  rw [← e]
  exact sqd_nonneg _ _
theorem fdiv_nat (a b : Nat) : (a : Int).fdiv b = ((a / b : Nat) : Int) := by
  rw [Int.fdiv_eq_ediv_of_nonneg _ (Int.natCast_nonneg b)]; exact (Int.natCast_ediv a b).symm
theorem newton_wh {Z : ZEnds} {M : Mh} {n h : Nat} {q : KD} (r : Rt n h) (hn : 0 < n) (hq : ∀ x, Z.nx [some (.int (n : Nat)), some (.int (h : Nat)), x] M) : ∀ (k f : Nat), f ≤ k → 0 < f → h ≤ f → intBits (f : Int) ≤ 8000 →
    zWh (testV (zBin (zIntC fun i j => decide (i < j)) (zVar 2) (zVar 1))) (zSeq (zAsg (zGName 1) (zVar 2)) (zSeq (zAsg (zGName 2) (zBin zFdiv (zBin zAdd (zVar 1) (zBin zFdiv (zVar 0) (zVar 1))) (zCst (D.int 2)))) zNext)) (k + 1) Z
      [some (.int (n : Nat)), some (.int (f : Nat)), some (.int (((f + n / f) / 2 : Nat) : Int))] M := by
  intro k
  induction k with
  | zero => intro f h1 h2; omega
  | succ k ih =>
    intro f h1 h2 h3 h4
    unfold zWh
    simp only [rdCs, rdC, rd, rds, rdc, rdo, rdg, rdgs, rdi, rdAV, rdAT, rdOV, rdOT, ofV, mkT, testV, zVar, slot, zCst, zBin, zUn, zChain, zAndV, zOrV, zAndT, zOrT, zNotV, zNotT, zIte, zIteT, zTup, zTupS, zANil, zACons, zAStar, zCall, zCallK, zONone, zOSome, zSlice, zBitsD, zGName, zGTup_tup, zGTup_lst, zGTup_FR, zGsNil, zGsCons,  zSetD, zGItem, zISeq, zIRng, zIZip, zIEnum, zYes, zAugD, zstart, zOp, zAdd, zSub, zMul, zFdiv, zMod, zPow, zShl, zCo, zEq, zNe, zIntC, zIs, zIsn, Zz.isNon, zBi, zLen, zAbs, zNegD, zTru, zBl, zRgL, zInt1, zMax2, zMin2, itemsOf, Zz.listOfD, Tgs.len, List.map_cons, List.map_nil, List.length_cons, List.length_nil, List.replicate_succ, List.replicate_zero, List.cons_append, List.nil_append, List.append_nil, List.set_cons_zero, List.set_cons_succ, Nat.sub_self, Nat.reduceSub, Nat.reduceAdd, reduceIte, Bool.false_eq_true, zIx_t0, zIx_t1, zIx_t2, zIx_t3, Bool.not_true, Bool.not_false, G, ctr, cst, zIsi_int, zIsi_tup, zIsi_lst, zIsi_bl, isTy, Option.some.injEq, exists_eq_left', List.cons.injEq, D.int.injEq, and_true, true_and, exists_and_left, and_self, okd_int, eqD_int, zComp, zwipe, zIx_fr0, zIx_fr1, Bool.true_and, Bool.and_true, decide_eq_true_eq, and_assoc, zIx_pt0, zIx_pt1, zIx_lk0, zIx_lk1, FR_inj, PT_inj, lookD_inj, PA_inj, PAs_inj, okd_FR, eqD_FR, okd_PT, eqD_PT, zSl_tup, cutD_1, cutD_to1, D.tup.injEq, D.lst.injEq, D.ref.injEq, ne_eq, zSeq_asg, zSeq_iff, zSeq_ret, zSeq_retN, zSeq_expr, zSeq_next, zSeq_seq, zSeq_never, zSeq_whl, zSeq_for, zSeq_aug, zNext_nx, zEnds_nx, zEnds_rt]
    by_cases c : (f + n / f) / 2 < f
    · rw [if_pos (by exact_mod_cast c)]
      have ge := newton_ge h2 r
      generalize hg : (f + n / f) / 2 = g at *
      have hg0 : 0 < g := by
        have : 0 < h := by
          by_cases z : h = 0
          · subst z
            have := r.2
            omega
          · omega
        omega
      have hgi : (g : Int) ≠ 0 := by exact_mod_cast Nat.ne_of_gt hg0
      have bg : intBits (g : Int) ≤ 8000 := bits_le (by rw [Int.natAbs_natCast, Int.natAbs_natCast]; omega) h4
      refine ⟨divOk_of hgi (Nat.le_trans bg (by decide)), divOk_of (by decide) (by decide), ?_⟩
      have e : ((g : Int) + (n : Int).fdiv g).fdiv 2 = (((g + n / g) / 2 : Nat) : Int) := by
        rw [fdiv_nat, ← Int.natCast_add]; exact fdiv_nat (g + n / g) 2
      rw [e]
      exact ih g (by omega) hg0 ge bg
    · rw [if_neg (by intro z; exact c (by exact_mod_cast z))]
      have e := newton_end h2 r h3 (by omega)
      subst e
      exact hq _
theorem p_root_floor : ∀ ds M q, c_root_floor ds M q → rdCs G ir_root_floor (zEnds q) (zstart N_root_floor ds) M := by
  rintro ds M q ⟨n, rfl, h, w⟩
  simp only [ir_root_floor, N_root_floor, rdCs, rdC, rd, rds, rdc, rdo, rdg, rdgs, rdi, rdAV, rdAT, rdOV, rdOT, ofV, mkT, testV, zVar, slot, zCst, zBin, zUn, zChain, zAndV, zOrV, zAndT, zOrT, zNotV, zNotT, zIte, zIteT, zTup, zTupS, zANil, zACons, zAStar, zCall, zCallK, zONone, zOSome, zSlice, zBitsD, zGName, zGTup_tup, zGTup_lst, zGTup_FR, zGsNil, zGsCons,  zSetD, zGItem, zISeq, zIRng, zIZip, zIEnum, zYes, zAugD, zstart, zOp, zAdd, zSub, zMul, zFdiv, zMod, zPow, zShl, zCo, zEq, zNe, zIntC, zIs, zIsn, Zz.isNon, zBi, zLen, zAbs, zNegD, zTru, zBl, zRgL, zInt1, zMax2, zMin2, itemsOf, Zz.listOfD, Tgs.len, List.map_cons, List.map_nil, List.length_cons, List.length_nil, List.replicate_succ, List.replicate_zero, List.cons_append, List.nil_append, List.append_nil, List.set_cons_zero, List.set_cons_succ, Nat.sub_self, Nat.reduceSub, Nat.reduceAdd, reduceIte, Bool.false_eq_true, zIx_t0, zIx_t1, zIx_t2, zIx_t3, Bool.not_true, Bool.not_false, G, ctr, cst, zIsi_int, zIsi_tup, zIsi_lst, zIsi_bl, isTy, Option.some.injEq, exists_eq_left', List.cons.injEq, D.int.injEq, and_true, true_and, exists_and_left, and_self, okd_int, eqD_int, zComp, zwipe, zIx_fr0, zIx_fr1, Bool.true_and, Bool.and_true, decide_eq_true_eq, and_assoc, zIx_pt0, zIx_pt1, zIx_lk0, zIx_lk1, FR_inj, PT_inj, lookD_inj, PA_inj, PAs_inj, okd_FR, eqD_FR, okd_PT, eqD_PT, zSl_tup, cutD_1, cutD_to1, D.tup.injEq, D.lst.injEq, D.ref.injEq, ne_eq, zSeq_asg, zSeq_iff, zSeq_ret, zSeq_retN, zSeq_expr, zSeq_next, zSeq_seq, zSeq_never, zSeq_whl, zSeq_for, zSeq_aug, zNext_nx, zEnds_nx, zEnds_rt]
  by_cases h0 : n = 0
  · subst h0
    rw [if_pos (show ((0 : Nat) : Int) = 0 from rfl)]
    exact ⟨M, sub_refl, w 0 ⟨by decide, by decide⟩⟩
  · rw [if_neg (by exact_mod_cast h0)]
    have hn : 0 < n := Nat.pos_of_ne_zero h0
    obtain ⟨r, hr⟩ := rt_exists n
    have ek : ((intBits (n : Int) : Nat) + 1 : Int).fdiv 2 = (((intBits (n : Int) + 1) / 2 : Nat) : Int) := by
      rw [show ((intBits (n : Int) : Nat) + 1 : Int) = ((intBits (n : Int) + 1 : Nat) : Int) by omega]; exact fdiv_nat _ 2
    rw [ek, Int.toNat_natCast]
    generalize hk : (intBits (n : Int) + 1) / 2 = k at *
    have hk2 : k ≤ 4000 := by omega
    have e1 : (1 : Int) * 2 ^ k = ((2 ^ k : Nat) : Int) := by rw [Int.one_mul]; exact (Int.natCast_pow 2 k).symm
    rw [e1]
    have f0 : 0 < 2 ^ k := Nat.two_pow_pos k
    have fb : intBits ((2 ^ k : Nat) : Int) ≤ 8000 := by
      refine intBits_le_iff.mpr ?_
      rw [Int.natAbs_natCast]
      exact Nat.pow_lt_pow_right (by decide) (by omega)
    have rf : r ≤ 2 ^ k := by
      have b1 : n < 2 ^ intBits (n : Int) := by
        have := intBits_le_iff.mp (Nat.le_refl (intBits (n : Int)))
        rwa [Int.natAbs_natCast] at this
      have b2 : 2 ^ intBits (n : Int) ≤ 2 ^ k * 2 ^ k := by
        rw [← Nat.pow_add]
        exact Nat.pow_le_pow_right (by decide) (by omega)
      exact Nat.le_of_lt (sq_lt (Nat.lt_of_le_of_lt hr.1 (Nat.lt_of_lt_of_le b1 b2)))
    have fi : ((2 ^ k : Nat) : Int) ≠ 0 := by exact_mod_cast Nat.ne_of_gt f0
    generalize 2 ^ k = f at *
    have e2 : ((f : Int) + (n : Int).fdiv f).fdiv 2 = (((f + n / f) / 2 : Nat) : Int) := by
      rw [fdiv_nat, ← Int.natCast_add]; exact fdiv_nat (f + n / f) 2
    rw [e2]
    refine ⟨divOk_of (by decide) (by decide), ⟨by omega, ?_⟩, divOk_of fi (Nat.le_trans fb (by decide)), divOk_of (by decide) (by decide), f + 1, ?_⟩
    · have : intBits 1 = 1 := by decide
      rw [this]
      have : (2 : Int) ^ 27 = 134217728 := by decide
      omega
    · refine newton_wh (q := q) hr hn (fun x => ?_) f f (Nat.le_refl _) f0 rf fb
      exact ⟨M, sub_refl, w r hr⟩
theorem p_moment_of_whole : ∀ ds M q, c_moment_of_whole ds M q → rdCs G ir_moment_of_whole (zEnds q) (zstart N_moment_of_whole ds) M := by
  rintro ds M q ⟨a, b, c, rfl, ⟨h0, h1, h2, h3, h4⟩, w⟩
  have n0 : ¬ a = 0 := by omega
  have n1 : ¬ a < 0 := by omega
  have n2 : ¬ b * b - 4 * a * c < 0 := by omega
  simp only [ir_moment_of_whole, N_moment_of_whole, c_fraction, c_common, c_discriminant, c_root_floor, n0, n1, n2, rdCs, rdC, rd, rds, rdc, rdo, rdg, rdgs, rdi, rdAV, rdAT, rdOV, rdOT, ofV, mkT, testV, zVar, slot, zCst, zBin, zUn, zChain, zAndV, zOrV, zAndT, zOrT, zNotV, zNotT, zIte, zIteT, zTup, zTupS, zANil, zACons, zAStar, zCall, zCallK, zONone, zOSome, zSlice, zBitsD, zGName, zGTup_tup, zGTup_lst, zGTup_FR, zGsNil, zGsCons,  zSetD, zGItem, zISeq, zIRng, zIZip, zIEnum, zYes, zAugD, zstart, zOp, zAdd, zSub, zMul, zFdiv, zMod, zPow, zShl, zCo, zEq, zNe, zIntC, zIs, zIsn, Zz.isNon, zBi, zLen, zAbs, zNegD, zTru, zBl, zRgL, zInt1, zMax2, zMin2, itemsOf, Zz.listOfD, Tgs.len, List.map_cons, List.map_nil, List.length_cons, List.length_nil, List.replicate_succ, List.replicate_zero, List.cons_append, List.nil_append, List.append_nil, List.set_cons_zero, List.set_cons_succ, Nat.sub_self, Nat.reduceSub, Nat.reduceAdd, reduceIte, Bool.false_eq_true, zIx_t0, zIx_t1, zIx_t2, zIx_t3, Bool.not_true, Bool.not_false, G, ctr, cst, zIsi_int, zIsi_tup, zIsi_lst, zIsi_bl, isTy, Option.some.injEq, exists_eq_left', List.cons.injEq, D.int.injEq, and_true, true_and, exists_and_left, and_self, okd_int, eqD_int, zComp, zwipe, zIx_fr0, zIx_fr1, Bool.true_and, Bool.and_true, decide_eq_true_eq, and_assoc, zIx_pt0, zIx_pt1, zIx_lk0, zIx_lk1, FR_inj, PT_inj, lookD_inj, PA_inj, PAs_inj, okd_FR, eqD_FR, okd_PT, eqD_PT, zSl_tup, cutD_1, cutD_to1, D.tup.injEq, D.lst.injEq, D.ref.injEq, ne_eq, zSeq_asg, zSeq_iff, zSeq_ret, zSeq_retN, zSeq_expr, zSeq_next, zSeq_seq, zSeq_never, zSeq_whl, zSeq_for, zSeq_aug, zNext_nx, zEnds_nx, zEnds_rt]
  have bu : intBits (b * b - 4 * a * c) ≤ 8000 := bsub (bmul h2 h2 (Nat.le_refl _)) (bmul (bmul (by decide : intBits 4 ≤ 3) h1 (Nat.le_refl _)) h3 (Nat.le_refl _)) (by decide)
  refine ⟨h1, h2, h3, (b * b - 4 * a * c).toNat, by omega, by rw [Int.toNat_of_nonneg h4]; exact bu, fun h hr => ?_⟩
  have w := w h hr
  have bh : intBits (h : Int) ≤ 8000 := by
    refine Nat.le_trans (bits_le (y := b * b - 4 * a * c) ?_ bu) (Nat.le_refl _)
    have := hr.1
    rw [Int.natAbs_natCast]
    have : h ≤ h * h := by
      by_cases z : h = 0
      · subst z; exact Nat.le_refl _
      · exact Nat.le_mul_of_pos_left h (by omega)
    omega
  refine ⟨mulOk bh bh (by decide), ?_⟩
  have ba : intBits (2 * a) ≤ 9000 := bmul (by decide : intBits 2 ≤ 2) h1 (by decide)
  by_cases e : (h : Int) * h = b * b - 4 * a * c
  · rw [if_pos e] at w ⊢
    refine ⟨mulOk (by decide : intBits 1 ≤ 1) bh (by decide), mulOk (by decide : intBits 2 ≤ 2) h1 (by decide), by omega, bsub (bmul (by decide : intBits 1 ≤ 1) bh (Nat.le_refl _)) h2 (by decide), ba, M, sub_refl, ?_⟩
    rw [Int.one_mul]; exact w
  · rw [if_neg e] at w ⊢
    obtain ⟨gp, _, _, _, _, _⟩ := prim_of (b := b) (c := c) h0
    have gle : (Int.gcd (Int.gcd a b : Nat) c : Nat) ≤ a.natAbs := by
      refine Nat.le_of_dvd (by omega) ?_
      exact Nat.dvd_trans (Nat.gcd_dvd_left _ _) (by show Int.gcd a b ∣ a.natAbs; exact Nat.gcd_dvd_left _ _)
    have gb : intBits ((Int.gcd (Int.gcd a b : Nat) c : Nat) : Int) ≤ 3000 := bits_le (by rw [Int.natAbs_natCast]; exact gle) h1
    have gn : ((Int.gcd (Int.gcd a b : Nat) c : Nat) : Int) ≠ 0 := Int.ne_of_gt gp
    have dk := fun x => divOk_of (x := x) gn (Nat.le_trans gb (by decide))
    refine ⟨dk _, dk _, dk _, M, sub_refl, ?_⟩
    have fe := fun x : Int => Int.fdiv_eq_ediv_of_nonneg x (Int.le_of_lt gp)
    rw [fe a, fe b, fe c]
    exact w
theorem mul_den (r : Rat) : r * (r.den : Rat) = (r.num : Rat) := by
  have hd : (r.den : Rat) ≠ 0 := by
    intro e
    exact r.den_nz (Rat.natCast_eq_zero_iff.mp e)
  have h : (r.num : Rat) / (r.den : Rat) = r := by rw [← Rat.mkRat_eq_div, Rat.mkRat_self]
  conv => lhs; lhs; rw [← h]
  exact Rat.div_mul_cancel hd
theorem scale_ok {r : Rat} {n : Nat} (h : r.den ∣ n) : ((r.num * ((n / r.den : Nat) : Int) : Int) : Rat) = r * (n : Rat) := by
  obtain ⟨e, rfl⟩ := h
  rw [Nat.mul_div_cancel_left _ r.den_pos, Rat.intCast_mul, Rat.natCast_mul, Rat.intCast_natCast, ← mul_den r]
  grind
theorem lcm_eq (c d : Nat) : c / Nat.gcd c d * d = Nat.lcm c d := by
  unfold Nat.lcm
  exact Nat.div_mul_right_comm (Nat.gcd_dvd_left c d) d
theorem p_scaled_up : ∀ ds M q, c_scaled_up ds M q → rdCs G ir_scaled_up (zEnds q) (zstart N_scaled_up ds) M := by
  rintro ds M q ⟨a, b, c, rfl, ⟨h1, h2, h3, bN⟩, w⟩
  simp only [ir_scaled_up, N_scaled_up, c_common, rdCs, rdC, rd, rds, rdc, rdo, rdg, rdgs, rdi, rdAV, rdAT, rdOV, rdOT, ofV, mkT, testV, zVar, slot, zCst, zBin, zUn, zChain, zAndV, zOrV, zAndT, zOrT, zNotV, zNotT, zIte, zIteT, zTup, zTupS, zANil, zACons, zAStar, zCall, zCallK, zONone, zOSome, zSlice, zBitsD, zGName, zGTup_tup, zGTup_lst, zGTup_FR, zGsNil, zGsCons,  zSetD, zGItem, zISeq, zIRng, zIZip, zIEnum, zYes, zAugD, zstart, zOp, zAdd, zSub, zMul, zFdiv, zMod, zPow, zShl, zCo, zEq, zNe, zIntC, zIs, zIsn, Zz.isNon, zBi, zLen, zAbs, zNegD, zTru, zBl, zRgL, zInt1, zMax2, zMin2, itemsOf, Zz.listOfD, Tgs.len, List.map_cons, List.map_nil, List.length_cons, List.length_nil, List.replicate_succ, List.replicate_zero, List.cons_append, List.nil_append, List.append_nil, List.set_cons_zero, List.set_cons_succ, Nat.sub_self, Nat.reduceSub, Nat.reduceAdd, reduceIte, Bool.false_eq_true, zIx_t0, zIx_t1, zIx_t2, zIx_t3, Bool.not_true, Bool.not_false, G, ctr, cst, zIsi_int, zIsi_tup, zIsi_lst, zIsi_bl, isTy, Option.some.injEq, exists_eq_left', List.cons.injEq, D.int.injEq, and_true, true_and, exists_and_left, and_self, okd_int, eqD_int, zComp, zwipe, zIx_fr0, zIx_fr1, Bool.true_and, Bool.and_true, decide_eq_true_eq, and_assoc, zIx_pt0, zIx_pt1, zIx_lk0, zIx_lk1, FR_inj, PT_inj, lookD_inj, PA_inj, PAs_inj, okd_FR, eqD_FR, okd_PT, eqD_PT, zSl_tup, cutD_1, cutD_to1, D.tup.injEq, D.lst.injEq, D.ref.injEq, ne_eq, zSeq_asg, zSeq_iff, zSeq_ret, zSeq_retN, zSeq_expr, zSeq_next, zSeq_seq, zSeq_never, zSeq_whl, zSeq_for, zSeq_aug, zNext_nx, zEnds_nx, zEnds_rt]
  have hN0 : 0 < a.den * b.den * c.den := Nat.mul_pos (Nat.mul_pos a.den_pos b.den_pos) c.den_pos
  have den_dvd : ∀ r ∈ [a, b, c], r.den ∣ a.den * b.den * c.den := fun r hr => by
    have e : r = a ∨ r = b ∨ r = c := by simpa using hr
    rcases e with e | e | e
    · rw [e]; exact Nat.dvd_trans (Nat.dvd_mul_right _ _) (Nat.dvd_mul_right _ _)
    · rw [e]; exact Nat.dvd_trans (Nat.dvd_mul_left _ _) (Nat.dvd_mul_right _ _)
    · rw [e]; exact Nat.dvd_mul_left _ _
  have n1400 : ∀ r ∈ [a, b, c], intBits r.num ≤ 1480 := fun r hr => by
    have e : r = a ∨ r = b ∨ r = c := by simpa using hr
    rcases e with e | e | e
    · rw [e]; exact h1
    · rw [e]; exact h2
    · rw [e]; exact h3
  generalize hN : a.den * b.den * c.den = N at *
  have bdvd : ∀ m : Nat, m ∣ N → intBits (m : Int) ≤ 1511 := fun m hm => bits_le (by rw [Int.natAbs_natCast, Int.natAbs_natCast]; exact Nat.le_of_dvd hN0 hm) bN
  have d1400 : ∀ r ∈ [a, b, c], intBits (r.den : Int) ≤ 1511 := fun r hr => bdvd _ (den_dvd r hr)
  refine zLoop_fold FR (fun (n : Nat) s => ∃ x2 x3, s = [some (D.lst [FR a, FR b, FR c]), some (.int (n : Nat)), x2, x3] ∧ 0 < n ∧ n ∣ N) (fun n r => Nat.lcm n r.den) M [a, b, c] ?_ 1 _ ⟨none, none, rfl, by decide, Nat.one_dvd _⟩ ?_
  · rintro r hr n s k ⟨x2, x3, rfl, n0, nd⟩ hk
    simp only [c_common, FR, rdCs, rdC, rd, rds, rdc, rdo, rdg, rdgs, rdi, rdAV, rdAT, rdOV, rdOT, ofV, mkT, testV, zVar, slot, zCst, zBin, zUn, zChain, zAndV, zOrV, zAndT, zOrT, zNotV, zNotT, zIte, zIteT, zTup, zTupS, zANil, zACons, zAStar, zCall, zCallK, zONone, zOSome, zSlice, zBitsD, zGName, zGTup_tup, zGTup_lst, zGTup_FR, zGsNil, zGsCons,  zSetD, zGItem, zISeq, zIRng, zIZip, zIEnum, zYes, zAugD, zstart, zOp, zAdd, zSub, zMul, zFdiv, zMod, zPow, zShl, zCo, zEq, zNe, zIntC, zIs, zIsn, Zz.isNon, zBi, zLen, zAbs, zNegD, zTru, zBl, zRgL, zInt1, zMax2, zMin2, itemsOf, Zz.listOfD, Tgs.len, List.map_cons, List.map_nil, List.length_cons, List.length_nil, List.replicate_succ, List.replicate_zero, List.cons_append, List.nil_append, List.append_nil, List.set_cons_zero, List.set_cons_succ, Nat.sub_self, Nat.reduceSub, Nat.reduceAdd, reduceIte, Bool.false_eq_true, zIx_t0, zIx_t1, zIx_t2, zIx_t3, Bool.not_true, Bool.not_false, G, ctr, cst, zIsi_int, zIsi_tup, zIsi_lst, zIsi_bl, isTy, Option.some.injEq, exists_eq_left', List.cons.injEq, D.int.injEq, and_true, true_and, exists_and_left, and_self, okd_int, eqD_int, zComp, zwipe, zIx_fr0, zIx_fr1, Bool.true_and, Bool.and_true, decide_eq_true_eq, and_assoc, zIx_pt0, zIx_pt1, zIx_lk0, zIx_lk1, FR_inj, PT_inj, lookD_inj, PA_inj, PAs_inj, okd_FR, eqD_FR, okd_PT, eqD_PT, zSl_tup, cutD_1, cutD_to1, D.tup.injEq, D.lst.injEq, D.ref.injEq, ne_eq, zSeq_asg, zSeq_iff, zSeq_ret, zSeq_retN, zSeq_expr, zSeq_next, zSeq_seq, zSeq_never, zSeq_whl, zSeq_for, zSeq_aug, zNext_nx, zEnds_nx, zEnds_rt]
    have g0 : 0 < Nat.gcd n r.den := Nat.gcd_pos_of_pos_left _ n0
    have gi : ((Int.gcd (n : Int) (r.den : Int) : Nat) : Int) ≠ 0 := by
      show ((Nat.gcd n r.den : Nat) : Int) ≠ 0
      exact_mod_cast Nat.ne_of_gt g0
    have gb : intBits ((Int.gcd (n : Int) (r.den : Int) : Nat) : Int) ≤ 1511 := bdvd _ (Nat.dvd_trans (Nat.gcd_dvd_left _ _) nd)
    have e1 : (n : Int).fdiv ((Int.gcd (n : Int) (r.den : Int) : Nat) : Int) = ((n / Nat.gcd n r.den : Nat) : Int) := fdiv_nat n (Nat.gcd n r.den)
    rw [e1, ← Int.natCast_mul, lcm_eq]
    have hdv : Nat.lcm n r.den ∣ N := Nat.lcm_dvd nd (den_dvd r hr)
    refine ⟨divOk_of gi (Nat.le_trans gb (by decide)), mulOk (bdvd _ (Nat.dvd_trans (Nat.div_dvd_of_dvd (Nat.gcd_dvd_left _ _)) nd)) (d1400 r hr) (by decide), hk _ ⟨_, _, rfl, Nat.lcm_pos n0 r.den_pos, hdv⟩⟩
  · rintro s' ⟨x2, x3, rfl, n0, nd⟩
    have da : a.den ∣ [a, b, c].foldl (fun n r => Nat.lcm n r.den) 1 := by
      show a.den ∣ Nat.lcm (Nat.lcm (Nat.lcm 1 a.den) b.den) c.den
      exact Nat.dvd_trans (Nat.dvd_trans (Nat.dvd_lcm_right 1 a.den) (Nat.dvd_lcm_left _ _)) (Nat.dvd_lcm_left _ _)
    have db : b.den ∣ [a, b, c].foldl (fun n r => Nat.lcm n r.den) 1 := by
      show b.den ∣ Nat.lcm (Nat.lcm (Nat.lcm 1 a.den) b.den) c.den
      exact Nat.dvd_trans (Nat.dvd_lcm_right _ _) (Nat.dvd_lcm_left _ _)
    have dc : c.den ∣ [a, b, c].foldl (fun n r => Nat.lcm n r.den) 1 := by
      show c.den ∣ Nat.lcm (Nat.lcm (Nat.lcm 1 a.den) b.den) c.den
      exact Nat.dvd_lcm_right _ _
    generalize [a, b, c].foldl (fun n r => Nat.lcm n r.den) 1 = n at *
    simp only [rdCs, rdC, rd, rds, rdc, rdo, rdg, rdgs, rdi, rdAV, rdAT, rdOV, rdOT, ofV, mkT, testV, zVar, slot, zCst, zBin, zUn, zChain, zAndV, zOrV, zAndT, zOrT, zNotV, zNotT, zIte, zIteT, zTup, zTupS, zANil, zACons, zAStar, zCall, zCallK, zONone, zOSome, zSlice, zBitsD, zGName, zGTup_tup, zGTup_lst, zGTup_FR, zGsNil, zGsCons,  zSetD, zGItem, zISeq, zIRng, zIZip, zIEnum, zYes, zAugD, zstart, zOp, zAdd, zSub, zMul, zFdiv, zMod, zPow, zShl, zCo, zEq, zNe, zIntC, zIs, zIsn, Zz.isNon, zBi, zLen, zAbs, zNegD, zTru, zBl, zRgL, zInt1, zMax2, zMin2, itemsOf, Zz.listOfD, Tgs.len, List.map_cons, List.map_nil, List.length_cons, List.length_nil, List.replicate_succ, List.replicate_zero, List.cons_append, List.nil_append, List.append_nil, List.set_cons_zero, List.set_cons_succ, Nat.sub_self, Nat.reduceSub, Nat.reduceAdd, reduceIte, Bool.false_eq_true, zIx_t0, zIx_t1, zIx_t2, zIx_t3, Bool.not_true, Bool.not_false, G, ctr, cst, zIsi_int, zIsi_tup, zIsi_lst, zIsi_bl, isTy, Option.some.injEq, exists_eq_left', List.cons.injEq, D.int.injEq, and_true, true_and, exists_and_left, and_self, okd_int, eqD_int, zComp, zwipe, zIx_fr0, zIx_fr1, Bool.true_and, Bool.and_true, decide_eq_true_eq, and_assoc, zIx_pt0, zIx_pt1, zIx_lk0, zIx_lk1, FR_inj, PT_inj, lookD_inj, PA_inj, PAs_inj, okd_FR, eqD_FR, okd_PT, eqD_PT, zSl_tup, cutD_1, cutD_to1, D.tup.injEq, D.lst.injEq, D.ref.injEq, ne_eq, zSeq_asg, zSeq_iff, zSeq_ret, zSeq_retN, zSeq_expr, zSeq_next, zSeq_seq, zSeq_never, zSeq_whl, zSeq_for, zSeq_aug, zNext_nx, zEnds_nx, zEnds_rt]
    intro ad had
    have dall : ∀ r ∈ [a, b, c], r.den ∣ n := fun r hr => by
      have e : r = a ∨ r = b ∨ r = c := by simpa using hr
      rcases e with e | e | e
      · rw [e]; exact da
      · rw [e]; exact db
      · rw [e]; exact dc
    refine turns_map (fun x => match x with
      | .tup [.int t, .int u] => .int (t * (n : Int).fdiv u)
      | _ => .non) had (by show 3 ≤ sizeLine; decide) (fun x hx M' K hK => ?_) ?_
    · obtain ⟨r, hr, rfl⟩ : ∃ r, r ∈ [a, b, c] ∧ x = FR r := by
        have e : x = FR a ∨ x = FR b ∨ x = FR c := by simpa using hx
        rcases e with e | e | e
        · exact ⟨a, by simp, e⟩
        · exact ⟨b, by simp, e⟩
        · exact ⟨c, by simp, e⟩
      simp only [FR, rdCs, rdC, rd, rds, rdc, rdo, rdg, rdgs, rdi, rdAV, rdAT, rdOV, rdOT, ofV, mkT, testV, zVar, slot, zCst, zBin, zUn, zChain, zAndV, zOrV, zAndT, zOrT, zNotV, zNotT, zIte, zIteT, zTup, zTupS, zANil, zACons, zAStar, zCall, zCallK, zONone, zOSome, zSlice, zBitsD, zGName, zGTup_tup, zGTup_lst, zGTup_FR, zGsNil, zGsCons,  zSetD, zGItem, zISeq, zIRng, zIZip, zIEnum, zYes, zAugD, zstart, zOp, zAdd, zSub, zMul, zFdiv, zMod, zPow, zShl, zCo, zEq, zNe, zIntC, zIs, zIsn, Zz.isNon, zBi, zLen, zAbs, zNegD, zTru, zBl, zRgL, zInt1, zMax2, zMin2, itemsOf, Zz.listOfD, Tgs.len, List.map_cons, List.map_nil, List.length_cons, List.length_nil, List.replicate_succ, List.replicate_zero, List.cons_append, List.nil_append, List.append_nil, List.set_cons_zero, List.set_cons_succ, Nat.sub_self, Nat.reduceSub, Nat.reduceAdd, reduceIte, Bool.false_eq_true, zIx_t0, zIx_t1, zIx_t2, zIx_t3, Bool.not_true, Bool.not_false, G, ctr, cst, zIsi_int, zIsi_tup, zIsi_lst, zIsi_bl, isTy, Option.some.injEq, exists_eq_left', List.cons.injEq, D.int.injEq, and_true, true_and, exists_and_left, and_self, okd_int, eqD_int, zComp, zwipe, zIx_fr0, zIx_fr1, Bool.true_and, Bool.and_true, decide_eq_true_eq, and_assoc, zIx_pt0, zIx_pt1, zIx_lk0, zIx_lk1, FR_inj, PT_inj, lookD_inj, PA_inj, PAs_inj, okd_FR, eqD_FR, okd_PT, eqD_PT, zSl_tup, cutD_1, cutD_to1, D.tup.injEq, D.lst.injEq, D.ref.injEq, ne_eq, zSeq_asg, zSeq_iff, zSeq_ret, zSeq_retN, zSeq_expr, zSeq_next, zSeq_seq, zSeq_never, zSeq_whl, zSeq_for, zSeq_aug, zNext_nx, zEnds_nx, zEnds_rt]
      have hd : (r.den : Int) ≠ 0 := by exact_mod_cast r.den_nz
      have dr := dall r hr
      refine ⟨divOk_of hd (Nat.le_trans (d1400 r hr) (by decide)), mulOk (n1400 r hr) (n := 1511) ?_ (by decide), hK⟩
      rw [fdiv_nat]
      exact bdvd _ (Nat.dvd_trans (Nat.div_dvd_of_dvd dr) nd)
    · show (zEnds q).rt (.lst [.int (a.num * (n : Int).fdiv a.den), .int (b.num * (n : Int).fdiv b.den), .int (c.num * (n : Int).fdiv c.den)]) M
      rw [fdiv_nat, fdiv_nat, fdiv_nat]
      have bq : ∀ r : Rat, r.den ∣ n → intBits ((n / r.den : Nat) : Int) ≤ 1511 := fun r hr => bdvd _ (Nat.dvd_trans (Nat.div_dvd_of_dvd hr) nd)
      exact ⟨M, sub_refl, w n _ _ _ n0 (scale_ok da) (scale_ok db) (scale_ok dc) (bmul h1 (bq a da) (by decide)) (bmul h2 (bq b db) (by decide)) (bmul h3 (bq c dc) (by decide))⟩
theorem mom_of {m s : Rat} {x y z : Int} (hx : 0 < x) (hs : 0 ≤ s) (ey : (y : Rat) = -2 * m * x) (ez : (z : Rat) = (m * m - s) * x) : 0 ≤ y * y - 4 * x * z ∧ ∀ h : Nat, Rt (y * y - 4 * x * z).toNat h →
    IsMom m s (if (h : Int) * h = y * y - 4 * x * z then FR (Rat.divInt (h - y) (2 * x)) else .tup [.int (x / (Int.gcd (Int.gcd x y : Nat) z : Nat)), .int (y / (Int.gcd (Int.gcd x y : Nat) z : Nat)), .int (z / (Int.gcd (Int.gcd x y : Nat) z : Nat)), .int 1]) := by
  have hxr : (0 : Rat) < (x : Rat) := Rat.intCast_pos.mpr hx
  have hx0 : (x : Rat) ≠ 0 := Rat.ne_of_gt hxr
  have eu : ((y * y - 4 * x * z : Int) : Rat) = 4 * s * (x * x) := by
    rw [Rat.intCast_sub, Rat.intCast_mul, Rat.intCast_mul, Rat.intCast_mul, ey, ez]
    have : ((4 : Int) : Rat) = 4 := rfl
    rw [this]
    grind
  have hu : 0 ≤ y * y - 4 * x * z := by
    refine Rat.intCast_nonneg.mp ?_
    rw [eu]
    exact Rat.mul_nonneg (Rat.mul_nonneg (by decide) hs) (sq_nonneg _)
  refine ⟨hu, fun h hr => ?_⟩
  by_cases e : (h : Int) * h = y * y - 4 * x * z
  · rw [if_pos e]
    left
    have hh : ((h : Int) : Rat) * (h : Int) = 4 * s * (x * x) := by rw [← eu, ← e, Rat.intCast_mul]
    refine ⟨((h : Int) : Rat) / (2 * x), ?_, ?_, ?_⟩
    · rw [Rat.div_def]
      exact Rat.mul_nonneg (Rat.intCast_nonneg.mpr (Int.natCast_nonneg h)) (Rat.le_of_lt (Rat.inv_pos.mpr (Rat.mul_pos (by decide) hxr)))
    · generalize ((h : Int) : Rat) = hq at *
      generalize (x : Rat) = xq at *
      have : hq / (2 * xq) * (hq / (2 * xq)) = (hq * hq) / (4 * (xq * xq)) := by grind
      rw [this, hh]
      grind
    · congr 1
      rw [Rat.divInt_eq_div, Rat.intCast_sub, Rat.intCast_mul, ey]
      have : ((2 : Int) : Rat) = 2 := rfl
      rw [this]
      generalize ((h : Int) : Rat) = hq at *
      generalize (x : Rat) = xq at *
      grind
  · rw [if_neg e]
    right
    refine ⟨fun ⟨v, hv⟩ => e ?_, ?_⟩
    · refine rat_sq_int (v := 2 * v * x) ?_ hr
      rw [eu, ← hv]
      grind
    · obtain ⟨g0, e1, e2, e3, p0, pg⟩ := prim_of (b := y) (c := z) hx
      generalize ((Int.gcd (Int.gcd x y : Nat) z : Nat) : Int) = g at *
      have gr : (g : Rat) ≠ 0 := Rat.ne_of_gt (Rat.intCast_pos.mpr g0)
      refine ⟨x / g, y / g, z / g, p0, pg, ?_, ?_, rfl⟩
      · have h1 : (x : Rat) = (g : Rat) * ((x / g : Int) : Rat) := by rw [← Rat.intCast_mul, ← e1]
        have h2 : (y : Rat) = (g : Rat) * ((y / g : Int) : Rat) := by rw [← Rat.intCast_mul, ← e2]
        rw [h2, h1] at ey
        grind
      · have h1 : (x : Rat) = (g : Rat) * ((x / g : Int) : Rat) := by rw [← Rat.intCast_mul, ← e1]
        have h2 : (z : Rat) = (g : Rat) * ((z / g : Int) : Rat) := by rw [← Rat.intCast_mul, ← e3]
        rw [h2, h1] at ez
        grind
theorem p_moment_by : ∀ ds M q, c_root3 ds M q → rdCs G ir_moment_by (zEnds q) (zstart N_moment_by ds) M := by
  rintro ds M q ⟨a, b, c, rfl, m, s, ⟨a0, eb, ec, s0, h1, h2, h3, h4⟩, w⟩
  simp only [ir_moment_by, N_moment_by, c_scaled_up, c_moment_of_whole, zLst, rdCs, rdC, rd, rds, rdc, rdo, rdg, rdgs, rdi, rdAV, rdAT, rdOV, rdOT, ofV, mkT, testV, zVar, slot, zCst, zBin, zUn, zChain, zAndV, zOrV, zAndT, zOrT, zNotV, zNotT, zIte, zIteT, zTup, zTupS, zANil, zACons, zAStar, zCall, zCallK, zONone, zOSome, zSlice, zBitsD, zGName, zGTup_tup, zGTup_lst, zGTup_FR, zGsNil, zGsCons,  zSetD, zGItem, zISeq, zIRng, zIZip, zIEnum, zYes, zAugD, zstart, zOp, zAdd, zSub, zMul, zFdiv, zMod, zPow, zShl, zCo, zEq, zNe, zIntC, zIs, zIsn, Zz.isNon, zBi, zLen, zAbs, zNegD, zTru, zBl, zRgL, zInt1, zMax2, zMin2, itemsOf, Zz.listOfD, Tgs.len, List.map_cons, List.map_nil, List.length_cons, List.length_nil, List.replicate_succ, List.replicate_zero, List.cons_append, List.nil_append, List.append_nil, List.set_cons_zero, List.set_cons_succ, Nat.sub_self, Nat.reduceSub, Nat.reduceAdd, reduceIte, Bool.false_eq_true, zIx_t0, zIx_t1, zIx_t2, zIx_t3, Bool.not_true, Bool.not_false, G, ctr, cst, zIsi_int, zIsi_tup, zIsi_lst, zIsi_bl, isTy, Option.some.injEq, exists_eq_left', List.cons.injEq, D.int.injEq, and_true, true_and, exists_and_left, and_self, okd_int, eqD_int, zComp, zwipe, zIx_fr0, zIx_fr1, Bool.true_and, Bool.and_true, decide_eq_true_eq, and_assoc, zIx_pt0, zIx_pt1, zIx_lk0, zIx_lk1, FR_inj, PT_inj, lookD_inj, PA_inj, PAs_inj, okd_FR, eqD_FR, okd_PT, eqD_PT, zSl_tup, cutD_1, cutD_to1, D.tup.injEq, D.lst.injEq, D.ref.injEq, ne_eq, zSeq_asg, zSeq_iff, zSeq_ret, zSeq_retN, zSeq_expr, zSeq_next, zSeq_seq, zSeq_never, zSeq_whl, zSeq_for, zSeq_aug, zNext_nx, zEnds_nx, zEnds_rt]
  refine ⟨h1, h2, h3, h4, fun n x y z n0 ex ey ez b1 b2 b3 => ?_⟩
  have hx : 0 < x := by
    refine Rat.intCast_pos.mp ?_
    rw [ex]; exact Rat.mul_pos a0 (Rat.natCast_pos.mpr n0)
  have ey : (y : Rat) = -2 * m * x := by rw [ey, eb, ex, Rat.mul_assoc]
  have ez : (z : Rat) = (m * m - s) * x := by rw [ez, ec, ex, Rat.mul_assoc]
  obtain ⟨u0, hm⟩ := mom_of hx s0 ey ez
  exact ⟨hx, b1, b2, b3, u0, fun h hr => ⟨M, sub_refl, w _ (hm h hr)⟩⟩
theorem p_root_after : ∀ ds M q, c_root_after ds M q → rdCs G ir_root_after (zEnds q) (zstart N_root_after ds) M := by
  rintro ds M q ⟨m, s, rfl, ⟨h1, h2, h3⟩, w⟩
  simp only [ir_root_after, N_root_after, c_whole, c2, c_root3, rdCs, rdC, rd, rds, rdc, rdo, rdg, rdgs, rdi, rdAV, rdAT, rdOV, rdOT, ofV, mkT, testV, zVar, slot, zCst, zBin, zUn, zChain, zAndV, zOrV, zAndT, zOrT, zNotV, zNotT, zIte, zIteT, zTup, zTupS, zANil, zACons, zAStar, zCall, zCallK, zONone, zOSome, zSlice, zBitsD, zGName, zGTup_tup, zGTup_lst, zGTup_FR, zGsNil, zGsCons,  zSetD, zGItem, zISeq, zIRng, zIZip, zIEnum, zYes, zAugD, zstart, zOp, zAdd, zSub, zMul, zFdiv, zMod, zPow, zShl, zCo, zEq, zNe, zIntC, zIs, zIsn, Zz.isNon, zBi, zLen, zAbs, zNegD, zTru, zBl, zRgL, zInt1, zMax2, zMin2, itemsOf, Zz.listOfD, Tgs.len, List.map_cons, List.map_nil, List.length_cons, List.length_nil, List.replicate_succ, List.replicate_zero, List.cons_append, List.nil_append, List.append_nil, List.set_cons_zero, List.set_cons_succ, Nat.sub_self, Nat.reduceSub, Nat.reduceAdd, reduceIte, Bool.false_eq_true, zIx_t0, zIx_t1, zIx_t2, zIx_t3, Bool.not_true, Bool.not_false, G, ctr, cst, zIsi_int, zIsi_tup, zIsi_lst, zIsi_bl, isTy, Option.some.injEq, exists_eq_left', List.cons.injEq, D.int.injEq, and_true, true_and, exists_and_left, and_self, okd_int, eqD_int, zComp, zwipe, zIx_fr0, zIx_fr1, Bool.true_and, Bool.and_true, decide_eq_true_eq, and_assoc, zIx_pt0, zIx_pt1, zIx_lk0, zIx_lk1, FR_inj, PT_inj, lookD_inj, PA_inj, PAs_inj, okd_FR, eqD_FR, okd_PT, eqD_PT, zSl_tup, cutD_1, cutD_to1, D.tup.injEq, D.lst.injEq, D.ref.injEq, ne_eq, zSeq_asg, zSeq_iff, zSeq_ret, zSeq_retN, zSeq_expr, zSeq_next, zSeq_seq, zSeq_never, zSeq_whl, zSeq_for, zSeq_aug, zNext_nx, zEnds_nx, zEnds_rt]
  have e2 : ((-2 : Int) : Rat) = -2 := rfl
  have b2 := (⟨by decide, by decide⟩ : B 2 (-2)).mul h1
  have b3 := (h1.mul h1).sub h2
  refine ⟨⟨by decide, by decide⟩, h1.mono (by decide), h1.mono (by decide), h1.mono (by decide), (h1.mul h1).mono (by decide), h2.mono (by decide), 1, rfl, by decide, m, by rw [e2, Rat.mul_one], s, by rw [Rat.mul_one], h3, by decide, by rw [e2]; exact Nat.le_trans b2.n (by decide), Nat.le_trans b3.n (by decide), ?_, fun d hd => ⟨M, sub_refl, w d hd⟩⟩
  rw [e2, Int.natCast_mul, Int.natCast_mul]
  exact bmul (bmul (by decide : intBits (((1 : Rat).den : Nat) : Int) ≤ 1) b2.d (Nat.le_refl _)) b3.d (by decide)
theorem p_next_of : ∀ ds M q, c_next_of ds M q → rdCs G ir_next_of (zEnds q) (zstart N_next_of ds) M := by
  rintro ds M q ⟨t, p, v, l, x, rfl, h, w⟩
  simp only [ir_next_of, N_next_of, c_nearest_rim, c_root_after, c_over, c2, rdCs, rdC, rd, rds, rdc, rdo, rdg, rdgs, rdi, rdAV, rdAT, rdOV, rdOT, ofV, mkT, testV, zVar, slot, zCst, zBin, zUn, zChain, zAndV, zOrV, zAndT, zOrT, zNotV, zNotT, zIte, zIteT, zTup, zTupS, zANil, zACons, zAStar, zCall, zCallK, zONone, zOSome, zSlice, zBitsD, zGName, zGTup_tup, zGTup_lst, zGTup_FR, zGsNil, zGsCons,  zSetD, zGItem, zISeq, zIRng, zIZip, zIEnum, zYes, zAugD, zstart, zOp, zAdd, zSub, zMul, zFdiv, zMod, zPow, zShl, zCo, zEq, zNe, zIntC, zIs, zIsn, Zz.isNon, zBi, zLen, zAbs, zNegD, zTru, zBl, zRgL, zInt1, zMax2, zMin2, itemsOf, Zz.listOfD, Tgs.len, List.map_cons, List.map_nil, List.length_cons, List.length_nil, List.replicate_succ, List.replicate_zero, List.cons_append, List.nil_append, List.append_nil, List.set_cons_zero, List.set_cons_succ, Nat.sub_self, Nat.reduceSub, Nat.reduceAdd, reduceIte, Bool.false_eq_true, zIx_t0, zIx_t1, zIx_t2, zIx_t3, Bool.not_true, Bool.not_false, G, ctr, cst, zIsi_int, zIsi_tup, zIsi_lst, zIsi_bl, isTy, Option.some.injEq, exists_eq_left', List.cons.injEq, D.int.injEq, and_true, true_and, exists_and_left, and_self, okd_int, eqD_int, zComp, zwipe, zIx_fr0, zIx_fr1, Bool.true_and, Bool.and_true, decide_eq_true_eq, and_assoc, zIx_pt0, zIx_pt1, zIx_lk0, zIx_lk1, FR_inj, PT_inj, lookD_inj, PA_inj, PAs_inj, okd_FR, eqD_FR, okd_PT, eqD_PT, zSl_tup, cutD_1, cutD_to1, D.tup.injEq, D.lst.injEq, D.ref.injEq, ne_eq, zSeq_asg, zSeq_iff, zSeq_ret, zSeq_retN, zSeq_expr, zSeq_next, zSeq_seq, zSeq_never, zSeq_whl, zSeq_for, zSeq_aug, zNext_nx, zEnds_nx, zEnds_rt]
  have m8 : (8 : Nat) ≤ 4400 := by decide
  have bl := B_least h.bp h.gl
  have vv : v * v ≠ 0 := Rat.ne_of_gt (Rat.mul_pos h.vp h.vp)
  have bvv := h.bv.mul h.bv
  refine ⟨h.bp, h.gl, fun i s n hi => ⟨h.bt.mono m8, h.bw.mono m8, h.bv.mono m8, h.bv.mono m8, vv, bl.mono (by decide), bvv.mono (by decide), (h.bt.add h.bw).mono (by decide), (bl.div vv bvv).mono (by decide), ?_, fun d hd => ⟨M, sub_refl, w d hd⟩⟩⟩
  rw [Rat.div_def]
  exact Rat.mul_nonneg (least_nonneg h.gl) (Rat.le_of_lt (Rat.inv_pos.mpr (Rat.mul_pos h.vp h.vp)))
theorem p_next_look : ∀ ds M q, c_next_of ds M q → rdCs G ir_next_look (zEnds q) (zstart N_next_look ds) M := by
  rintro ds M q ⟨t, p, v, l, x, rfl, h, w⟩
  simp only [ir_next_look, N_next_look, c_check_asked, c_next_of, rdCs, rdC, rd, rds, rdc, rdo, rdg, rdgs, rdi, rdAV, rdAT, rdOV, rdOT, ofV, mkT, testV, zVar, slot, zCst, zBin, zUn, zChain, zAndV, zOrV, zAndT, zOrT, zNotV, zNotT, zIte, zIteT, zTup, zTupS, zANil, zACons, zAStar, zCall, zCallK, zONone, zOSome, zSlice, zBitsD, zGName, zGTup_tup, zGTup_lst, zGTup_FR, zGsNil, zGsCons,  zSetD, zGItem, zISeq, zIRng, zIZip, zIEnum, zYes, zAugD, zstart, zOp, zAdd, zSub, zMul, zFdiv, zMod, zPow, zShl, zCo, zEq, zNe, zIntC, zIs, zIsn, Zz.isNon, zBi, zLen, zAbs, zNegD, zTru, zBl, zRgL, zInt1, zMax2, zMin2, itemsOf, Zz.listOfD, Tgs.len, List.map_cons, List.map_nil, List.length_cons, List.length_nil, List.replicate_succ, List.replicate_zero, List.cons_append, List.nil_append, List.append_nil, List.set_cons_zero, List.set_cons_succ, Nat.sub_self, Nat.reduceSub, Nat.reduceAdd, reduceIte, Bool.false_eq_true, zIx_t0, zIx_t1, zIx_t2, zIx_t3, Bool.not_true, Bool.not_false, G, ctr, cst, zIsi_int, zIsi_tup, zIsi_lst, zIsi_bl, isTy, Option.some.injEq, exists_eq_left', List.cons.injEq, D.int.injEq, and_true, true_and, exists_and_left, and_self, okd_int, eqD_int, zComp, zwipe, zIx_fr0, zIx_fr1, Bool.true_and, Bool.and_true, decide_eq_true_eq, and_assoc, zIx_pt0, zIx_pt1, zIx_lk0, zIx_lk1, FR_inj, PT_inj, lookD_inj, PA_inj, PAs_inj, okd_FR, eqD_FR, okd_PT, eqD_PT, zSl_tup, cutD_1, cutD_to1, D.tup.injEq, D.lst.injEq, D.ref.injEq, ne_eq, zSeq_asg, zSeq_iff, zSeq_ret, zSeq_retN, zSeq_expr, zSeq_next, zSeq_seq, zSeq_never, zSeq_whl, zSeq_for, zSeq_aug, zNext_nx, zEnds_nx, zEnds_rt]
  exact ⟨h, h, fun d hd => ⟨M, sub_refl, w d hd⟩⟩
end K46
end
section
/-! K46f: the law's own numbers. -/
namespace K46
open PySem PySem.Spec PyProof.Rows L2 Zz
open PySem.Builtin.Int (intBits)

theorem p_law_common : ∀ ds M q, c_common ds M q → rdCs G ir__law_common (zEnds q) (zstart N__law_common ds) M := by
  rintro ds M q ⟨a, b, rfl, w⟩
  simp only [ir__law_common, N__law_common, rdCs, rdC, rd, rds, rdc, rdo, rdg, rdgs, rdi, rdAV, rdAT, rdOV, rdOT, ofV, mkT, testV, zVar, slot, zCst, zBin, zUn, zChain, zAndV, zOrV, zAndT, zOrT, zNotV, zNotT, zIte, zIteT, zTup, zTupS, zANil, zACons, zAStar, zCall, zCallK, zONone, zOSome, zSlice, zBitsD, zGName, zGTup_tup, zGTup_lst, zGTup_FR, zGsNil, zGsCons,  zSetD, zGItem, zISeq, zIRng, zIZip, zIEnum, zYes, zAugD, zstart, zOp, zAdd, zSub, zMul, zFdiv, zMod, zPow, zShl, zCo, zEq, zNe, zIntC, zIs, zIsn, Zz.isNon, zBi, zLen, zAbs, zNegD, zTru, zBl, zRgL, zInt1, zMax2, zMin2, itemsOf, Zz.listOfD, Tgs.len, List.map_cons, List.map_nil, List.length_cons, List.length_nil, List.replicate_succ, List.replicate_zero, List.cons_append, List.nil_append, List.append_nil, List.set_cons_zero, List.set_cons_succ, Nat.sub_self, Nat.reduceSub, Nat.reduceAdd, reduceIte, Bool.false_eq_true, zIx_t0, zIx_t1, zIx_t2, zIx_t3, Bool.not_true, Bool.not_false, G, ctr, cst, zIsi_int, zIsi_tup, zIsi_lst, zIsi_bl, isTy, Option.some.injEq, exists_eq_left', List.cons.injEq, D.int.injEq, and_true, true_and, exists_and_left, and_self, okd_int, eqD_int, zComp, zwipe, zIx_fr0, zIx_fr1, Bool.true_and, Bool.and_true, decide_eq_true_eq, and_assoc, zIx_pt0, zIx_pt1, zIx_lk0, zIx_lk1, FR_inj, PT_inj, lookD_inj, PA_inj, PAs_inj, okd_FR, eqD_FR, okd_PT, eqD_PT, zSl_tup, cutD_1, cutD_to1, D.tup.injEq, D.lst.injEq, D.ref.injEq, ne_eq, zSeq_asg, zSeq_iff, zSeq_ret, zSeq_retN, zSeq_expr, zSeq_next, zSeq_seq, zSeq_never, zSeq_whl, zSeq_for, zSeq_aug, zNext_nx, zEnds_nx, zEnds_rt]
  exact ⟨_, gcd_wh b.natAbs a.natAbs b.natAbs (Nat.le_refl _) ⟨M, sub_refl, w⟩⟩
theorem p_law_fraction : ∀ ds M q, c_fraction ds M q → rdCs G ir__law_fraction (zEnds q) (zstart N__law_fraction ds) M := by
  rintro ds M q ⟨a, b, rfl, ⟨h0, h1, h2⟩, w⟩
  simp only [ir__law_fraction, N__law_fraction, c_common, rdCs, rdC, rd, rds, rdc, rdo, rdg, rdgs, rdi, rdAV, rdAT, rdOV, rdOT, ofV, mkT, testV, zVar, slot, zCst, zBin, zUn, zChain, zAndV, zOrV, zAndT, zOrT, zNotV, zNotT, zIte, zIteT, zTup, zTupS, zANil, zACons, zAStar, zCall, zCallK, zONone, zOSome, zSlice, zBitsD, zGName, zGTup_tup, zGTup_lst, zGTup_FR, zGsNil, zGsCons,  zSetD, zGItem, zISeq, zIRng, zIZip, zIEnum, zYes, zAugD, zstart, zOp, zAdd, zSub, zMul, zFdiv, zMod, zPow, zShl, zCo, zEq, zNe, zIntC, zIs, zIsn, Zz.isNon, zBi, zLen, zAbs, zNegD, zTru, zBl, zRgL, zInt1, zMax2, zMin2, itemsOf, Zz.listOfD, Tgs.len, List.map_cons, List.map_nil, List.length_cons, List.length_nil, List.replicate_succ, List.replicate_zero, List.cons_append, List.nil_append, List.append_nil, List.set_cons_zero, List.set_cons_succ, Nat.sub_self, Nat.reduceSub, Nat.reduceAdd, reduceIte, Bool.false_eq_true, zIx_t0, zIx_t1, zIx_t2, zIx_t3, Bool.not_true, Bool.not_false, G, ctr, cst, zIsi_int, zIsi_tup, zIsi_lst, zIsi_bl, isTy, Option.some.injEq, exists_eq_left', List.cons.injEq, D.int.injEq, and_true, true_and, exists_and_left, and_self, okd_int, eqD_int, zComp, zwipe, zIx_fr0, zIx_fr1, Bool.true_and, Bool.and_true, decide_eq_true_eq, and_assoc, zIx_pt0, zIx_pt1, zIx_lk0, zIx_lk1, FR_inj, PT_inj, lookD_inj, PA_inj, PAs_inj, okd_FR, eqD_FR, okd_PT, eqD_PT, zSl_tup, cutD_1, cutD_to1, D.tup.injEq, D.lst.injEq, D.ref.injEq, ne_eq, zSeq_asg, zSeq_iff, zSeq_ret, zSeq_retN, zSeq_expr, zSeq_next, zSeq_seq, zSeq_never, zSeq_whl, zSeq_for, zSeq_aug, zNext_nx, zEnds_nx, zEnds_rt]
  have gb : intBits ((Int.gcd a b : Nat) : Int) ≤ 9000 := bits_le (by rw [Int.natAbs_natCast]; exact Nat.le_of_dvd (Int.natAbs_pos.mpr h0) (Nat.gcd_dvd_right a.natAbs b.natAbs)) h2
  have g0 : ((Int.gcd a b : Nat) : Int) ≠ 0 := by exact_mod_cast Nat.ne_of_gt (Int.gcd_pos_of_ne_zero_right _ h0)
  by_cases h : 0 < b
  · rw [if_pos h]
    refine ⟨divOk_of g0 gb, divOk_of g0 gb, M, sub_refl, ?_⟩
    rw [fr_parts a b h0 _ (by rw [if_pos h])]; exact w
  · rw [if_neg h]
    refine ⟨divOk_of g0 gb, divOk_of g0 gb, M, sub_refl, ?_⟩
    have hn : 0 < -b := by omega
    have := fr_parts (-a) (-b) (by omega) ((Int.gcd a b : Nat) : Int) (by rw [if_pos hn, Int.gcd_neg, Int.neg_gcd])
    rw [this, Rat.neg_divInt_neg]; exact w
theorem bin_wh {Z : ZEnds} {M : Mh} {n f : Nat} (bf : intBits (f : Int) ≤ 8000) (hq : ∀ r, Rt n r → ∀ x y, Z.nx [some (.int (n : Nat)), some (.int (r : Nat)), x, y] M) : ∀ (k lo hi : Nat), hi - lo ≤ k → lo < hi → hi ≤ f → lo * lo ≤ n → n < hi * hi → ∀ x,
    zWh (testV (zBin (zIntC fun i j => decide (j < i)) (zBin zSub (zVar 2) (zVar 1)) (zCst (D.int 1))))
        (zSeq (zAsg (zGName 3) (zBin zFdiv (zBin zAdd (zVar 1) (zVar 2)) (zCst (D.int 2))))
          (zSeq
            (zAsg (zGTup 2 (zGsCons (zGName 1) (zGsCons (zGName 2) zGsNil)))
              (zIte (testV (zBin (zIntC fun i j => decide (i ≤ j)) (zBin zMul (zVar 3) (zVar 3)) (zVar 0)))
                (zTup (zACons (zVar 3) (zACons (zVar 2) zANil))) (zTup (zACons (zVar 1) (zACons (zVar 3) zANil)))))
            zNext)) (k + 1) Z [some (.int (n : Nat)), some (.int (lo : Nat)), some (.int (hi : Nat)), x] M := by
  intro k
  induction k with
  | zero => intro lo hi h1 h2; omega
  | succ k ih =>
    intro lo hi h1 h2 h3 h4 h5 x
    unfold zWh
    simp only [rdCs, rdC, rd, rds, rdc, rdo, rdg, rdgs, rdi, rdAV, rdAT, rdOV, rdOT, ofV, mkT, testV, zVar, slot, zCst, zBin, zUn, zChain, zAndV, zOrV, zAndT, zOrT, zNotV, zNotT, zIte, zIteT, zTup, zTupS, zANil, zACons, zAStar, zCall, zCallK, zONone, zOSome, zSlice, zBitsD, zGName, zGTup_tup, zGTup_lst, zGTup_FR, zGsNil, zGsCons,  zSetD, zGItem, zISeq, zIRng, zIZip, zIEnum, zYes, zAugD, zstart, zOp, zAdd, zSub, zMul, zFdiv, zMod, zPow, zShl, zCo, zEq, zNe, zIntC, zIs, zIsn, Zz.isNon, zBi, zLen, zAbs, zNegD, zTru, zBl, zRgL, zInt1, zMax2, zMin2, itemsOf, Zz.listOfD, Tgs.len, List.map_cons, List.map_nil, List.length_cons, List.length_nil, List.replicate_succ, List.replicate_zero, List.cons_append, List.nil_append, List.append_nil, List.set_cons_zero, List.set_cons_succ, Nat.sub_self, Nat.reduceSub, Nat.reduceAdd, reduceIte, Bool.false_eq_true, zIx_t0, zIx_t1, zIx_t2, zIx_t3, Bool.not_true, Bool.not_false, G, ctr, cst, zIsi_int, zIsi_tup, zIsi_lst, zIsi_bl, isTy, Option.some.injEq, exists_eq_left', List.cons.injEq, D.int.injEq, and_true, true_and, exists_and_left, and_self, okd_int, eqD_int, zComp, zwipe, zIx_fr0, zIx_fr1, Bool.true_and, Bool.and_true, decide_eq_true_eq, and_assoc, zIx_pt0, zIx_pt1, zIx_lk0, zIx_lk1, FR_inj, PT_inj, lookD_inj, PA_inj, PAs_inj, okd_FR, eqD_FR, okd_PT, eqD_PT, zSl_tup, cutD_1, cutD_to1, D.tup.injEq, D.lst.injEq, D.ref.injEq, ne_eq, zSeq_asg, zSeq_iff, zSeq_ret, zSeq_retN, zSeq_expr, zSeq_next, zSeq_seq, zSeq_never, zSeq_whl, zSeq_for, zSeq_aug, zNext_nx, zEnds_nx, zEnds_rt]
    by_cases c : (1 : Int) < (hi : Int) - lo
    · rw [if_pos c]
      have em : ((lo : Int) + hi).fdiv 2 = (((lo + hi) / 2 : Nat) : Int) := by rw [← Int.natCast_add]; exact fdiv_nat (lo + hi) 2
      rw [em]
      have l1 : lo < (lo + hi) / 2 := by omega
      have l2 : (lo + hi) / 2 < hi := by omega
      generalize (lo + hi) / 2 = m at *
      have bm : intBits (m : Int) ≤ 8000 := bits_le (by rw [Int.natAbs_natCast, Int.natAbs_natCast]; omega) bf
      refine ⟨divOk_of (by decide) (by decide), mulOk bm bm (by decide), ?_⟩
      by_cases c2 : m * m ≤ n
      · rw [if_pos (by exact_mod_cast c2)]
        exact ih m hi (by omega) l2 h3 c2 h5 _
      · rw [if_neg (by intro z; exact c2 (by exact_mod_cast z))]
        exact ih lo m (by omega) l1 (by omega) h4 (by omega) _
    · rw [if_neg c]
      obtain rfl : hi = lo + 1 := by omega
      exact hq lo ⟨h4, h5⟩ _ _
theorem p_law_sign : ∀ ds M q, c_law_sign ds M q → rdCs G ir__law_sign (zEnds q) (zstart N__law_sign ds) M := by
  rintro ds M q ⟨i, rfl, w⟩
  simp only [ir__law_sign, N__law_sign, rdCs, rdC, rd, rds, rdc, rdo, rdg, rdgs, rdi, rdAV, rdAT, rdOV, rdOT, ofV, mkT, testV, zVar, slot, zCst, zBin, zUn, zChain, zAndV, zOrV, zAndT, zOrT, zNotV, zNotT, zIte, zIteT, zTup, zTupS, zANil, zACons, zAStar, zCall, zCallK, zONone, zOSome, zSlice, zBitsD, zGName, zGTup_tup, zGTup_lst, zGTup_FR, zGsNil, zGsCons,  zSetD, zGItem, zISeq, zIRng, zIZip, zIEnum, zYes, zAugD, zstart, zOp, zAdd, zSub, zMul, zFdiv, zMod, zPow, zShl, zCo, zEq, zNe, zIntC, zIs, zIsn, Zz.isNon, zBi, zLen, zAbs, zNegD, zTru, zBl, zRgL, zInt1, zMax2, zMin2, itemsOf, Zz.listOfD, Tgs.len, List.map_cons, List.map_nil, List.length_cons, List.length_nil, List.replicate_succ, List.replicate_zero, List.cons_append, List.nil_append, List.append_nil, List.set_cons_zero, List.set_cons_succ, Nat.sub_self, Nat.reduceSub, Nat.reduceAdd, reduceIte, Bool.false_eq_true, zIx_t0, zIx_t1, zIx_t2, zIx_t3, Bool.not_true, Bool.not_false, G, ctr, cst, zIsi_int, zIsi_tup, zIsi_lst, zIsi_bl, isTy, Option.some.injEq, exists_eq_left', List.cons.injEq, D.int.injEq, and_true, true_and, exists_and_left, and_self, okd_int, eqD_int, zComp, zwipe, zIx_fr0, zIx_fr1, Bool.true_and, Bool.and_true, decide_eq_true_eq, and_assoc, zIx_pt0, zIx_pt1, zIx_lk0, zIx_lk1, FR_inj, PT_inj, lookD_inj, PA_inj, PAs_inj, okd_FR, eqD_FR, okd_PT, eqD_PT, zSl_tup, cutD_1, cutD_to1, D.tup.injEq, D.lst.injEq, D.ref.injEq, ne_eq, zSeq_asg, zSeq_iff, zSeq_ret, zSeq_retN, zSeq_expr, zSeq_next, zSeq_seq, zSeq_never, zSeq_whl, zSeq_for, zSeq_aug, zNext_nx, zEnds_nx, zEnds_rt]
  exact ⟨M, sub_refl, w⟩
theorem p_law_plus : ∀ ds M q, c2 (· + ·) ds M q → rdCs G ir__law_plus (zEnds q) (zstart N__law_plus ds) M := by
  rintro ds M q ⟨r, s, rfl, ⟨h1, h2⟩, w⟩
  simp only [ir__law_plus, N__law_plus, c_fraction, rdCs, rdC, rd, rds, rdc, rdo, rdg, rdgs, rdi, rdAV, rdAT, rdOV, rdOT, ofV, mkT, testV, zVar, slot, zCst, zBin, zUn, zChain, zAndV, zOrV, zAndT, zOrT, zNotV, zNotT, zIte, zIteT, zTup, zTupS, zANil, zACons, zAStar, zCall, zCallK, zONone, zOSome, zSlice, zBitsD, zGName, zGTup_tup, zGTup_lst, zGTup_FR, zGsNil, zGsCons,  zSetD, zGItem, zISeq, zIRng, zIZip, zIEnum, zYes, zAugD, zstart, zOp, zAdd, zSub, zMul, zFdiv, zMod, zPow, zShl, zCo, zEq, zNe, zIntC, zIs, zIsn, Zz.isNon, zBi, zLen, zAbs, zNegD, zTru, zBl, zRgL, zInt1, zMax2, zMin2, itemsOf, Zz.listOfD, Tgs.len, List.map_cons, List.map_nil, List.length_cons, List.length_nil, List.replicate_succ, List.replicate_zero, List.cons_append, List.nil_append, List.append_nil, List.set_cons_zero, List.set_cons_succ, Nat.sub_self, Nat.reduceSub, Nat.reduceAdd, reduceIte, Bool.false_eq_true, zIx_t0, zIx_t1, zIx_t2, zIx_t3, Bool.not_true, Bool.not_false, G, ctr, cst, zIsi_int, zIsi_tup, zIsi_lst, zIsi_bl, isTy, Option.some.injEq, exists_eq_left', List.cons.injEq, D.int.injEq, and_true, true_and, exists_and_left, and_self, okd_int, eqD_int, zComp, zwipe, zIx_fr0, zIx_fr1, Bool.true_and, Bool.and_true, decide_eq_true_eq, and_assoc, zIx_pt0, zIx_pt1, zIx_lk0, zIx_lk1, FR_inj, PT_inj, lookD_inj, PA_inj, PAs_inj, okd_FR, eqD_FR, okd_PT, eqD_PT, zSl_tup, cutD_1, cutD_to1, D.tup.injEq, D.lst.injEq, D.ref.injEq, ne_eq, zSeq_asg, zSeq_iff, zSeq_ret, zSeq_retN, zSeq_expr, zSeq_next, zSeq_seq, zSeq_never, zSeq_whl, zSeq_for, zSeq_aug, zNext_nx, zEnds_nx, zEnds_rt]
  refine ⟨mulOk h1.n h2.d (by decide), mulOk h2.n h1.d (by decide), mulOk h1.d h2.d (by decide), den_mul r s, ?_, bmul h1.d h2.d (by decide), M, sub_refl, ?_⟩
  · exact badd (bmul h1.n h2.d (Nat.le_refl _)) (bmul h2.n h1.d (Nat.le_refl _)) (by decide)
  · rw [fr_add]; exact w
theorem p_law_minus : ∀ ds M q, c2 (· - ·) ds M q → rdCs G ir__law_minus (zEnds q) (zstart N__law_minus ds) M := by
  rintro ds M q ⟨r, s, rfl, ⟨h1, h2⟩, w⟩
  simp only [ir__law_minus, N__law_minus, c_fraction, rdCs, rdC, rd, rds, rdc, rdo, rdg, rdgs, rdi, rdAV, rdAT, rdOV, rdOT, ofV, mkT, testV, zVar, slot, zCst, zBin, zUn, zChain, zAndV, zOrV, zAndT, zOrT, zNotV, zNotT, zIte, zIteT, zTup, zTupS, zANil, zACons, zAStar, zCall, zCallK, zONone, zOSome, zSlice, zBitsD, zGName, zGTup_tup, zGTup_lst, zGTup_FR, zGsNil, zGsCons,  zSetD, zGItem, zISeq, zIRng, zIZip, zIEnum, zYes, zAugD, zstart, zOp, zAdd, zSub, zMul, zFdiv, zMod, zPow, zShl, zCo, zEq, zNe, zIntC, zIs, zIsn, Zz.isNon, zBi, zLen, zAbs, zNegD, zTru, zBl, zRgL, zInt1, zMax2, zMin2, itemsOf, Zz.listOfD, Tgs.len, List.map_cons, List.map_nil, List.length_cons, List.length_nil, List.replicate_succ, List.replicate_zero, List.cons_append, List.nil_append, List.append_nil, List.set_cons_zero, List.set_cons_succ, Nat.sub_self, Nat.reduceSub, Nat.reduceAdd, reduceIte, Bool.false_eq_true, zIx_t0, zIx_t1, zIx_t2, zIx_t3, Bool.not_true, Bool.not_false, G, ctr, cst, zIsi_int, zIsi_tup, zIsi_lst, zIsi_bl, isTy, Option.some.injEq, exists_eq_left', List.cons.injEq, D.int.injEq, and_true, true_and, exists_and_left, and_self, okd_int, eqD_int, zComp, zwipe, zIx_fr0, zIx_fr1, Bool.true_and, Bool.and_true, decide_eq_true_eq, and_assoc, zIx_pt0, zIx_pt1, zIx_lk0, zIx_lk1, FR_inj, PT_inj, lookD_inj, PA_inj, PAs_inj, okd_FR, eqD_FR, okd_PT, eqD_PT, zSl_tup, cutD_1, cutD_to1, D.tup.injEq, D.lst.injEq, D.ref.injEq, ne_eq, zSeq_asg, zSeq_iff, zSeq_ret, zSeq_retN, zSeq_expr, zSeq_next, zSeq_seq, zSeq_never, zSeq_whl, zSeq_for, zSeq_aug, zNext_nx, zEnds_nx, zEnds_rt]
  refine ⟨mulOk h1.n h2.d (by decide), mulOk h2.n h1.d (by decide), mulOk h1.d h2.d (by decide), den_mul r s, ?_, bmul h1.d h2.d (by decide), M, sub_refl, ?_⟩
  · exact bsub (bmul h1.n h2.d (Nat.le_refl _)) (bmul h2.n h1.d (Nat.le_refl _)) (by decide)
  · rw [fr_sub]; exact w
theorem p_law_product : ∀ ds M q, c2 (· * ·) ds M q → rdCs G ir__law_product (zEnds q) (zstart N__law_product ds) M := by
  rintro ds M q ⟨r, s, rfl, ⟨h1, h2⟩, w⟩
  simp only [ir__law_product, N__law_product, c_fraction, rdCs, rdC, rd, rds, rdc, rdo, rdg, rdgs, rdi, rdAV, rdAT, rdOV, rdOT, ofV, mkT, testV, zVar, slot, zCst, zBin, zUn, zChain, zAndV, zOrV, zAndT, zOrT, zNotV, zNotT, zIte, zIteT, zTup, zTupS, zANil, zACons, zAStar, zCall, zCallK, zONone, zOSome, zSlice, zBitsD, zGName, zGTup_tup, zGTup_lst, zGTup_FR, zGsNil, zGsCons,  zSetD, zGItem, zISeq, zIRng, zIZip, zIEnum, zYes, zAugD, zstart, zOp, zAdd, zSub, zMul, zFdiv, zMod, zPow, zShl, zCo, zEq, zNe, zIntC, zIs, zIsn, Zz.isNon, zBi, zLen, zAbs, zNegD, zTru, zBl, zRgL, zInt1, zMax2, zMin2, itemsOf, Zz.listOfD, Tgs.len, List.map_cons, List.map_nil, List.length_cons, List.length_nil, List.replicate_succ, List.replicate_zero, List.cons_append, List.nil_append, List.append_nil, List.set_cons_zero, List.set_cons_succ, Nat.sub_self, Nat.reduceSub, Nat.reduceAdd, reduceIte, Bool.false_eq_true, zIx_t0, zIx_t1, zIx_t2, zIx_t3, Bool.not_true, Bool.not_false, G, ctr, cst, zIsi_int, zIsi_tup, zIsi_lst, zIsi_bl, isTy, Option.some.injEq, exists_eq_left', List.cons.injEq, D.int.injEq, and_true, true_and, exists_and_left, and_self, okd_int, eqD_int, zComp, zwipe, zIx_fr0, zIx_fr1, Bool.true_and, Bool.and_true, decide_eq_true_eq, and_assoc, zIx_pt0, zIx_pt1, zIx_lk0, zIx_lk1, FR_inj, PT_inj, lookD_inj, PA_inj, PAs_inj, okd_FR, eqD_FR, okd_PT, eqD_PT, zSl_tup, cutD_1, cutD_to1, D.tup.injEq, D.lst.injEq, D.ref.injEq, ne_eq, zSeq_asg, zSeq_iff, zSeq_ret, zSeq_retN, zSeq_expr, zSeq_next, zSeq_seq, zSeq_never, zSeq_whl, zSeq_for, zSeq_aug, zNext_nx, zEnds_nx, zEnds_rt]
  refine ⟨mulOk h1.n h2.n (by decide), mulOk h1.d h2.d (by decide), den_mul r s, bmul h1.n h2.n (by decide), bmul h1.d h2.d (by decide), M, sub_refl, ?_⟩
  rw [fr_mul]; exact w
theorem p_law_at_most : ∀ ds M q, c_law_at_most ds M q → rdCs G ir__law_at_most (zEnds q) (zstart N__law_at_most ds) M := by
  rintro ds M q ⟨r, s, rfl, ⟨h1, h2⟩, w⟩
  simp only [ir__law_at_most, N__law_at_most, rdCs, rdC, rd, rds, rdc, rdo, rdg, rdgs, rdi, rdAV, rdAT, rdOV, rdOT, ofV, mkT, testV, zVar, slot, zCst, zBin, zUn, zChain, zAndV, zOrV, zAndT, zOrT, zNotV, zNotT, zIte, zIteT, zTup, zTupS, zANil, zACons, zAStar, zCall, zCallK, zONone, zOSome, zSlice, zBitsD, zGName, zGTup_tup, zGTup_lst, zGTup_FR, zGsNil, zGsCons,  zSetD, zGItem, zISeq, zIRng, zIZip, zIEnum, zYes, zAugD, zstart, zOp, zAdd, zSub, zMul, zFdiv, zMod, zPow, zShl, zCo, zEq, zNe, zIntC, zIs, zIsn, Zz.isNon, zBi, zLen, zAbs, zNegD, zTru, zBl, zRgL, zInt1, zMax2, zMin2, itemsOf, Zz.listOfD, Tgs.len, List.map_cons, List.map_nil, List.length_cons, List.length_nil, List.replicate_succ, List.replicate_zero, List.cons_append, List.nil_append, List.append_nil, List.set_cons_zero, List.set_cons_succ, Nat.sub_self, Nat.reduceSub, Nat.reduceAdd, reduceIte, Bool.false_eq_true, zIx_t0, zIx_t1, zIx_t2, zIx_t3, Bool.not_true, Bool.not_false, G, ctr, cst, zIsi_int, zIsi_tup, zIsi_lst, zIsi_bl, isTy, Option.some.injEq, exists_eq_left', List.cons.injEq, D.int.injEq, and_true, true_and, exists_and_left, and_self, okd_int, eqD_int, zComp, zwipe, zIx_fr0, zIx_fr1, Bool.true_and, Bool.and_true, decide_eq_true_eq, and_assoc, zIx_pt0, zIx_pt1, zIx_lk0, zIx_lk1, FR_inj, PT_inj, lookD_inj, PA_inj, PAs_inj, okd_FR, eqD_FR, okd_PT, eqD_PT, zSl_tup, cutD_1, cutD_to1, D.tup.injEq, D.lst.injEq, D.ref.injEq, ne_eq, zSeq_asg, zSeq_iff, zSeq_ret, zSeq_retN, zSeq_expr, zSeq_next, zSeq_seq, zSeq_never, zSeq_whl, zSeq_for, zSeq_aug, zNext_nx, zEnds_nx, zEnds_rt]
  refine ⟨mulOk h1.n h2.d (by decide), mulOk h2.n h1.d (by decide), M, sub_refl, ?_⟩
  have : decide (r.num * s.den ≤ s.num * r.den) = decide (r ≤ s) := decide_eq_decide.mpr (Rat.le_iff r s).symm
  rw [this]; exact w
theorem p_law_square_of : ∀ ds M q, c_square_of ds M q → rdCs G ir__law_square_of (zEnds q) (zstart N__law_square_of ds) M := by
  rintro ds M q ⟨a, b, rfl, ⟨h1, h2⟩, w⟩
  simp only [ir__law_square_of, N__law_square_of, c2, rdCs, rdC, rd, rds, rdc, rdo, rdg, rdgs, rdi, rdAV, rdAT, rdOV, rdOT, ofV, mkT, testV, zVar, slot, zCst, zBin, zUn, zChain, zAndV, zOrV, zAndT, zOrT, zNotV, zNotT, zIte, zIteT, zTup, zTupS, zANil, zACons, zAStar, zCall, zCallK, zONone, zOSome, zSlice, zBitsD, zGName, zGTup_tup, zGTup_lst, zGTup_FR, zGsNil, zGsCons,  zSetD, zGItem, zISeq, zIRng, zIZip, zIEnum, zYes, zAugD, zstart, zOp, zAdd, zSub, zMul, zFdiv, zMod, zPow, zShl, zCo, zEq, zNe, zIntC, zIs, zIsn, Zz.isNon, zBi, zLen, zAbs, zNegD, zTru, zBl, zRgL, zInt1, zMax2, zMin2, itemsOf, Zz.listOfD, Tgs.len, List.map_cons, List.map_nil, List.length_cons, List.length_nil, List.replicate_succ, List.replicate_zero, List.cons_append, List.nil_append, List.append_nil, List.set_cons_zero, List.set_cons_succ, Nat.sub_self, Nat.reduceSub, Nat.reduceAdd, reduceIte, Bool.false_eq_true, zIx_t0, zIx_t1, zIx_t2, zIx_t3, Bool.not_true, Bool.not_false, G, ctr, cst, zIsi_int, zIsi_tup, zIsi_lst, zIsi_bl, isTy, Option.some.injEq, exists_eq_left', List.cons.injEq, D.int.injEq, and_true, true_and, exists_and_left, and_self, okd_int, eqD_int, zComp, zwipe, zIx_fr0, zIx_fr1, Bool.true_and, Bool.and_true, decide_eq_true_eq, and_assoc, zIx_pt0, zIx_pt1, zIx_lk0, zIx_lk1, FR_inj, PT_inj, lookD_inj, PA_inj, PAs_inj, okd_FR, eqD_FR, okd_PT, eqD_PT, zSl_tup, cutD_1, cutD_to1, D.tup.injEq, D.lst.injEq, D.ref.injEq, ne_eq, zSeq_asg, zSeq_iff, zSeq_ret, zSeq_retN, zSeq_expr, zSeq_next, zSeq_seq, zSeq_never, zSeq_whl, zSeq_for, zSeq_aug, zNext_nx, zEnds_nx, zEnds_rt]
  have m : (450 : Nat) ≤ 4400 := by decide
  have x := h1.x.sub h2.x
  have y := h1.y.sub h2.y
  exact ⟨h1.x.mono m, h2.x.mono m, h1.y.mono m, h2.y.mono m, x.mono (by decide), x.mono (by decide), y.mono (by decide), y.mono (by decide), (x.mul x).mono (by decide), (y.mul y).mono (by decide), M, sub_refl, w⟩
end K46
end
section
/-! K46g: the law's sides and moments. -/
namespace K46
open PySem PySem.Spec PyProof.Rows L2 Zz
open PySem.Builtin.Int (intBits)

theorem momL {a b d r : Int} (hb : 0 < b) (hd : 0 ≤ d) (hr : 0 < r) {h : Nat} (hh : Rt d.toNat h) :
    IsMom ((a : Rat) / r) ((b : Rat) * b * d / (r * r)) (if (h : Int) * h = d then FR (Rat.divInt (a + b * h) r) else
      .tup [.int ((r * r) / (Int.gcd (Int.gcd (r * r) (-2 * a * r) : Nat) (a * a - b * b * d) : Nat)), .int ((-2 * a * r) / (Int.gcd (Int.gcd (r * r) (-2 * a * r) : Nat) (a * a - b * b * d) : Nat)), .int ((a * a - b * b * d) / (Int.gcd (Int.gcd (r * r) (-2 * a * r) : Nat) (a * a - b * b * d) : Nat)), .int 1]) := by
  have rr : (0 : Rat) < (r : Rat) := Rat.intCast_pos.mpr hr
  have r0 : (r : Rat) ≠ 0 := Rat.ne_of_gt rr
  have br : (0 : Rat) < (b : Rat) := Rat.intCast_pos.mpr hb
  have b0 : (b : Rat) ≠ 0 := Rat.ne_of_gt br
  by_cases e : (h : Int) * h = d
  · rw [if_pos e]
    left
    have hq : (d : Rat) = ((h : Int) : Rat) * ((h : Int) : Rat) := by rw [← e, Rat.intCast_mul]
    refine ⟨(b : Rat) * ((h : Int) : Rat) / r, ?_, ?_, ?_⟩
    · rw [Rat.div_def]
      exact Rat.mul_nonneg (Rat.mul_nonneg (Rat.le_of_lt br) (Rat.intCast_nonneg.mpr (Int.natCast_nonneg h))) (Rat.le_of_lt (Rat.inv_pos.mpr rr))
    · rw [hq]
      generalize ((h : Int) : Rat) = x at *
      generalize (r : Rat) = y at *
      generalize (b : Rat) = z at *
      grind
    · congr 1
      rw [Rat.divInt_eq_div, Rat.intCast_add, Rat.intCast_mul]
      generalize ((h : Int) : Rat) = x at *
      generalize (r : Rat) = y at *
      generalize (b : Rat) = z at *
      grind
  · rw [if_neg e]
    right
    refine ⟨fun ⟨v, hv⟩ => e ?_, ?_⟩
    · refine rat_sq_int (v := v * r / b) ?_ hh
      generalize (r : Rat) = y at *
      generalize (b : Rat) = z at *
      generalize (d : Rat) = w at *
      grind
    · have hp : 0 < r * r := Int.mul_pos hr hr
      obtain ⟨g0, e1, e2, e3, p0, pg⟩ := prim_of (b := -2 * a * r) (c := a * a - b * b * d) hp
      generalize ((Int.gcd (Int.gcd (r * r) (-2 * a * r) : Nat) (a * a - b * b * d) : Nat) : Int) = g at *
      have gr : (g : Rat) ≠ 0 := Rat.ne_of_gt (Rat.intCast_pos.mpr g0)
      refine ⟨_, _, _, p0, pg, ?_, ?_, rfl⟩
      · have h1 : (r : Rat) * r = (g : Rat) * ((r * r / g : Int) : Rat) := by rw [← Rat.intCast_mul g, ← e1, Rat.intCast_mul]
        have h2 : -2 * (a : Rat) * r = (g : Rat) * ((-2 * a * r / g : Int) : Rat) := by
          rw [← Rat.intCast_mul g, ← e2, Rat.intCast_mul, Rat.intCast_mul]; rfl
        generalize ((r * r / g : Int) : Rat) = x1 at *
        generalize ((-2 * a * r / g : Int) : Rat) = x2 at *
        generalize (r : Rat) = y at *
        generalize (g : Rat) = z at *
        generalize (a : Rat) = w at *
        grind
      · have h1 : (r : Rat) * r = (g : Rat) * ((r * r / g : Int) : Rat) := by rw [← Rat.intCast_mul g, ← e1, Rat.intCast_mul]
        have h2 : (a : Rat) * a - b * b * d = (g : Rat) * (((a * a - b * b * d) / g : Int) : Rat) := by
          rw [← Rat.intCast_mul g, ← e3, Rat.intCast_sub, Rat.intCast_mul, Rat.intCast_mul, Rat.intCast_mul]
        generalize ((r * r / g : Int) : Rat) = x1 at *
        generalize (((a * a - b * b * d) / g : Int) : Rat) = x2 at *
        generalize (r : Rat) = y at *
        generalize (g : Rat) = z at *
        generalize (a : Rat) = w at *
        generalize (b : Rat) = u at *
        generalize (d : Rat) = v at *
        grind
theorem sqd_swap (a b : P2) : sqd a b = dot (sub2 b a) (sub2 b a) := by
  unfold sqd dot sub2
  grind
theorem sqd_pos {a b : P2} (h : a ≠ b) : 0 < sqd a b := by
  rw [sqd_swap]
  refine Rat.lt_of_le_of_ne (Rat.add_nonneg (sq_nonneg _) (sq_nonneg _)) (fun e => dot_ne h e.symm)
theorem side_core {u v x y t : Rat} (h : t * (x * x + y * y) = x * u + y * v) : ((u - t * x) * (u - t * x) + (v - t * y) * (v - t * y)) * (x * x + y * y) = (x * v - y * u) * (x * v - y * u) := by
  grind
theorem side_eq {p a b : P2} (hab : a ≠ b) : sideSq p a b = if (b.1 - a.1) * (p.1 - a.1) + (b.2 - a.2) * (p.2 - a.2) ≤ 0 then sqd p a else
    if sqd a b < (b.1 - a.1) * (p.1 - a.1) + (b.2 - a.2) * (p.2 - a.2) then sqd p b else
      ((b.1 - a.1) * (p.2 - a.2) - (b.2 - a.2) * (p.1 - a.1)) * ((b.1 - a.1) * (p.2 - a.2) - (b.2 - a.2) * (p.1 - a.1)) / sqd a b := by
  have hL := sqd_pos hab
  have hL0 : sqd a b ≠ 0 := Rat.ne_of_gt hL
  have ea : dot (sub2 p a) (sub2 b a) = (b.1 - a.1) * (p.1 - a.1) + (b.2 - a.2) * (p.2 - a.2) := by unfold dot sub2; grind
  have ep : part p a b = ((b.1 - a.1) * (p.1 - a.1) + (b.2 - a.2) * (p.2 - a.2)) / sqd a b := by unfold part; rw [ea, ← sqd_swap]
  have eL : sqd a b = (b.1 - a.1) * (b.1 - a.1) + (b.2 - a.2) * (b.2 - a.2) := by unfold sqd dot sub2; grind
  generalize hal : (b.1 - a.1) * (p.1 - a.1) + (b.2 - a.2) * (p.2 - a.2) = al at *
  have ht : part p a b * sqd a b = al := by rw [ep]; exact Rat.div_mul_cancel hL0
  unfold sideSq near clamp
  generalize part p a b = t at *
  have t0 : t < 0 ↔ al < 0 := by rw [ep, Rat.div_lt_iff hL, Rat.zero_mul]
  have t1 : 1 < t ↔ sqd a b < al := by rw [ep, Rat.lt_div_iff hL, Rat.one_mul]
  by_cases c1 : al ≤ 0
  · rw [if_pos c1]
    have : (if t < 0 then (0 : Rat) else if 1 < t then 1 else t) = 0 := by
      by_cases c : t < 0
      · rw [if_pos c]
      · rw [if_neg c]
        have e0 : al = 0 := Rat.le_antisymm c1 (Rat.not_lt.mp (fun z => c (t0.mpr z)))
        have : t = 0 := by
          rw [e0] at ht
          exact (Rat.mul_eq_zero.mp ht).elim id (fun z => absurd z hL0)
        rw [this, if_neg (by decide)]
    rw [this]
    unfold sqd dot sub2 led2
    grind
  · rw [if_neg c1]
    have n0 : ¬ t < 0 := fun z => c1 (Rat.le_of_lt (t0.mp z))
    rw [if_neg n0]
    by_cases c2 : sqd a b < al
    · rw [if_pos c2, if_pos (t1.mpr c2)]
      unfold sqd dot sub2 led2
      grind
    · rw [if_neg c2, if_neg (fun z => c2 (t1.mp z))]
      rw [eL] at ht hL0 ⊢
      have := side_core (u := p.1 - a.1) (v := p.2 - a.2) (x := b.1 - a.1) (y := b.2 - a.2) (t := t) (by rw [ht, hal])
      rw [← this, Rat.mul_div_cancel hL0]
      unfold sqd dot sub2 led2
      grind
theorem fr_cross (c L : Rat) : Rat.divInt (c.num * c.num * L.den) (c.den * c.den * L.num) = c * c / L := by
  rw [Rat.div_def, Rat.inv_def, ← fr_mul c c, Rat.divInt_mul_divInt]
theorem p_law_to_side : ∀ ds M q, c_law_to_side ds M q → rdCs G ir__law_to_side (zEnds q) (zstart N__law_to_side ds) M := by
  rintro ds M q ⟨p, a, b, rfl, ⟨h1, h2, h3, h4⟩, w⟩
  simp only [ir__law_to_side, N__law_to_side, c2, c_square_of, c_law_at_most, c_fraction, rdCs, rdC, rd, rds, rdc, rdo, rdg, rdgs, rdi, rdAV, rdAT, rdOV, rdOT, ofV, mkT, testV, zVar, slot, zCst, zBin, zUn, zChain, zAndV, zOrV, zAndT, zOrT, zNotV, zNotT, zIte, zIteT, zTup, zTupS, zANil, zACons, zAStar, zCall, zCallK, zONone, zOSome, zSlice, zBitsD, zGName, zGTup_tup, zGTup_lst, zGTup_FR, zGsNil, zGsCons,  zSetD, zGItem, zISeq, zIRng, zIZip, zIEnum, zYes, zAugD, zstart, zOp, zAdd, zSub, zMul, zFdiv, zMod, zPow, zShl, zCo, zEq, zNe, zIntC, zIs, zIsn, Zz.isNon, zBi, zLen, zAbs, zNegD, zTru, zBl, zRgL, zInt1, zMax2, zMin2, itemsOf, Zz.listOfD, Tgs.len, List.map_cons, List.map_nil, List.length_cons, List.length_nil, List.replicate_succ, List.replicate_zero, List.cons_append, List.nil_append, List.append_nil, List.set_cons_zero, List.set_cons_succ, Nat.sub_self, Nat.reduceSub, Nat.reduceAdd, reduceIte, Bool.false_eq_true, zIx_t0, zIx_t1, zIx_t2, zIx_t3, Bool.not_true, Bool.not_false, G, ctr, cst, zIsi_int, zIsi_tup, zIsi_lst, zIsi_bl, isTy, Option.some.injEq, exists_eq_left', List.cons.injEq, D.int.injEq, and_true, true_and, exists_and_left, and_self, okd_int, eqD_int, zComp, zwipe, zIx_fr0, zIx_fr1, Bool.true_and, Bool.and_true, decide_eq_true_eq, and_assoc, zIx_pt0, zIx_pt1, zIx_lk0, zIx_lk1, FR_inj, PT_inj, lookD_inj, PA_inj, PAs_inj, okd_FR, eqD_FR, okd_PT, eqD_PT, zSl_tup, cutD_1, cutD_to1, D.tup.injEq, D.lst.injEq, D.ref.injEq, ne_eq, zSeq_asg, zSeq_iff, zSeq_ret, zSeq_retN, zSeq_expr, zSeq_next, zSeq_seq, zSeq_never, zSeq_whl, zSeq_for, zSeq_aug, zNext_nx, zEnds_nx, zEnds_rt]
  have m12 : (12 : Nat) ≤ 4400 := by decide
  have m24 : (24 : Nat) ≤ 4400 := by decide
  have bx := h3.x.sub h2.x
  have bY := h3.y.sub h2.y
  have px := h1.x.sub h2.x
  have py := h1.y.sub h2.y
  have m25 : (12 + 12 + 1 : Nat) ≤ 4400 := by decide
  have m37 : (24 + 12 + 1 : Nat) ≤ 4400 := by decide
  have bpp : BP 450 p := ⟨h1.x.mono (by decide), h1.y.mono (by decide)⟩
  have ba : BP 450 a := ⟨h2.x.mono (by decide), h2.y.mono (by decide)⟩
  have bb : BP 450 b := ⟨h3.x.mono (by decide), h3.y.mono (by decide)⟩
  have bal : B 125 ((b.1 - a.1) * (p.1 - a.1) + (b.2 - a.2) * (p.2 - a.2)) := (bx.mul px).add (bY.mul py)
  have bc : B 125 ((b.1 - a.1) * (p.2 - a.2) - (b.2 - a.2) * (p.1 - a.1)) := (bx.mul py).sub (bY.mul px)
  have bL : B 101 (sqd a b) := by
    rw [sqd_swap]
    exact (bx.mul bx).add (bY.mul bY)
  have hL0 : sqd a b ≠ 0 := Rat.ne_of_gt (sqd_pos h4)
  rw [side_eq h4] at w
  generalize (b.1 - a.1) * (p.1 - a.1) + (b.2 - a.2) * (p.2 - a.2) = al at *
  refine ⟨h3.x.mono m12, h2.x.mono m12, h3.y.mono m12, h2.y.mono m12, h1.x.mono m24, h2.x.mono m12, h1.y.mono m24, h2.y.mono m12, bx.mono m25, px.mono m37, bY.mono m25, py.mono m37, (bx.mul px).mono (by decide), (bY.mul py).mono (by decide), ba, bb, ?_⟩
  have hnum : al.num ≤ 0 ↔ al ≤ 0 := by
    have := num_pos (r := al)
    rw [← Rat.not_lt, ← this]; omega
  by_cases c1 : al ≤ 0
  · rw [if_pos c1] at w
    rw [if_pos (hnum.mpr c1)]
    exact ⟨bpp, ba, M, sub_refl, w⟩
  · rw [if_neg c1] at w
    rw [if_neg (fun z => c1 (hnum.mp z))]
    refine ⟨bal.mono (by decide), bL.mono (by decide), ?_⟩
    by_cases c2 : sqd a b < al
    · rw [if_pos c2] at w
      rw [if_pos (by rw [decide_eq_false (Rat.not_le.mpr c2)]; rfl)]
      exact ⟨bpp, bb, M, sub_refl, w⟩
    · rw [if_neg c2] at w
      rw [if_neg (by rw [decide_eq_true (Rat.not_lt.mp c2)]; decide)]
      have w1 := bx.mul py
      have w2 := bY.mul px
      generalize hcr : (b.1 - a.1) * (p.2 - a.2) - (b.2 - a.2) * (p.1 - a.1) = cr at *
      refine ⟨bx.mono m25, py.mono m37, bY.mono m25, px.mono m37, w1.mono (by decide), w2.mono (by decide), mulOk bc.n bc.n (by decide), mulOk (bmul bc.n bc.n (Nat.le_refl _)) bL.d (by decide), mulOk bc.d bc.d (by decide), mulOk (bmul bc.d bc.d (Nat.le_refl _)) bL.n (by decide), ?_, bmul (bmul bc.n bc.n (Nat.le_refl _)) bL.d (by decide), bmul (bmul bc.d bc.d (Nat.le_refl _)) bL.n (by decide), M, sub_refl, ?_⟩
      · intro e
        rcases Int.mul_eq_zero.mp e with e | e
        · exact den_mul cr cr e
        · exact hL0 (Rat.num_eq_zero.mp e)
      · rw [fr_cross]; exact w
theorem p_law_rim : ∀ ds M q, c_rim_distance ds M q → rdCs G ir__law_rim (zEnds q) (zstart N__law_rim ds) M := by
  rintro ds M q ⟨p, ps, rfl, ⟨h1, h2⟩, w⟩
  simp only [ir__law_rim, N__law_rim, c_law_at_most, c_law_to_side, rdCs, rdC, rd, rds, rdc, rdo, rdg, rdgs, rdi, rdAV, rdAT, rdOV, rdOT, ofV, mkT, testV, zVar, slot, zCst, zBin, zUn, zChain, zAndV, zOrV, zAndT, zOrT, zNotV, zNotT, zIte, zIteT, zTup, zTupS, zANil, zACons, zAStar, zCall, zCallK, zONone, zOSome, zSlice, zBitsD, zGName, zGTup_tup, zGTup_lst, zGTup_FR, zGsNil, zGsCons,  zSetD, zGItem, zISeq, zIRng, zIZip, zIEnum, zYes, zAugD, zstart, zOp, zAdd, zSub, zMul, zFdiv, zMod, zPow, zShl, zCo, zEq, zNe, zIntC, zIs, zIsn, Zz.isNon, zBi, zLen, zAbs, zNegD, zTru, zBl, zRgL, zInt1, zMax2, zMin2, itemsOf, Zz.listOfD, Tgs.len, List.map_cons, List.map_nil, List.length_cons, List.length_nil, List.replicate_succ, List.replicate_zero, List.cons_append, List.nil_append, List.append_nil, List.set_cons_zero, List.set_cons_succ, Nat.sub_self, Nat.reduceSub, Nat.reduceAdd, reduceIte, Bool.false_eq_true, zIx_t0, zIx_t1, zIx_t2, zIx_t3, Bool.not_true, Bool.not_false, G, ctr, cst, zIsi_int, zIsi_tup, zIsi_lst, zIsi_bl, isTy, Option.some.injEq, exists_eq_left', List.cons.injEq, D.int.injEq, and_true, true_and, exists_and_left, and_self, okd_int, eqD_int, zComp, zwipe, zIx_fr0, zIx_fr1, Bool.true_and, Bool.and_true, decide_eq_true_eq, and_assoc, zIx_pt0, zIx_pt1, zIx_lk0, zIx_lk1, FR_inj, PT_inj, lookD_inj, PA_inj, PAs_inj, okd_FR, eqD_FR, okd_PT, eqD_PT, zSl_tup, cutD_1, cutD_to1, D.tup.injEq, D.lst.injEq, D.ref.injEq, ne_eq, zSeq_asg, zSeq_iff, zSeq_ret, zSeq_retN, zSeq_expr, zSeq_next, zSeq_seq, zSeq_never, kSeq_whl, kSeq_for, zSeq_aug, zNext_nx, zEnds_nx, zEnds_rt]
  show zSl (.tup (ps.map PT)) (some 1) none M _
  rw [zSl_tup, cutD_1]
  show zSl (.tup (ps.map PT)) none (some 1) M _
  rw [zSl_tup, cutD_to1]
  have hne : ps ≠ [] := by intro e; have := h2.l3; rw [e] at this; simp at this
  refine ⟨?_, ?_⟩
  · have := h2.l8
    rw [List.length_drop, List.length_take, List.length_map]
    have : (16 : Nat) ≤ sizeLine := by decide
    omega
  show zLoop _ _ (zipD (ps.map PT) ((ps.map PT).drop 1 ++ (ps.map PT).take 1)) _ _ M
  rw [← List.map_drop, ← List.map_take, ← List.map_append, zipD_map]
  show zLoop _ _ ((sides ps).map fun s => .tup [PT s.1, PT s.2]) _ _ M
  refine zLoop_fold (fun s : P2 × P2 => .tup [PT s.1, PT s.2]) (fun (c : Option Rat) s => ∃ x3 x4 x5, match c with
      | none => s = [some (PT p), some (PA ps), some D.non, x3, x4, x5]
      | some r => s = [some (PT p), some (PA ps), some (FR r), x3, x4, x5] ∧ B 1157 r) (fun c s => lstep c (sideSq p s.1 s.2)) M (sides ps) ?_ none _ ⟨none, none, none, rfl⟩ ?_
  · rintro ⟨a, b⟩ hs c s k ⟨x3, x4, x5, hc⟩ hk
    obtain ⟨a1, a2, a3⟩ := sides_ok h2 hs
    have bs := B_side h1 a1 a2 a3
    cases c with
    | none =>
      have hc : s = [some (PT p), some (PA ps), some D.non, x3, x4, x5] := hc
      subst hc
      simp only [c_law_at_most, c_law_to_side, rdCs, rdC, rd, rds, rdc, rdo, rdg, rdgs, rdi, rdAV, rdAT, rdOV, rdOT, ofV, mkT, testV, zVar, slot, zCst, zBin, zUn, zChain, zAndV, zOrV, zAndT, zOrT, zNotV, zNotT, zIte, zIteT, zTup, zTupS, zANil, zACons, zAStar, zCall, zCallK, zONone, zOSome, zSlice, zBitsD, zGName, zGTup_tup, zGTup_lst, zGTup_FR, zGsNil, zGsCons,  zSetD, zGItem, zISeq, zIRng, zIZip, zIEnum, zYes, zAugD, zstart, zOp, zAdd, zSub, zMul, zFdiv, zMod, zPow, zShl, zCo, zEq, zNe, zIntC, zIs, zIsn, Zz.isNon, zBi, zLen, zAbs, zNegD, zTru, zBl, zRgL, zInt1, zMax2, zMin2, itemsOf, Zz.listOfD, Tgs.len, List.map_cons, List.map_nil, List.length_cons, List.length_nil, List.replicate_succ, List.replicate_zero, List.cons_append, List.nil_append, List.append_nil, List.set_cons_zero, List.set_cons_succ, Nat.sub_self, Nat.reduceSub, Nat.reduceAdd, reduceIte, Bool.false_eq_true, zIx_t0, zIx_t1, zIx_t2, zIx_t3, Bool.not_true, Bool.not_false, G, ctr, cst, zIsi_int, zIsi_tup, zIsi_lst, zIsi_bl, isTy, Option.some.injEq, exists_eq_left', List.cons.injEq, D.int.injEq, and_true, true_and, exists_and_left, and_self, okd_int, eqD_int, zComp, zwipe, zIx_fr0, zIx_fr1, Bool.true_and, Bool.and_true, decide_eq_true_eq, and_assoc, zIx_pt0, zIx_pt1, zIx_lk0, zIx_lk1, FR_inj, PT_inj, lookD_inj, PA_inj, PAs_inj, okd_FR, eqD_FR, okd_PT, eqD_PT, zSl_tup, cutD_1, cutD_to1, D.tup.injEq, D.lst.injEq, D.ref.injEq, ne_eq, zSeq_asg, zSeq_iff, zSeq_ret, zSeq_retN, zSeq_expr, zSeq_next, zSeq_seq, zSeq_never, zSeq_whl, zSeq_for, zSeq_aug, zNext_nx, zEnds_nx, zEnds_rt]
      exact ⟨h1, a1, a2, a3, hk _ ⟨_, _, _, rfl, bs⟩⟩
    | some r =>
      obtain ⟨rfl, br⟩ := hc
      simp only [c_law_at_most, c_law_to_side, rdCs, rdC, rd, rds, rdc, rdo, rdg, rdgs, rdi, rdAV, rdAT, rdOV, rdOT, ofV, mkT, testV, zVar, slot, zCst, zBin, zUn, zChain, zAndV, zOrV, zAndT, zOrT, zNotV, zNotT, zIte, zIteT, zTup, zTupS, zANil, zACons, zAStar, zCall, zCallK, zONone, zOSome, zSlice, zBitsD, zGName, zGTup_tup, zGTup_lst, zGTup_FR, zGsNil, zGsCons,  zSetD, zGItem, zISeq, zIRng, zIZip, zIEnum, zYes, zAugD, zstart, zOp, zAdd, zSub, zMul, zFdiv, zMod, zPow, zShl, zCo, zEq, zNe, zIntC, zIs, zIsn, Zz.isNon, zBi, zLen, zAbs, zNegD, zTru, zBl, zRgL, zInt1, zMax2, zMin2, itemsOf, Zz.listOfD, Tgs.len, List.map_cons, List.map_nil, List.length_cons, List.length_nil, List.replicate_succ, List.replicate_zero, List.cons_append, List.nil_append, List.append_nil, List.set_cons_zero, List.set_cons_succ, Nat.sub_self, Nat.reduceSub, Nat.reduceAdd, reduceIte, Bool.false_eq_true, zIx_t0, zIx_t1, zIx_t2, zIx_t3, Bool.not_true, Bool.not_false, G, ctr, cst, zIsi_int, zIsi_tup, zIsi_lst, zIsi_bl, isTy, Option.some.injEq, exists_eq_left', List.cons.injEq, D.int.injEq, and_true, true_and, exists_and_left, and_self, okd_int, eqD_int, zComp, zwipe, zIx_fr0, zIx_fr1, Bool.true_and, Bool.and_true, decide_eq_true_eq, and_assoc, zIx_pt0, zIx_pt1, zIx_lk0, zIx_lk1, FR_inj, PT_inj, lookD_inj, PA_inj, PAs_inj, okd_FR, eqD_FR, okd_PT, eqD_PT, zSl_tup, cutD_1, cutD_to1, D.tup.injEq, D.lst.injEq, D.ref.injEq, ne_eq, zSeq_asg, zSeq_iff, zSeq_ret, zSeq_retN, zSeq_expr, zSeq_next, zSeq_seq, zSeq_never, zSeq_whl, zSeq_for, zSeq_aug, zNext_nx, zEnds_nx, zEnds_rt]
      refine ⟨h1, a1, a2, a3, ?_⟩
      show (if (false = true) then _ else _)
      rw [if_neg (by decide)]
      refine ⟨B.mono bs (by decide), br.mono (by decide), ?_⟩
      by_cases c : sideSq p a b ≤ r
      · rw [if_pos c]
        have e : lstep (some r) (sideSq p (a, b).1 (a, b).2) = some (sideSq p a b) := by
          show (if sideSq p a b < r then some (sideSq p a b) else some r) = _
          by_cases c2 : sideSq p a b < r
          · rw [if_pos c2]
          · rw [if_neg c2, Rat.le_antisymm c (Rat.not_lt.mp c2)]
        rw [e] at hk
        exact hk _ ⟨_, _, _, rfl, bs⟩
      · rw [if_neg c]
        have e : lstep (some r) (sideSq p (a, b).1 (a, b).2) = some r := if_neg fun z => c (Rat.le_of_lt z)
        rw [e] at hk
        exact hk _ ⟨_, _, _, rfl, br⟩
  · intro s' h
    have e : (sides ps).foldl (fun c s => lstep c (sideSq p s.1 s.2)) none = some (rimSq p ps) := by
      have := lfold (xs := (sides ps).map fun s => sideSq p s.1 s.2) (by
        intro e
        exact sides_ne_nil hne (List.map_eq_nil_iff.mp e))
      rw [List.foldl_map] at this
      exact this
    rw [e] at h
    obtain ⟨x3, x4, x5, rfl, _⟩ := h
    simp only [kont, rdCs, rdC, rd, rds, rdc, rdo, rdg, rdgs, rdi, rdAV, rdAT, rdOV, rdOT, ofV, mkT, testV, zVar, slot, zCst, zBin, zUn, zChain, zAndV, zOrV, zAndT, zOrT, zNotV, zNotT, zIte, zIteT, zTup, zTupS, zANil, zACons, zAStar, zCall, zCallK, zONone, zOSome, zSlice, zBitsD, zGName, zGTup_tup, zGTup_lst, zGTup_FR, zGsNil, zGsCons,  zSetD, zGItem, zISeq, zIRng, zIZip, zIEnum, zYes, zAugD, zstart, zOp, zAdd, zSub, zMul, zFdiv, zMod, zPow, zShl, zCo, zEq, zNe, zIntC, zIs, zIsn, Zz.isNon, zBi, zLen, zAbs, zNegD, zTru, zBl, zRgL, zInt1, zMax2, zMin2, itemsOf, Zz.listOfD, Tgs.len, List.map_cons, List.map_nil, List.length_cons, List.length_nil, List.replicate_succ, List.replicate_zero, List.cons_append, List.nil_append, List.append_nil, List.set_cons_zero, List.set_cons_succ, Nat.sub_self, Nat.reduceSub, Nat.reduceAdd, reduceIte, Bool.false_eq_true, zIx_t0, zIx_t1, zIx_t2, zIx_t3, Bool.not_true, Bool.not_false, G, ctr, cst, zIsi_int, zIsi_tup, zIsi_lst, zIsi_bl, isTy, Option.some.injEq, exists_eq_left', List.cons.injEq, D.int.injEq, and_true, true_and, exists_and_left, and_self, okd_int, eqD_int, zComp, zwipe, zIx_fr0, zIx_fr1, Bool.true_and, Bool.and_true, decide_eq_true_eq, and_assoc, zIx_pt0, zIx_pt1, zIx_lk0, zIx_lk1, FR_inj, PT_inj, lookD_inj, PA_inj, PAs_inj, okd_FR, eqD_FR, okd_PT, eqD_PT, zSl_tup, cutD_1, cutD_to1, D.tup.injEq, D.lst.injEq, D.ref.injEq, ne_eq, zSeq_asg, zSeq_iff, zSeq_ret, zSeq_retN, zSeq_expr, zSeq_next, zSeq_seq, zSeq_never, zSeq_whl, zSeq_for, zSeq_aug, zNext_nx, zEnds_nx, zEnds_rt]
    exact ⟨M, sub_refl, w⟩
def mstep (r x : Rat) : Rat := if x ≤ r then x else r
theorem mfold : ∀ (xs : List Rat) (r : Rat), xs.foldl mstep r = least (r :: xs)
  | [], r => by simp [least]
  | x :: xs, r => by
    have := lfold_some (x :: xs) r
    rw [List.foldl_cons] at this
    have e : lstep (some r) x = some (mstep r x) := by
      unfold mstep
      show (if x < r then some x else some r) = _
      by_cases c : x < r
      · rw [if_pos c, if_pos (Rat.le_of_lt c)]
      · rw [if_neg c]
        by_cases c2 : x ≤ r
        · rw [if_pos c2, Rat.le_antisymm c2 (Rat.not_lt.mp c)]
        · rw [if_neg c2]
    rw [e, lfold_some] at this
    rw [List.foldl_cons, mfold xs]
    exact Option.some.inj this
theorem least_dup (x : Rat) (r : List Rat) : least (x :: x :: r) = least (x :: r) := by
  obtain ⟨h1, h2⟩ := least_spec x r
  refine least_eq (List.mem_cons_of_mem _ h1) fun y hy => ?_
  rcases List.mem_cons.mp hy with e | hy
  · rw [e]; exact h2 x List.mem_cons_self
  · exact h2 y hy
theorem p_law_latest : ∀ ds M q, c_law_latest ds M q → rdCs G ir__law_latest (zEnds q) (zstart N__law_latest ds) M := by
  rintro ds M q ⟨t, p, v, l, x, rfl, h, w⟩
  simp only [ir__law_latest, N__law_latest, c_law_at_most, rdCs, rdC, rd, rds, rdc, rdo, rdg, rdgs, rdi, rdAV, rdAT, rdOV, rdOT, ofV, mkT, testV, zVar, slot, zCst, zBin, zUn, zChain, zAndV, zOrV, zAndT, zOrT, zNotV, zNotT, zIte, zIteT, zTup, zTupS, zANil, zACons, zAStar, zCall, zCallK, zONone, zOSome, zSlice, zBitsD, zGName, zGTup_tup, zGTup_lst, zGTup_FR, zGsNil, zGsCons,  zSetD, zGItem, zISeq, zIRng, zIZip, zIEnum, zYes, zAugD, zstart, zOp, zAdd, zSub, zMul, zFdiv, zMod, zPow, zShl, zCo, zEq, zNe, zIntC, zIs, zIsn, Zz.isNon, zBi, zLen, zAbs, zNegD, zTru, zBl, zRgL, zInt1, zMax2, zMin2, itemsOf, Zz.listOfD, Tgs.len, List.map_cons, List.map_nil, List.length_cons, List.length_nil, List.replicate_succ, List.replicate_zero, List.cons_append, List.nil_append, List.append_nil, List.set_cons_zero, List.set_cons_succ, Nat.sub_self, Nat.reduceSub, Nat.reduceAdd, reduceIte, Bool.false_eq_true, zIx_t0, zIx_t1, zIx_t2, zIx_t3, Bool.not_true, Bool.not_false, G, ctr, cst, zIsi_int, zIsi_tup, zIsi_lst, zIsi_bl, isTy, Option.some.injEq, exists_eq_left', List.cons.injEq, D.int.injEq, and_true, true_and, exists_and_left, and_self, okd_int, eqD_int, zComp, zwipe, zIx_fr0, zIx_fr1, Bool.true_and, Bool.and_true, decide_eq_true_eq, and_assoc, zIx_pt0, zIx_pt1, zIx_lk0, zIx_lk1, FR_inj, PT_inj, lookD_inj, PA_inj, PAs_inj, okd_FR, eqD_FR, okd_PT, eqD_PT, zSl_tup, cutD_1, cutD_to1, D.tup.injEq, D.lst.injEq, D.ref.injEq, ne_eq, zSeq_asg, zSeq_iff, zSeq_ret, zSeq_retN, zSeq_expr, zSeq_next, zSeq_seq, zSeq_never, kSeq_whl, kSeq_for, zSeq_aug, zNext_nx, zEnds_nx, zEnds_rt]
  have bt : B 17 (t + x) := h.bt.add h.bw
  have bl := B_least h.bp h.gl
  obtain ⟨j, _, hj⟩ := ifold (squares_ne (p := p) h.gl)
  have w := w j hj
  show ∀ a, M a = none → zTurns _ _ _ _ _ (l.map PA) _ _ _
  intro a ha
  refine turns_mapA (fun ps => FR (rimSq p ps)) ha (by have := h.gl.l6; exact Nat.le_trans this (by decide)) (fun ps hps M' K hK => ?_) ?_
  · simp only [c_rim_distance, rdCs, rdC, rd, rds, rdc, rdo, rdg, rdgs, rdi, rdAV, rdAT, rdOV, rdOT, ofV, mkT, testV, zVar, slot, zCst, zBin, zUn, zChain, zAndV, zOrV, zAndT, zOrT, zNotV, zNotT, zIte, zIteT, zTup, zTupS, zANil, zACons, zAStar, zCall, zCallK, zONone, zOSome, zSlice, zBitsD, zGName, zGTup_tup, zGTup_lst, zGTup_FR, zGsNil, zGsCons,  zSetD, zGItem, zISeq, zIRng, zIZip, zIEnum, zYes, zAugD, zstart, zOp, zAdd, zSub, zMul, zFdiv, zMod, zPow, zShl, zCo, zEq, zNe, zIntC, zIs, zIsn, Zz.isNon, zBi, zLen, zAbs, zNegD, zTru, zBl, zRgL, zInt1, zMax2, zMin2, itemsOf, Zz.listOfD, Tgs.len, List.map_cons, List.map_nil, List.length_cons, List.length_nil, List.replicate_succ, List.replicate_zero, List.cons_append, List.nil_append, List.append_nil, List.set_cons_zero, List.set_cons_succ, Nat.sub_self, Nat.reduceSub, Nat.reduceAdd, reduceIte, Bool.false_eq_true, zIx_t0, zIx_t1, zIx_t2, zIx_t3, Bool.not_true, Bool.not_false, G, ctr, cst, zIsi_int, zIsi_tup, zIsi_lst, zIsi_bl, isTy, Option.some.injEq, exists_eq_left', List.cons.injEq, D.int.injEq, and_true, true_and, exists_and_left, and_self, okd_int, eqD_int, zComp, zwipe, zIx_fr0, zIx_fr1, Bool.true_and, Bool.and_true, decide_eq_true_eq, and_assoc, zIx_pt0, zIx_pt1, zIx_lk0, zIx_lk1, FR_inj, PT_inj, lookD_inj, PA_inj, PAs_inj, okd_FR, eqD_FR, okd_PT, eqD_PT, zSl_tup, cutD_1, cutD_to1, D.tup.injEq, D.lst.injEq, D.ref.injEq, ne_eq, zSeq_asg, zSeq_iff, zSeq_ret, zSeq_retN, zSeq_expr, zSeq_next, zSeq_seq, zSeq_never, zSeq_whl, zSeq_for, zSeq_aug, zNext_nx, zEnds_nx, zEnds_rt]
    exact ⟨h.bp, h.gl.good ps hps, hK⟩
  have es : l.map (fun ps => FR (rimSq p ps)) = (squares p l).map FR := by unfold squares; rw [List.map_map]; rfl
  rw [es]
  have bsq : ∀ y ∈ squares p l, B 1157 y := fun y hy => by
    obtain ⟨ps, hps, e⟩ := List.mem_map.mp hy
    rw [← e]
    exact B_rim h.bp (h.gl.good ps hps)
  have lsq : (squares p l).length ≤ 6 := by unfold squares; rw [List.length_map]; exact h.gl.l6
  have nsq := squares_ne (p := p) h.gl
  generalize squares p l = sq at *
  obtain ⟨y, r, rfl⟩ : ∃ y r, sq = y :: r := by
    cases sq with
    | nil => exact absurd rfl nsq
    | cons y r => exact ⟨y, r, rfl⟩
  refine ⟨_, rfl, FR y, at0, ?_⟩
  show zLoop _ _ ((y :: r).map FR) _ _ M
  refine zLoop_fold FR (fun (m : Rat) s => ∃ x5 x7, s = [some (lookD t p), some (FR v), some (PAs l), some (FR x), some (.lst ((y :: r).map FR)), x5, some (FR m), x7, none, none, none, none, none, none] ∧ B 1157 m) mstep M (y :: r) ?_ y _ ⟨none, none, rfl, bsq y List.mem_cons_self⟩ ?_
  · rintro u hu m s k ⟨x5, x7, rfl, bm⟩ hk
    have bu := bsq u hu
    simp only [c_law_at_most, rdCs, rdC, rd, rds, rdc, rdo, rdg, rdgs, rdi, rdAV, rdAT, rdOV, rdOT, ofV, mkT, testV, zVar, slot, zCst, zBin, zUn, zChain, zAndV, zOrV, zAndT, zOrT, zNotV, zNotT, zIte, zIteT, zTup, zTupS, zANil, zACons, zAStar, zCall, zCallK, zONone, zOSome, zSlice, zBitsD, zGName, zGTup_tup, zGTup_lst, zGTup_FR, zGsNil, zGsCons,  zSetD, zGItem, zISeq, zIRng, zIZip, zIEnum, zYes, zAugD, zstart, zOp, zAdd, zSub, zMul, zFdiv, zMod, zPow, zShl, zCo, zEq, zNe, zIntC, zIs, zIsn, Zz.isNon, zBi, zLen, zAbs, zNegD, zTru, zBl, zRgL, zInt1, zMax2, zMin2, itemsOf, Zz.listOfD, Tgs.len, List.map_cons, List.map_nil, List.length_cons, List.length_nil, List.replicate_succ, List.replicate_zero, List.cons_append, List.nil_append, List.append_nil, List.set_cons_zero, List.set_cons_succ, Nat.sub_self, Nat.reduceSub, Nat.reduceAdd, reduceIte, Bool.false_eq_true, zIx_t0, zIx_t1, zIx_t2, zIx_t3, Bool.not_true, Bool.not_false, G, ctr, cst, zIsi_int, zIsi_tup, zIsi_lst, zIsi_bl, isTy, Option.some.injEq, exists_eq_left', List.cons.injEq, D.int.injEq, and_true, true_and, exists_and_left, and_self, okd_int, eqD_int, zComp, zwipe, zIx_fr0, zIx_fr1, Bool.true_and, Bool.and_true, decide_eq_true_eq, and_assoc, zIx_pt0, zIx_pt1, zIx_lk0, zIx_lk1, FR_inj, PT_inj, lookD_inj, PA_inj, PAs_inj, okd_FR, eqD_FR, okd_PT, eqD_PT, zSl_tup, cutD_1, cutD_to1, D.tup.injEq, D.lst.injEq, D.ref.injEq, ne_eq, zSeq_asg, zSeq_iff, zSeq_ret, zSeq_retN, zSeq_expr, zSeq_next, zSeq_seq, zSeq_never, zSeq_whl, zSeq_for, zSeq_aug, zNext_nx, zEnds_nx, zEnds_rt]
    refine ⟨bu.mono (by decide), bm.mono (by decide), ?_⟩
    by_cases c : u ≤ m
    · rw [if_pos c]
      have e : mstep m u = u := if_pos c
      rw [e] at hk
      exact hk _ ⟨_, _, rfl, bu⟩
    · rw [if_neg c]
      have e : mstep m u = m := if_neg c
      rw [e] at hk
      exact hk _ ⟨_, _, rfl, bm⟩
  · rintro s' ⟨x5, x7, rfl, _⟩
    rw [mfold, least_dup]
    generalize hm : least (y :: r) = m at *
    simp only [kont, c2, zMeth, zIndexD, isMuL, rdCs, rdC, rd, rds, rdc, rdo, rdg, rdgs, rdi, rdAV, rdAT, rdOV, rdOT, ofV, mkT, testV, zVar, slot, zCst, zBin, zUn, zChain, zAndV, zOrV, zAndT, zOrT, zNotV, zNotT, zIte, zIteT, zTup, zTupS, zANil, zACons, zAStar, zCall, zCallK, zONone, zOSome, zSlice, zBitsD, zGName, zGTup_tup, zGTup_lst, zGTup_FR, zGsNil, zGsCons,  zSetD, zGItem, zISeq, zIRng, zIZip, zIEnum, zYes, zAugD, zstart, zOp, zAdd, zSub, zMul, zFdiv, zMod, zPow, zShl, zCo, zEq, zNe, zIntC, zIs, zIsn, Zz.isNon, zBi, zLen, zAbs, zNegD, zTru, zBl, zRgL, zInt1, zMax2, zMin2, itemsOf, Zz.listOfD, Tgs.len, List.map_cons, List.map_nil, List.length_cons, List.length_nil, List.replicate_succ, List.replicate_zero, List.cons_append, List.nil_append, List.append_nil, List.set_cons_zero, List.set_cons_succ, Nat.sub_self, Nat.reduceSub, Nat.reduceAdd, reduceIte, Bool.false_eq_true, zIx_t0, zIx_t1, zIx_t2, zIx_t3, Bool.not_true, Bool.not_false, G, ctr, cst, zIsi_int, zIsi_tup, zIsi_lst, zIsi_bl, isTy, Option.some.injEq, exists_eq_left', List.cons.injEq, D.int.injEq, and_true, true_and, exists_and_left, and_self, okd_int, eqD_int, zComp, zwipe, zIx_fr0, zIx_fr1, Bool.true_and, Bool.and_true, decide_eq_true_eq, and_assoc, zIx_pt0, zIx_pt1, zIx_lk0, zIx_lk1, FR_inj, PT_inj, lookD_inj, PA_inj, PAs_inj, okd_FR, eqD_FR, okd_PT, eqD_PT, zSl_tup, cutD_1, cutD_to1, D.tup.injEq, D.lst.injEq, D.ref.injEq, ne_eq, zSeq_asg, zSeq_iff, zSeq_ret, zSeq_retN, zSeq_expr, zSeq_next, zSeq_seq, zSeq_never, zSeq_whl, zSeq_for, zSeq_aug, zNext_nx, zEnds_nx, zEnds_rt]
    have bv := h.bv
    have okl : okd 60 (D.lst (FR y :: List.map FR r)) = true := by
      unfold okd
      exact okd_FRs (y :: r)
    have gj : (FR y :: List.map FR r)[j]? = some (FR m) := by
      have := hj.1
      rw [hm] at this
      rw [← List.map_cons, List.getElem?_map, this]
      rfl
    refine ⟨h.bt.mono (by decide), h.bw.mono (by decide), mulOk bt.n bl.d (by decide), mulOk (bmul bt.n bl.d (Nat.le_refl _)) bv.n (by decide), mulOk bt.d bv.d (by decide), mulOk bl.n bl.d (by decide), mulOk bt.d bl.d (by decide), mulOk (bmul bt.d bl.d (Nat.le_refl _)) bv.n (by decide), ⟨_, rfl⟩, okl, j, _, gj, by rw [eqD_FR, decide_eq_true rfl], fun i z hi hz => ?_, M, sub_refl, w⟩
    rw [← List.map_cons, List.getElem?_map] at hz
    cases e : (y :: r)[i]? with
    | none => rw [e] at hz; cases hz
    | some u =>
      rw [e] at hz
      cases hz
      rw [eqD_FR]
      refine decide_eq_false fun e2 => ?_
      have := hj.2 i hi
      rw [hm] at this
      exact this (by rw [e, e2])
end K46
end
section
/-! P2: a tracked list of three in simp's hands. -/
namespace Zz
open PySem PySem.Spec PyProof.Rows L2
open PySem.Builtin.Int (intBits)
/-! ### a tracked list of three -/
section
variable {M : Mh} {p : Addr} {x y z v : D} {r : List D} {q : KD} {k : Mh → Prop}
theorem zIx_m {i : Int} {xs : List D} (h : L2.atI xs i = some v) : zIx (.ref p) (.int i) (mup M p (.lst xs)) q = q v (mup M p (.lst xs)) := by
  have e : itemsOf (mup M p (.lst xs)) (.ref p) = some xs := by
    show (match mup M p (.lst xs) p with | some (.lst xs) => some xs | none => none) = some xs
    rw [mup_same]
  refine propext ⟨fun ⟨ys, e1, u, h1, w⟩ => ?_, fun w => ⟨_, e, _, h, w⟩⟩
  rw [e] at e1; cases e1; rw [h] at h1; cases h1; exact w
theorem zIx_m0 : zIx (.ref p) (.int 0) (mup M p (.lst [x, y, z])) q = q x (mup M p (.lst [x, y, z])) := zIx_m at0
theorem zIx_m1 : zIx (.ref p) (.int 1) (mup M p (.lst [x, y, z])) q = q y (mup M p (.lst [x, y, z])) := zIx_m at1
theorem zIx_m2 : zIx (.ref p) (.int 2) (mup M p (.lst [x, y, z])) q = q z (mup M p (.lst [x, y, z])) := zIx_m at2
theorem zSetD_m {i : Int} {j : Nat} {xs : List D} (h : ixN xs.length i = some j) : zSetD (.ref p) (.int i) v (mup M p (.lst xs)) k = k (mup M p (.lst (xs.set j v))) := by
  refine propext ⟨fun ⟨ys, j2, e1, h1, w⟩ => ?_, fun w => ⟨_, _, mup_same, h, by rw [mup_mup]; exact w⟩⟩
  rw [mup_same] at e1; cases e1; rw [h] at h1; cases h1; rw [mup_mup] at w; exact w
theorem zSetD_m0 : zSetD (.ref p) (.int 0) v (mup M p (.lst [x, y, z])) k = k (mup M p (.lst [v, y, z])) := zSetD_m (j := 0) rfl
theorem zSetD_m2 : zSetD (.ref p) (.int 2) v (mup M p (.lst [x, y, z])) k = k (mup M p (.lst [x, y, v])) := zSetD_m (j := 2) rfl
theorem mup_self {o : MO} (h : M p = some o) : M = mup M p o := by
  funext b
  unfold mup
  by_cases e : b = p
  · rw [if_pos e, e, h]
  · rw [if_neg e]
end
theorem zIx_lst {xs : List D} {i : Int} {v : D} {M : Mh} {q : KD} (h : L2.atI xs i = some v) : zIx (.lst xs) (.int i) M q = q v M := by
  refine propext ⟨fun ⟨ys, e1, u, h1, w⟩ => ?_, fun w => ⟨_, rfl, _, h, w⟩⟩
  cases e1; rw [h] at h1; cases h1; exact w
theorem atI_nat {α : Type} {xs : List α} {i : Nat} {v : α} (h : xs[i]? = some v) : L2.atI xs (i : Int) = some v := by
  have hi := (List.getElem?_eq_some_iff.mp h).1
  unfold L2.atI L2.ixN
  rw [if_pos (by omega), if_pos (by omega)]
  show xs[(i : Int).toNat]? = some v
  rw [Int.toNat_natCast]; exact h
theorem zSl_lst {xs : List D} {lo hi : Option Int} {M : Mh} {q : KD} : zSl (.lst xs) lo hi M q = q (.lst (cutD xs lo hi)) M := by
  refine propext ⟨fun ⟨ys, e1, w⟩ => ?_, fun w => ⟨_, rfl, w⟩⟩
  cases e1; exact w
theorem zSum_ints {ns : List Int} {M : Mh} {q : KD} : zSum [.lst (ns.map D.int)] M q = q (.int ns.sum) M := by
  refine propext ⟨fun ⟨ys, e1, w⟩ => ?_, fun w => ⟨_, rfl, w⟩⟩
  have : ns.map D.int = ys.map D.int := Option.some.inj e1
  have e : ns = ys := by
    have := congrArg (List.map fun d => match d with | D.int i => i | _ => 0) this
    rw [List.map_map, List.map_map] at this
    simpa [Function.comp_def] using this
  rw [e]; exact w
end Zz
end
section
/-! K46h: what the law draws. -/
namespace K46
open PySem PySem.Spec PyProof.Rows L2 Zz
open PySem.Builtin.Int (intBits)

theorem fmod_rng {a b : Int} (hb : 0 < b) : 0 ≤ a.fmod b ∧ a.fmod b < b := by
  rw [Int.fmod_eq_emod_of_nonneg _ (Int.le_of_lt hb)]
  exact ⟨Int.emod_nonneg _ (Int.ne_of_gt hb), Int.emod_lt_of_pos _ hb⟩
theorem bits_nat {n : Nat} (h : n ≤ 100000) : intBits (n : Int) ≤ 17 := by
  refine intBits_le_iff.mpr ?_
  rw [Int.natAbs_natCast]
  have : (2 : Nat) ^ 17 = 131072 := by decide
  omega
theorem pot_end {c : Int} {i : Nat} (h1 : i < 1000) {M : Mh} {q : KD} (w : ∀ (a : Addr) (xs : List D), M a = none → Pot 0 xs → q (D.ref a) (mup M a (MO.lst xs))) :
    PowOk 10 60 ∧ PowOk (10 ^ Int.toNat 60) 5 ∧ ¬((10 : Int) ^ Int.toNat 60) ^ Int.toNat 5 = 0 ∧ PowOk 10 18 ∧ IntMulOk ((c.natAbs : Int).fmod ((10 ^ Int.toNat 60) ^ Int.toNat 5)) (if 10 ^ Int.toNat 18 ≤ (c.natAbs : Int) then 1 else 0) ∧
      ¬(2305843009213693951 : Int) = 0 ∧ IntMulOk (c.fmod 2305843009213693951) 87049 ∧ IntMulOk 10453 (i : Int) ∧ IntMulOk (10453 * (i : Int)) (i : Int) ∧ ¬(2305843009213693921 : Int) = 0 ∧
      ∀ (p : Addr), M p = none → ∃ M3, Zz.Sub M3 (mup M p (MO.lst [D.int ((c.natAbs : Int).fmod ((10 ^ Int.toNat 60) ^ Int.toNat 5) * if 10 ^ Int.toNat 18 ≤ (c.natAbs : Int) then 1 else 0),
        D.int ((c.fmod 2305843009213693951 * 87049 + 10453 * (i : Int) * (i : Int) + 733).fmod 2305843009213693921), D.int 0])) ∧ q (D.ref p) M3 := by
  have big : (0 : Int) < ((10 : Int) ^ Int.toNat 60) ^ Int.toNat 5 := by decide +kernel
  have bi : intBits (i : Int) ≤ 64 := Nat.le_trans (bits_nat (by omega)) (by decide)
  refine ⟨⟨by decide, by decide +kernel⟩, ⟨by decide, by decide +kernel⟩, Int.ne_of_gt big, ⟨by decide, by decide +kernel⟩, IntMulOk.of_right (by split <;> decide), by decide, IntMulOk.of_right (by decide), IntMulOk.of_left (by decide), IntMulOk.of_right bi, by decide, fun p hp => ⟨_, sub_refl, w p _ hp ⟨_, _, 0, rfl, ?_, ?_, ?_, Nat.le_refl _⟩⟩⟩
  · refine Int.mul_nonneg (fmod_rng big).1 (by split <;> decide)
  · exact (fmod_rng (by decide)).1
  · have := (fmod_rng (a := c.fmod 2305843009213693951 * 87049 + 10453 * (i : Int) * (i : Int) + 733) (b := 2305843009213693921) (by decide)).2
    have : (2305843009213693921 : Int) < 2 ^ 61 := by decide
    omega
theorem p_law_pot : ∀ ds M q, c_law_pot ds M q → rdCs G ir__law_pot (zEnds q) (zstart N__law_pot ds) M := by
  rintro ds M q ⟨ns, i, rfl, ⟨h1, h2⟩, w⟩
  by_cases hi : i < ns.length
  · have hi' : (i : Int) < ns.length := by exact_mod_cast hi
    have hz : L2.atI (ns.map D.int) (i : Int) = some (.int ns[i]) := Zz.atI_nat (by rw [List.getElem?_map, List.getElem?_eq_getElem hi]; rfl)
    simp only [ir__law_pot, N__law_pot, zLst, hi', List.length_map, zIx_lst hz, rdCs, rdC, rd, rds, rdc, rdo, rdg, rdgs, rdi, rdAV, rdAT, rdOV, rdOT, ofV, mkT, testV, zVar, slot, zCst, zBin, zUn, zChain, zAndV, zOrV, zAndT, zOrT, zNotV, zNotT, zIte, zIteT, zTup, zTupS, zANil, zACons, zAStar, zCall, zCallK, zONone, zOSome, zSlice, zBitsD, zGName, zGTup_tup, zGTup_lst, zGTup_FR, zGsNil, zGsCons,   zGItem, zISeq, zIRng, zIZip, zIEnum, zYes, zAugD, zstart, zOp, zAdd, zSub, zMul, zFdiv, zMod, zPow, zShl, zCo, zEq, zNe, zIntC, zIs, zIsn, Zz.isNon, zBi, zLen, zAbs, zNegD, zTru, zBl, zRgL, zInt1, zMax2, zMin2, itemsOf, Zz.listOfD, Tgs.len, List.map_cons, List.map_nil, List.length_cons, List.length_nil, List.replicate_succ, List.replicate_zero, List.cons_append, List.nil_append, List.append_nil, List.set_cons_zero, List.set_cons_succ, Nat.sub_self, Nat.reduceSub, Nat.reduceAdd, reduceIte, Bool.false_eq_true, zIx_t0, zIx_t1, zIx_t2, zIx_t3, Bool.not_true, Bool.not_false, G, ctr, cst, zIsi_int, zIsi_tup, zIsi_lst, zIsi_bl, isTy, Option.some.injEq, exists_eq_left', List.cons.injEq, D.int.injEq, and_true, true_and, exists_and_left, and_self, okd_int, eqD_int, zComp, zwipe, zIx_fr0, zIx_fr1, Bool.true_and, Bool.and_true, decide_eq_true_eq, and_assoc, zIx_pt0, zIx_pt1, zIx_lk0, zIx_lk1, FR_inj, PT_inj, lookD_inj, PA_inj, PAs_inj, okd_FR, eqD_FR, okd_PT, eqD_PT, zSl_tup, cutD_1, cutD_to1, D.tup.injEq, D.lst.injEq, D.ref.injEq, ne_eq, zSeq_asg, zSeq_iff, zSeq_ret, zSeq_retN, zSeq_expr, zSeq_next, zSeq_seq, zSeq_never, kSeq_whl, kSeq_for, zSeq_aug, zNext_nx, zEnds_nx, zEnds_rt, zIx_m0, zIx_m1, zIx_m2, zSetD_m0, zSetD_m2, zSl_lst, zSum_ints, mup_mup]
    exact pot_end h1 w
  · have hi' : ¬ (i : Int) < ns.length := by intro z; exact hi (by exact_mod_cast z)
    simp only [ir__law_pot, N__law_pot, zLst, hi', List.length_map, ← List.map_take, rdCs, rdC, rd, rds, rdc, rdo, rdg, rdgs, rdi, rdAV, rdAT, rdOV, rdOT, ofV, mkT, testV, zVar, slot, zCst, zBin, zUn, zChain, zAndV, zOrV, zAndT, zOrT, zNotV, zNotT, zIte, zIteT, zTup, zTupS, zANil, zACons, zAStar, zCall, zCallK, zONone, zOSome, zSlice, zBitsD, zGName, zGTup_tup, zGTup_lst, zGTup_FR, zGsNil, zGsCons,   zGItem, zISeq, zIRng, zIZip, zIEnum, zYes, zAugD, zstart, zOp, zAdd, zSub, zMul, zFdiv, zMod, zPow, zShl, zCo, zEq, zNe, zIntC, zIs, zIsn, Zz.isNon, zBi, zLen, zAbs, zNegD, zTru, zBl, zRgL, zInt1, zMax2, zMin2, itemsOf, Zz.listOfD, Tgs.len, List.map_cons, List.map_nil, List.length_cons, List.length_nil, List.replicate_succ, List.replicate_zero, List.cons_append, List.nil_append, List.append_nil, List.set_cons_zero, List.set_cons_succ, Nat.sub_self, Nat.reduceSub, Nat.reduceAdd, reduceIte, Bool.false_eq_true, zIx_t0, zIx_t1, zIx_t2, zIx_t3, Bool.not_true, Bool.not_false, G, ctr, cst, zIsi_int, zIsi_tup, zIsi_lst, zIsi_bl, isTy, Option.some.injEq, exists_eq_left', List.cons.injEq, D.int.injEq, and_true, true_and, exists_and_left, and_self, okd_int, eqD_int, zComp, zwipe, zIx_fr0, zIx_fr1, Bool.true_and, Bool.and_true, decide_eq_true_eq, and_assoc, zIx_pt0, zIx_pt1, zIx_lk0, zIx_lk1, FR_inj, PT_inj, lookD_inj, PA_inj, PAs_inj, okd_FR, eqD_FR, okd_PT, eqD_PT, zSl_tup, cutD_1, cutD_to1, D.tup.injEq, D.lst.injEq, D.ref.injEq, ne_eq, zSeq_asg, zSeq_iff, zSeq_ret, zSeq_retN, zSeq_expr, zSeq_next, zSeq_seq, zSeq_never, kSeq_whl, kSeq_for, zSeq_aug, zNext_nx, zEnds_nx, zEnds_rt, zIx_m0, zIx_m1, zIx_m2, zSetD_m0, zSetD_m2, zSl_lst, zSum_ints, mup_mup]
    refine ⟨by decide, IntMulOk.of_left (by decide), ?_⟩
    exact pot_end h1 w
theorem p_law_take : ∀ ds M q, c_law_take ds M q → rdCs G ir__law_take (zEnds q) (zstart N__law_take ds) M := by
  rintro ds M0 q ⟨p, u, n, rfl, ⟨⟨xs, hM, a, b, c, rfl, a0, b0, b1, hc⟩, h2, h3, h4⟩, w⟩
  have hM := mup_self hM
  suffices H : ∀ M, (∀ d : Nat, d < u → After (mup M p (.lst [.int a, .int b, .int c])) p (n + 1) (q (D.int d))) → rdCs G ir__law_take (zEnds q) (zstart N__law_take [.ref p, .int u]) (mup M p (.lst [.int a, .int b, .int c])) by
    rw [hM]; rw [hM] at w; exact H M0 w
  intro M w
  simp only [ir__law_take, N__law_take, zLst, rdCs, rdC, rd, rds, rdc, rdo, rdg, rdgs, rdi, rdAV, rdAT, rdOV, rdOT, ofV, mkT, testV, zVar, slot, zCst, zBin, zUn, zChain, zAndV, zOrV, zAndT, zOrT, zNotV, zNotT, zIte, zIteT, zTup, zTupS, zANil, zACons, zAStar, zCall, zCallK, zONone, zOSome, zSlice, zBitsD, zGName, zGTup_tup, zGTup_lst, zGTup_FR, zGsNil, zGsCons,   zGItem, zISeq, zIRng, zIZip, zIEnum, zYes, zAugD, zstart, zOp, zAdd, zSub, zMul, zFdiv, zMod, zPow, zShl, zCo, zEq, zNe, zIntC, zIs, zIsn, Zz.isNon, zBi, zLen, zAbs, zNegD, zTru, zBl, zRgL, zInt1, zMax2, zMin2, itemsOf, Zz.listOfD, Tgs.len, List.map_cons, List.map_nil, List.length_cons, List.length_nil, List.replicate_succ, List.replicate_zero, List.cons_append, List.nil_append, List.append_nil, List.set_cons_zero, List.set_cons_succ, Nat.sub_self, Nat.reduceSub, Nat.reduceAdd, reduceIte, Bool.false_eq_true, zIx_t0, zIx_t1, zIx_t2, zIx_t3, Bool.not_true, Bool.not_false, G, ctr, cst, zIsi_int, zIsi_tup, zIsi_lst, zIsi_bl, isTy, Option.some.injEq, exists_eq_left', List.cons.injEq, D.int.injEq, and_true, true_and, exists_and_left, and_self, okd_int, eqD_int, zComp, zwipe, zIx_fr0, zIx_fr1, Bool.true_and, Bool.and_true, decide_eq_true_eq, and_assoc, zIx_pt0, zIx_pt1, zIx_lk0, zIx_lk1, FR_inj, PT_inj, lookD_inj, PA_inj, PAs_inj, okd_FR, eqD_FR, okd_PT, eqD_PT, zSl_tup, cutD_1, cutD_to1, D.tup.injEq, D.lst.injEq, D.ref.injEq, ne_eq, zSeq_asg, zSeq_iff, zSeq_ret, zSeq_retN, zSeq_expr, zSeq_next, zSeq_seq, zSeq_never, kSeq_whl, kSeq_for, zSeq_aug, zNext_nx, zEnds_nx, zEnds_rt, zIx_m0, zIx_m1, zIx_m2, zSetD_m0, zSetD_m2, zSl_lst, zSum_ints, mup_mup]
  have u0 : (u : Int) ≠ 0 := by exact_mod_cast Nat.ne_of_gt h2
  have bu : intBits (u : Int) ≤ 17 := bits_nat (by omega)
  have up : (0 : Int) < u := by exact_mod_cast h2
  have fin : ∀ (x : Int) (ys : List D), Pot (n + 1) ys → ∃ M3, Zz.Sub M3 (mup M p (.lst ys)) ∧ q (D.int (x.fmod u)) M3 := fun x ys hy => by
    obtain ⟨r1, r2⟩ := fmod_rng (a := x) up
    have := w (x.fmod u).toNat (by omega) ys hy
    rw [mup_mup, Int.toNat_of_nonneg r1] at this
    exact ⟨_, sub_refl, this⟩
  by_cases ha : 0 < a
  · rw [if_pos ha]
    refine ⟨u0, divOk_of u0 (Nat.le_trans bu (by decide)), fin a _ ⟨_, _, c, rfl, ?_, b0, b1, by omega⟩⟩
    rw [Int.fdiv_eq_ediv_of_nonneg _ (Int.le_of_lt up)]
    exact Int.ediv_nonneg a0 (Int.le_of_lt up)
  · rw [if_neg ha]
    refine ⟨by decide, ?_⟩
    have ec : (c : Int) + 1 = ((c + 1 : Nat) : Int) := by omega
    have ek : ((c : Int) + 1).fmod 5 = (((c + 1) % 5 : Nat) : Int) := by
      rw [ec, Int.fmod_eq_emod_of_nonneg _ (by decide)]; rfl
    obtain ⟨pr, hat, pr0, pr1⟩ : ∃ pr : Int, L2.atI [D.int 2147483647, D.int 2147483629, D.int 2147483587, D.int 2147483579, D.int 2147483563] ((((c + 1) % 5 : Nat)) : Int) = some (.int pr) ∧ 0 < pr ∧ pr < 2 ^ 31 := by
      have h5 : (c + 1) % 5 = 0 ∨ (c + 1) % 5 = 1 ∨ (c + 1) % 5 = 2 ∨ (c + 1) % 5 = 3 ∨ (c + 1) % 5 = 4 := by omega
      rcases h5 with e | e | e | e | e <;> rw [e] <;> exact ⟨_, Zz.atI_nat rfl, by decide, by decide⟩
    rw [ek, zIx_lst hat, ec]
    simp only [rdCs, rdC, rd, rds, rdc, rdo, rdg, rdgs, rdi, rdAV, rdAT, rdOV, rdOT, ofV, mkT, testV, zVar, slot, zCst, zBin, zUn, zChain, zAndV, zOrV, zAndT, zOrT, zNotV, zNotT, zIte, zIteT, zTup, zTupS, zANil, zACons, zAStar, zCall, zCallK, zONone, zOSome, zSlice, zBitsD, zGName, zGTup_tup, zGTup_lst, zGTup_FR, zGsNil, zGsCons,   zGItem, zISeq, zIRng, zIZip, zIEnum, zYes, zAugD, zstart, zOp, zAdd, zSub, zMul, zFdiv, zMod, zPow, zShl, zCo, zEq, zNe, zIntC, zIs, zIsn, Zz.isNon, zBi, zLen, zAbs, zNegD, zTru, zBl, zRgL, zInt1, zMax2, zMin2, itemsOf, Zz.listOfD, Tgs.len, List.map_cons, List.map_nil, List.length_cons, List.length_nil, List.replicate_succ, List.replicate_zero, List.cons_append, List.nil_append, List.append_nil, List.set_cons_zero, List.set_cons_succ, Nat.sub_self, Nat.reduceSub, Nat.reduceAdd, reduceIte, Bool.false_eq_true, zIx_t0, zIx_t1, zIx_t2, zIx_t3, Bool.not_true, Bool.not_false, G, ctr, cst, zIsi_int, zIsi_tup, zIsi_lst, zIsi_bl, isTy, Option.some.injEq, exists_eq_left', List.cons.injEq, D.int.injEq, and_true, true_and, exists_and_left, and_self, okd_int, eqD_int, zComp, zwipe, zIx_fr0, zIx_fr1, Bool.true_and, Bool.and_true, decide_eq_true_eq, and_assoc, zIx_pt0, zIx_pt1, zIx_lk0, zIx_lk1, FR_inj, PT_inj, lookD_inj, PA_inj, PAs_inj, okd_FR, eqD_FR, okd_PT, eqD_PT, zSl_tup, cutD_1, cutD_to1, D.tup.injEq, D.lst.injEq, D.ref.injEq, ne_eq, zSeq_asg, zSeq_iff, zSeq_ret, zSeq_retN, zSeq_expr, zSeq_next, zSeq_seq, zSeq_never, kSeq_whl, kSeq_for, zSeq_aug, zNext_nx, zEnds_nx, zEnds_rt, zIx_m0, zIx_m1, zIx_m2, zSetD_m0, zSetD_m2, zSl_lst, zSum_ints, mup_mup]
    have bc : intBits ((c + 1 : Nat) : Int) ≤ 17 := bits_nat (by omega)
    have bk : intBits (101195 : Int) ≤ 17 := by decide
    have bb : intBits b ≤ 61 := intBits_le_iff.mpr (by
      have : (2 : Nat) ^ 61 = 2305843009213693952 := by decide
      have : (2 : Int) ^ 61 = 2305843009213693952 := by decide
      omega)
    have bx : intBits (b + 101195 * ((c + 1 : Nat) : Int) * ((c + 1 : Nat) : Int) + 1499) ≤ 64 :=
      badd (badd bb (bmul (bmul bk bc (Nat.le_refl _)) bc (Nat.le_refl _)) (Nat.le_refl _)) (by decide : intBits 1499 ≤ 11) (by decide)
    refine ⟨IntMulOk.of_right (Nat.le_trans bc (by decide)), mulOk (bmul bk bc (Nat.le_refl _)) bc (by decide), ⟨by decide, ?_⟩, Int.ne_of_gt pr0, by decide, IntMulOk.of_right (Nat.le_trans bc (by decide)), IntMulOk.of_left ?_, divOk_of (by decide) (by decide), u0, fin _ _ ⟨a, b, c + 1, rfl, a0, b0, b1, by omega⟩⟩
    · have : (2 : Int) ^ 27 = 134217728 := by decide
      omega
    · obtain ⟨r1, r2⟩ := fmod_rng (a := (b + 101195 * ((c + 1 : Nat) : Int) * ((c + 1 : Nat) : Int) + 1499) ^ Int.toNat 3) pr0
      refine intBits_le_iff.mpr ?_
      have : (2 : Nat) ^ 64 = 18446744073709551616 := by decide
      have : (2 : Int) ^ 31 = 2147483648 := by decide
      omega
theorem p_law_of : ∀ ds M q, c_law_of ds M q → rdCs G ir__law_of (zEnds q) (zstart N__law_of ds) M := by
  rintro ds M q ⟨p, xs, n, rfl, ⟨h1, h2, h3, h4⟩, w⟩
  simp only [ir__law_of, N__law_of, rdCs, rdC, rd, rds, rdc, rdo, rdg, rdgs, rdi, rdAV, rdAT, rdOV, rdOT, ofV, mkT, testV, zVar, slot, zCst, zBin, zUn, zChain, zAndV, zOrV, zAndT, zOrT, zNotV, zNotT, zIte, zIteT, zTup, zTupS, zANil, zACons, zAStar, zCall, zCallK, zONone, zOSome, zSlice, zBitsD, zGName, zGTup_tup, zGTup_lst, zGTup_FR, zGsNil, zGsCons,   zGItem, zISeq, zIRng, zIZip, zIEnum, zYes, zAugD, zstart, zOp, zAdd, zSub, zMul, zFdiv, zMod, zPow, zShl, zCo, zEq, zNe, zIntC, zIs, zIsn, Zz.isNon, zBi, zLen, zAbs, zNegD, zTru, zBl, zRgL, zInt1, zMax2, zMin2, itemsOf, Zz.listOfD, Tgs.len, List.map_cons, List.map_nil, List.length_cons, List.length_nil, List.replicate_succ, List.replicate_zero, List.cons_append, List.nil_append, List.append_nil, List.set_cons_zero, List.set_cons_succ, Nat.sub_self, Nat.reduceSub, Nat.reduceAdd, reduceIte, Bool.false_eq_true, zIx_t0, zIx_t1, zIx_t2, zIx_t3, Bool.not_true, Bool.not_false, G, ctr, cst, zIsi_int, zIsi_tup, zIsi_lst, zIsi_bl, isTy, Option.some.injEq, exists_eq_left', List.cons.injEq, D.int.injEq, and_true, true_and, exists_and_left, and_self, okd_int, eqD_int, zComp, zwipe, zIx_fr0, zIx_fr1, Bool.true_and, Bool.and_true, decide_eq_true_eq, and_assoc, zIx_pt0, zIx_pt1, zIx_lk0, zIx_lk1, FR_inj, PT_inj, lookD_inj, PA_inj, PAs_inj, okd_FR, eqD_FR, okd_PT, eqD_PT, zSl_tup, cutD_1, cutD_to1, D.tup.injEq, D.lst.injEq, D.ref.injEq, ne_eq, zSeq_asg, zSeq_iff, zSeq_ret, zSeq_retN, zSeq_expr, zSeq_next, zSeq_seq, zSeq_never, kSeq_whl, kSeq_for, zSeq_aug, zNext_nx, zEnds_nx, zEnds_rt, zIx_m0, zIx_m1, zIx_m2, zSetD_m0, zSetD_m2, zSl_lst, zSum_ints, mup_mup]
  refine ⟨p, xs.length, n, rfl, ⟨h1, h2, h3, h4⟩, fun d hd ys hy => ?_⟩
  show zIx (.lst xs) (.int (d : Nat)) _ _
  rw [zIx_lst (Zz.atI_nat (List.getElem?_eq_getElem hd))]
  exact ⟨_, sub_refl, w _ (List.getElem_mem hd) ys hy⟩
theorem rg_ok {l : Int} {n : Nat} (h : n ≤ 1000) : RgOk 0 (max 1 (min l (n : Int))) := RgOk.of_le (by decide) (by omega) (by decide) (by omega)
theorem p_law_cells : ∀ ds M q, c_law_cells ds M q → rdCs G ir__law_cells (zEnds q) (zstart N__law_cells ds) M := by
  rintro ds M q ⟨xs, l, rfl, h, w⟩
  simp only [ir__law_cells, N__law_cells, zList1, rdCs, rdC, rd, rds, rdc, rdo, rdg, rdgs, rdi, rdAV, rdAT, rdOV, rdOT, ofV, mkT, testV, zVar, slot, zCst, zBin, zUn, zChain, zAndV, zOrV, zAndT, zOrT, zNotV, zNotT, zIte, zIteT, zTup, zTupS, zANil, zACons, zAStar, zCall, zCallK, zONone, zOSome, zSlice, zBitsD, zGName, zGTup_tup, zGTup_lst, zGTup_FR, zGsNil, zGsCons,   zGItem, zISeq, zIRng, zIZip, zIEnum, zYes, zAugD, zstart, zOp, zAdd, zSub, zMul, zFdiv, zMod, zPow, zShl, zCo, zEq, zNe, zIntC, zIs, zIsn, Zz.isNon, zBi, zLen, zAbs, zNegD, zTru, zBl, zRgL, zInt1, zMax2, zMin2, itemsOf, Zz.listOfD, Tgs.len, List.map_cons, List.map_nil, List.length_cons, List.length_nil, List.replicate_succ, List.replicate_zero, List.cons_append, List.nil_append, List.append_nil, List.set_cons_zero, List.set_cons_succ, Nat.sub_self, Nat.reduceSub, Nat.reduceAdd, reduceIte, Bool.false_eq_true, zIx_t0, zIx_t1, zIx_t2, zIx_t3, Bool.not_true, Bool.not_false, G, ctr, cst, zIsi_int, zIsi_tup, zIsi_lst, zIsi_bl, isTy, Option.some.injEq, exists_eq_left', List.cons.injEq, D.int.injEq, and_true, true_and, exists_and_left, and_self, okd_int, eqD_int, zComp, zwipe, zIx_fr0, zIx_fr1, Bool.true_and, Bool.and_true, decide_eq_true_eq, and_assoc, zIx_pt0, zIx_pt1, zIx_lk0, zIx_lk1, FR_inj, PT_inj, lookD_inj, PA_inj, PAs_inj, okd_FR, eqD_FR, okd_PT, eqD_PT, zSl_tup, cutD_1, cutD_to1, D.tup.injEq, D.lst.injEq, D.ref.injEq, ne_eq, zSeq_asg, zSeq_iff, zSeq_ret, zSeq_retN, zSeq_expr, zSeq_next, zSeq_seq, zSeq_never, kSeq_whl, kSeq_for, zSeq_aug, zNext_nx, zEnds_nx, zEnds_rt, zIx_m0, zIx_m1, zIx_m2, zSetD_m0, zSetD_m2, zSl_lst, zSum_ints, mup_mup]
  exact ⟨rg_ok h, M, sub_refl, w⟩
theorem p_law_drawn_fraction : ∀ ds M q, c_law_drawn_fraction ds M q → rdCs G ir__law_drawn_fraction (zEnds q) (zstart N__law_drawn_fraction ds) M := by
  rintro ds M q ⟨p, m, n, rfl, ⟨h1, h2, h3⟩, w⟩
  simp only [ir__law_drawn_fraction, N__law_drawn_fraction, c_law_take, c_law_of, c_fraction, zLst, rdCs, rdC, rd, rds, rdc, rdo, rdg, rdgs, rdi, rdAV, rdAT, rdOV, rdOT, ofV, mkT, testV, zVar, slot, zCst, zBin, zUn, zChain, zAndV, zOrV, zAndT, zOrT, zNotV, zNotT, zIte, zIteT, zTup, zTupS, zANil, zACons, zAStar, zCall, zCallK, zONone, zOSome, zSlice, zBitsD, zGName, zGTup_tup, zGTup_lst, zGTup_FR, zGsNil, zGsCons,   zGItem, zISeq, zIRng, zIZip, zIEnum, zYes, zAugD, zstart, zOp, zAdd, zSub, zMul, zFdiv, zMod, zPow, zShl, zCo, zEq, zNe, zIntC, zIs, zIsn, Zz.isNon, zBi, zLen, zAbs, zNegD, zTru, zBl, zRgL, zInt1, zMax2, zMin2, itemsOf, Zz.listOfD, Tgs.len, List.map_cons, List.map_nil, List.length_cons, List.length_nil, List.replicate_succ, List.replicate_zero, List.cons_append, List.nil_append, List.append_nil, List.set_cons_zero, List.set_cons_succ, Nat.sub_self, Nat.reduceSub, Nat.reduceAdd, reduceIte, Bool.false_eq_true, zIx_t0, zIx_t1, zIx_t2, zIx_t3, Bool.not_true, Bool.not_false, G, ctr, cst, zIsi_int, zIsi_tup, zIsi_lst, zIsi_bl, isTy, Option.some.injEq, exists_eq_left', List.cons.injEq, D.int.injEq, and_true, true_and, exists_and_left, and_self, okd_int, eqD_int, zComp, zwipe, zIx_fr0, zIx_fr1, Bool.true_and, Bool.and_true, decide_eq_true_eq, and_assoc, zIx_pt0, zIx_pt1, zIx_lk0, zIx_lk1, FR_inj, PT_inj, lookD_inj, PA_inj, PAs_inj, okd_FR, eqD_FR, okd_PT, eqD_PT, zSl_tup, cutD_1, cutD_to1, D.tup.injEq, D.lst.injEq, D.ref.injEq, ne_eq, zSeq_asg, zSeq_iff, zSeq_ret, zSeq_retN, zSeq_expr, zSeq_next, zSeq_seq, zSeq_never, kSeq_whl, kSeq_for, zSeq_aug, zNext_nx, zEnds_nx, zEnds_rt, zIx_m0, zIx_m1, zIx_m2, zSetD_m0, zSetD_m2, zSl_lst, zSum_ints, mup_mup]
  refine ⟨IntMulOk.of_left (by decide), 2 * m + 1, by omega, n, h1, by omega, by omega, by omega, fun d hd ys hy => ⟨n + 1, ⟨ys, mup_same, hy⟩, by decide, by decide, by omega, fun x hx ys2 hy2 => ?_⟩⟩
  obtain ⟨k, rfl, k0, k1⟩ : ∃ k : Int, x = .int k ∧ k ≠ 0 ∧ intBits k ≤ 3 := by
    have e : x = .int 1 ∨ x = .int 2 ∨ x = .int 3 := by simpa using hx
    rcases e with e | e | e
    · exact ⟨1, e, by decide, by decide⟩
    · exact ⟨2, e, by decide, by decide⟩
    · exact ⟨3, e, by decide, by decide⟩
  have bd : intBits ((d : Int) - m) ≤ 3 := intBits_le_iff.mpr (by
    have : (2 : Nat) ^ 3 = 8 := by decide
    omega)
  exact ⟨k, rfl, k0, Nat.le_trans bd (by decide), Nat.le_trans k1 (by decide), mup M p (.lst ys2), by rw [mup_mup]; exact sub_refl, w _ (B_divInt k0 bd k1) ys2 hy2⟩
theorem p_law_drawn_point : ∀ ds M q, c_law_drawn_point ds M q → rdCs G ir__law_drawn_point (zEnds q) (zstart N__law_drawn_point ds) M := by
  rintro ds M q ⟨p, m, n, rfl, ⟨h1, h2, h3⟩, w⟩
  simp only [ir__law_drawn_point, N__law_drawn_point, c_law_drawn_fraction, rdCs, rdC, rd, rds, rdc, rdo, rdg, rdgs, rdi, rdAV, rdAT, rdOV, rdOT, ofV, mkT, testV, zVar, slot, zCst, zBin, zUn, zChain, zAndV, zOrV, zAndT, zOrT, zNotV, zNotT, zIte, zIteT, zTup, zTupS, zANil, zACons, zAStar, zCall, zCallK, zONone, zOSome, zSlice, zBitsD, zGName, zGTup_tup, zGTup_lst, zGTup_FR, zGsNil, zGsCons,   zGItem, zISeq, zIRng, zIZip, zIEnum, zYes, zAugD, zstart, zOp, zAdd, zSub, zMul, zFdiv, zMod, zPow, zShl, zCo, zEq, zNe, zIntC, zIs, zIsn, Zz.isNon, zBi, zLen, zAbs, zNegD, zTru, zBl, zRgL, zInt1, zMax2, zMin2, itemsOf, Zz.listOfD, Tgs.len, List.map_cons, List.map_nil, List.length_cons, List.length_nil, List.replicate_succ, List.replicate_zero, List.cons_append, List.nil_append, List.append_nil, List.set_cons_zero, List.set_cons_succ, Nat.sub_self, Nat.reduceSub, Nat.reduceAdd, reduceIte, Bool.false_eq_true, zIx_t0, zIx_t1, zIx_t2, zIx_t3, Bool.not_true, Bool.not_false, G, ctr, cst, zIsi_int, zIsi_tup, zIsi_lst, zIsi_bl, isTy, Option.some.injEq, exists_eq_left', List.cons.injEq, D.int.injEq, and_true, true_and, exists_and_left, and_self, okd_int, eqD_int, zComp, zwipe, zIx_fr0, zIx_fr1, Bool.true_and, Bool.and_true, decide_eq_true_eq, and_assoc, zIx_pt0, zIx_pt1, zIx_lk0, zIx_lk1, FR_inj, PT_inj, lookD_inj, PA_inj, PAs_inj, okd_FR, eqD_FR, okd_PT, eqD_PT, zSl_tup, cutD_1, cutD_to1, D.tup.injEq, D.lst.injEq, D.ref.injEq, ne_eq, zSeq_asg, zSeq_iff, zSeq_ret, zSeq_retN, zSeq_expr, zSeq_next, zSeq_seq, zSeq_never, kSeq_whl, kSeq_for, zSeq_aug, zNext_nx, zEnds_nx, zEnds_rt, zIx_m0, zIx_m1, zIx_m2, zSetD_m0, zSetD_m2, zSl_lst, zSum_ints, mup_mup]
  exact ⟨m, rfl, n, h1, h2, by omega, fun r hr ys hy => ⟨m, rfl, n + 2, ⟨ys, mup_same, hy⟩, h2, by omega, fun r2 hr2 ys2 hy2 => ⟨mup M p (.lst ys2), by rw [mup_mup]; exact sub_refl, w (r, r2) ⟨hr, hr2⟩ ys2 hy2⟩⟩⟩
end K46
end
section
/-! K46i: what the law draws (patches, chases), and the law. -/
namespace K46
open PySem PySem.Spec PyProof.Rows L2 Zz
open PySem.Builtin.Int (intBits)
theorem zGTup_PT {n : Nat} {t : ZGs} {p : P2} {s : Sl} {M : Mh} {k : Sl → Mh → Prop} : zGTup n t (PT p) s M k = (2 = n ∧ t [FR p.1, FR p.2] s M k) := propext Iff.rfl
/-! ### a template, scaled and moved -/
abbrev I2 := Int × Int
def pl (z : Rat) (r : P2) (t : I2) : P2 := (r.1 + z * (t.1 : Rat), r.2 + z * (t.2 : Rat))
def crossI (a b c : I2) : Int := (b.1 - a.1) * (c.2 - a.2) - (b.2 - a.2) * (c.1 - a.1)
def aheadI (p q : I2) : Bool := decide (p.1 < q.1) || (decide (p.1 = q.1) && decide (p.2 < q.2))
def goodI (T : List I2) : Bool := decide (3 ≤ T.length) && decide (T.length ≤ 8) && T.all (fun t => decide (intBits t.1 ≤ 3) && decide (intBits t.2 ≤ 3)) && (T.drop 1).all (aheadI (T.headD (0, 0))) && decide T.Nodup &&
  (List.range T.length).all fun i => T.all fun o => decide (o = T.getD ((i + T.length - 1) % T.length) (0, 0)) || decide (o = T.getD i (0, 0)) || decide (0 < crossI (T.getD ((i + T.length - 1) % T.length) (0, 0)) (T.getD i (0, 0)) o)
theorem pl_inj {z : Rat} {r : P2} (hz : 0 < z) {s t : I2} (h : pl z r s = pl z r t) : s = t := by
  unfold pl at h
  have hz0 : z ≠ 0 := Rat.ne_of_gt hz
  injection h with h1 h2
  have e1 : ((s.1 : Int) : Rat) = t.1 := by
    have := Rat.add_left_cancel _ h1
    generalize ((s.1 : Int) : Rat) = x at *
    generalize ((t.1 : Int) : Rat) = y at *
    grind
  have e2 : ((s.2 : Int) : Rat) = t.2 := by
    have := Rat.add_left_cancel _ h2
    generalize ((s.2 : Int) : Rat) = x at *
    generalize ((t.2 : Int) : Rat) = y at *
    grind
  exact Prod.ext (Rat.intCast_inj.mp e1) (Rat.intCast_inj.mp e2)
theorem cross_pl {z : Rat} {r : P2} {a b c : I2} : cross (pl z r a) (pl z r b) (pl z r c) = z * z * (crossI a b c : Rat) := by
  unfold cross pl crossI
  rw [Rat.intCast_sub, Rat.intCast_mul, Rat.intCast_mul, Rat.intCast_sub, Rat.intCast_sub, Rat.intCast_sub, Rat.intCast_sub]
  grind
theorem lt_pl {z x : Rat} (hz : 0 < z) {a b : Int} : x + z * (a : Rat) < x + z * (b : Rat) ↔ a < b := by
  rw [Rat.add_lt_add_left, Rat.mul_lt_mul_left hz, Rat.intCast_lt_intCast]
theorem ahead_pl {z : Rat} {r : P2} (hz : 0 < z) {a b : I2} : ahead (pl z r a) (pl z r b) = aheadI a b := by
  have hz0 : z ≠ 0 := Rat.ne_of_gt hz
  have e1 : (pl z r a).1 < (pl z r b).1 ↔ a.1 < b.1 := lt_pl hz
  have e2 : (pl z r a).2 < (pl z r b).2 ↔ a.2 < b.2 := lt_pl hz
  have e3 : (pl z r a).1 = (pl z r b).1 ↔ a.1 = b.1 := by
    constructor
    · intro h
      have := Rat.add_left_cancel _ h
      refine Rat.intCast_inj.mp ?_
      generalize ((a.1 : Int) : Rat) = x at *
      generalize ((b.1 : Int) : Rat) = y at *
      grind
    · intro h
      unfold pl
      rw [h]
  unfold ahead aheadI
  rw [decide_eq_decide.mpr e1, decide_eq_decide.mpr e2, decide_eq_decide.mpr e3]
theorem getD_map_pl {z : Rat} {r : P2} {T : List I2} {i : Nat} (h : i < T.length) : (T.map (pl z r)).getD i (0, 0) = pl z r (T.getD i (0, 0)) := by
  rw [List.getD_eq_getElem?_getD, List.getD_eq_getElem?_getD, List.getElem?_map, List.getElem?_eq_getElem h]
  rfl
theorem good_pl {z : Rat} {r : P2} {T : List I2} (hz : 0 < z) (bz : B 3 z) (br : BP 3 r) (h : goodI T = true) : Good (T.map (pl z r)) := by
  unfold goodI at h
  simp only [Bool.and_eq_true, decide_eq_true_eq] at h
  obtain ⟨⟨⟨⟨⟨g1, g2⟩, g3⟩, g4⟩, g5⟩, g6⟩ := h
  have g3 := List.all_eq_true.mp g3
  have g4 := List.all_eq_true.mp g4
  have g6 := List.all_eq_true.mp g6
  refine ⟨by rw [List.length_map]; exact g1, by rw [List.length_map]; exact g2, fun p hp => ?_, fun p hp => ?_, ?_, fun i hi o ho n1 n2 => ?_⟩
  · obtain ⟨t, ht, rfl⟩ := List.mem_map.mp hp
    have := g3 t ht
    simp only [Bool.and_eq_true, decide_eq_true_eq] at this
    have b1 : B 3 (t.1 : Rat) := ⟨this.1, (show intBits ((1 : Nat) : Int) ≤ 3 by decide)⟩
    have b2 : B 3 (t.2 : Rat) := ⟨this.2, (show intBits ((1 : Nat) : Int) ≤ 3 by decide)⟩
    exact ⟨(br.x.add (bz.mul b1)).mono (by decide), (br.y.add (bz.mul b2)).mono (by decide)⟩
  · rw [← List.map_drop] at hp
    obtain ⟨t, ht, rfl⟩ := List.mem_map.mp hp
    cases T with
    | nil => simp at g1
    | cons t0 T =>
      show ahead (pl z r t0) (pl z r t) = true
      rw [ahead_pl hz]
      exact g4 t ht
  · exact g5.map _ fun a b hne e => hne (pl_inj hz e)
  · simp only [List.length_map] at hi n1 n2 ⊢
    obtain ⟨t, ht, rfl⟩ := List.mem_map.mp ho
    have hj : (i + T.length - 1) % T.length < T.length := Nat.mod_lt _ (by omega)
    rw [getD_map_pl hj] at n1 ⊢
    rw [getD_map_pl hi] at n2 ⊢
    have := List.all_eq_true.mp (g6 i (List.mem_range.mpr hi)) t ht
    simp only [Bool.or_eq_true, decide_eq_true_eq] at this
    rcases this with (e | e) | e
    · exact absurd (by rw [e]) n1
    · exact absurd (by rw [e]) n2
    · rw [cross_pl]
      exact Rat.mul_pos (Rat.mul_pos hz hz) (Rat.intCast_pos.mpr e)
theorem p_law_drawn_patch : ∀ ds M q, c_law_drawn_patch ds M q → rdCs G ir__law_drawn_patch (zEnds q) (zstart N__law_drawn_patch ds) M := by
  rintro ds M q ⟨p, n, rfl, ⟨h1, h2⟩, w⟩
  simp only [ir__law_drawn_patch, N__law_drawn_patch, c_law_of, c_law_drawn_point, zLst, zGTup_PT, zTuple1, rdCs, rdC, rd, rds, rdc, rdo, rdg, rdgs, rdi, rdAV, rdAT, rdOV, rdOT, ofV, mkT, testV, zVar, slot, zCst, zBin, zUn, zChain, zAndV, zOrV, zAndT, zOrT, zNotV, zNotT, zIte, zIteT, zTup, zTupS, zANil, zACons, zAStar, zCall, zCallK, zONone, zOSome, zSlice, zBitsD, zGName, zGTup_tup, zGTup_lst, zGTup_FR, zGsNil, zGsCons,   zGItem, zISeq, zIRng, zIZip, zIEnum, zYes, zAugD, zstart, zOp, zAdd, zSub, zMul, zFdiv, zMod, zPow, zShl, zCo, zEq, zNe, zIntC, zIs, zIsn, Zz.isNon, zBi, zLen, zAbs, zNegD, zTru, zBl, zRgL, zInt1, zMax2, zMin2, itemsOf, Zz.listOfD, Tgs.len, List.map_cons, List.map_nil, List.length_cons, List.length_nil, List.replicate_succ, List.replicate_zero, List.cons_append, List.nil_append, List.append_nil, List.set_cons_zero, List.set_cons_succ, Nat.sub_self, Nat.reduceSub, Nat.reduceAdd, reduceIte, Bool.false_eq_true, zIx_t0, zIx_t1, zIx_t2, zIx_t3, Bool.not_true, Bool.not_false, G, ctr, cst, zIsi_int, zIsi_tup, zIsi_lst, zIsi_bl, isTy, Option.some.injEq, exists_eq_left', List.cons.injEq, D.int.injEq, and_true, true_and, exists_and_left, and_self, okd_int, eqD_int, zComp, zwipe, zIx_fr0, zIx_fr1, Bool.true_and, Bool.and_true, decide_eq_true_eq, and_assoc, zIx_pt0, zIx_pt1, zIx_lk0, zIx_lk1, FR_inj, PT_inj, lookD_inj, PA_inj, PAs_inj, okd_FR, eqD_FR, okd_PT, eqD_PT, zSl_tup, cutD_1, cutD_to1, D.tup.injEq, D.lst.injEq, D.ref.injEq, ne_eq, zSeq_asg, zSeq_iff, zSeq_ret, zSeq_retN, zSeq_expr, zSeq_next, zSeq_seq, zSeq_never, kSeq_whl, kSeq_for, zSeq_aug, zNext_nx, zEnds_nx, zEnds_rt, zIx_m0, zIx_m1, zIx_m2, zSetD_m0, zSetD_m2, zSl_lst, zSum_ints, mup_mup]
  refine ⟨n, h1, by decide, by decide, by omega, fun x hx ys hy => ⟨n + 1, ⟨ys, mup_same, hy⟩, by decide, by decide, by omega, fun sz hsz ys2 hy2 => ⟨4, rfl, n + 2, ⟨ys2, mup_same, hy2⟩, by decide, by omega, fun r hr ys3 hy3 => ?_⟩⟩⟩
  obtain ⟨T, rfl, hT⟩ : ∃ T : List I2, x = .tup (T.map fun t => .tup [.int t.1, .int t.2]) ∧ goodI T = true := by
    simp only [List.mem_cons, List.not_mem_nil, or_false] at hx
    rcases hx with e | e | e | e | e
    · exact ⟨[(0, 0), (2, 0), (2, 2), (0, 2)], e, by decide +kernel⟩
    · exact ⟨[(0, 0), (3, 0), (1, 2)], e, by decide +kernel⟩
    · exact ⟨[(0, 0), (2, -1), (3, 1), (2, 3), (0, 2)], e, by decide +kernel⟩
    · exact ⟨[(0, 0), (4, 1), (1, 1)], e, by decide +kernel⟩
    · exact ⟨[(0, 0), (1, -1), (2, 0), (1, 1)], e, by decide +kernel⟩
  obtain ⟨z, rfl, z0, bz⟩ : ∃ z : Rat, sz = FR z ∧ 0 < z ∧ B 3 z := by
    simp only [List.mem_cons, List.not_mem_nil, or_false] at hsz
    rcases hsz with e | e | e | e
    · exact ⟨1, e, by decide, ⟨by decide, by decide⟩⟩
    · exact ⟨⟨1, 2, by decide, by decide⟩, e, by decide +kernel, ⟨by decide, by decide⟩⟩
    · exact ⟨2, e, by decide, ⟨by decide, by decide⟩⟩
    · exact ⟨⟨4, 3, by decide, by decide⟩, e, by decide +kernel, ⟨by decide, by decide⟩⟩
  have gT := good_pl z0 bz hr hT
  have l8 := gT.l8
  rw [List.length_map] at l8
  show ∀ a, _ → zTurns a _ _ _ _ (T.map fun t => .tup [.int t.1, .int t.2]) _ _ _
  rw [mup_mup, mup_mup]
  intro a ha
  refine turns_mapA (fun t : I2 => PT (pl z r t)) ha (Nat.le_trans l8 (by decide)) (fun t ht M' K hK => ?_) ?_
  · have hb := gT.b _ (List.mem_map_of_mem ht)
    have bt : intBits t.1 ≤ 3 ∧ intBits t.2 ≤ 3 := by
      unfold goodI at hT
      simp only [Bool.and_eq_true, decide_eq_true_eq] at hT
      have := List.all_eq_true.mp hT.1.1.1.2 t ht
      simpa using this
    have b1 : B 3 (t.1 : Rat) := ⟨bt.1, (show intBits ((1 : Nat) : Int) ≤ 3 by decide)⟩
    have b2 : B 3 (t.2 : Rat) := ⟨bt.2, (show intBits ((1 : Nat) : Int) ≤ 3 by decide)⟩
    have m3 : (3 : Nat) ≤ 4400 := by decide
    simp only [c2, rdCs, rdC, rd, rds, rdc, rdo, rdg, rdgs, rdi, rdAV, rdAT, rdOV, rdOT, ofV, mkT, testV, zVar, slot, zCst, zBin, zUn, zChain, zAndV, zOrV, zAndT, zOrT, zNotV, zNotT, zIte, zIteT, zTup, zTupS, zANil, zACons, zAStar, zCall, zCallK, zONone, zOSome, zSlice, zBitsD, zGName, zGTup_tup, zGTup_lst, zGTup_FR, zGsNil, zGsCons,  zSetD, zGItem, zISeq, zIRng, zIZip, zIEnum, zYes, zAugD, zstart, zOp, zAdd, zSub, zMul, zFdiv, zMod, zPow, zShl, zCo, zEq, zNe, zIntC, zIs, zIsn, Zz.isNon, zBi, zLen, zAbs, zNegD, zTru, zBl, zRgL, zInt1, zMax2, zMin2, itemsOf, Zz.listOfD, Tgs.len, List.map_cons, List.map_nil, List.length_cons, List.length_nil, List.replicate_succ, List.replicate_zero, List.cons_append, List.nil_append, List.append_nil, List.set_cons_zero, List.set_cons_succ, Nat.sub_self, Nat.reduceSub, Nat.reduceAdd, reduceIte, Bool.false_eq_true, zIx_t0, zIx_t1, zIx_t2, zIx_t3, Bool.not_true, Bool.not_false, G, ctr, cst, zIsi_int, zIsi_tup, zIsi_lst, zIsi_bl, isTy, Option.some.injEq, exists_eq_left', List.cons.injEq, D.int.injEq, and_true, true_and, exists_and_left, and_self, okd_int, eqD_int, zComp, zwipe, zIx_fr0, zIx_fr1, Bool.true_and, Bool.and_true, decide_eq_true_eq, and_assoc, zIx_pt0, zIx_pt1, zIx_lk0, zIx_lk1, FR_inj, PT_inj, lookD_inj, PA_inj, PAs_inj, okd_FR, eqD_FR, okd_PT, eqD_PT, zSl_tup, cutD_1, cutD_to1, D.tup.injEq, D.lst.injEq, D.ref.injEq, ne_eq, zSeq_asg, zSeq_iff, zSeq_ret, zSeq_retN, zSeq_expr, zSeq_next, zSeq_seq, zSeq_never, zSeq_whl, zSeq_for, zSeq_aug, zNext_nx, zEnds_nx, zEnds_rt]
    exact ⟨(t.1 : Rat), rfl, bz.mono m3, b1.mono m3, hr.x.mono m3, (bz.mul b1).mono (by decide), (t.2 : Rat), rfl, bz.mono m3, b2.mono m3, hr.y.mono m3, (bz.mul b2).mono (by decide), hK⟩
  · refine ⟨_, rfl, mup M p (.lst ys3), sub_refl, ?_⟩
    have := w _ gT ys3 hy3
    unfold PA at this
    rw [List.map_map] at this
    exact this
theorem zEnd_f {a : Addr} {q : KD} {acc : List D} {M2 : Mh} : zEnd false a q acc M2 = q (.lst acc) (mdel M2 a) := rfl
theorem mup_swap {M : Mh} {a p : Addr} (h : a ≠ p) {x y z : MO} : mup (mup (mup M p x) a y) p z = mup (mup M p z) a y := by
  funext b
  unfold mup
  by_cases e : b = p
  · rw [if_pos e, if_neg (by rw [e]; exact fun z => h z.symm), if_pos e]
  · rw [if_neg e]
    by_cases e2 : b = a
    · rw [if_pos e2, if_pos e2]
    · rw [if_neg e2, if_neg e2, if_neg e, if_neg e]
theorem turns_pot {a p : Addr} {x1 x2 x3 : Option D} {M : Mh} {k : List D → Mh → Prop} (hap : a ≠ p) : ∀ (items : List D) (acc : List (List P2)) (n : Nat) (xs : List D), (∀ ps ∈ acc, Good ps) → acc.length + items.length ≤ 6 → n + 6 * items.length ≤ 100 → Pot n xs →
    (∀ (l : List (List P2)) (ys : List D), (∀ ps ∈ l, Good ps) → l.length = acc.length + items.length → Pot (n + 6 * items.length) ys → k (l.map PA) (mup (mup M p (.lst ys)) a (.lst (l.map PA)))) →
    zTurns a [some (.ref p), x1, x2, x3] (zGName 3) zYes (zCallK c_law_drawn_patch (zACons (zVar 0) zANil) zANil) items (acc.map PA) (mup (mup M p (.lst xs)) a (.lst (acc.map PA))) k
  | [], acc, n, xs, ga, h1, h2, hp, hk => by
    unfold zTurns
    exact hk acc xs ga (by simp) (by simpa using hp)
  | x :: items, acc, n, xs, ga, h1, h2, hp, hk => by
    unfold zTurns
    simp only [rdCs, rdC, rd, rds, rdc, rdo, rdg, rdgs, rdi, rdAV, rdAT, rdOV, rdOT, ofV, mkT, testV, zVar, slot, zCst, zBin, zUn, zChain, zAndV, zOrV, zAndT, zOrT, zNotV, zNotT, zIte, zIteT, zTup, zTupS, zANil, zACons, zAStar, zCall, zCallK, zONone, zOSome, zSlice, zBitsD, zGName, zGTup_tup, zGTup_lst, zGTup_FR, zGsNil, zGsCons,  zSetD, zGItem, zISeq, zIRng, zIZip, zIEnum, zYes, zAugD, zstart, zOp, zAdd, zSub, zMul, zFdiv, zMod, zPow, zShl, zCo, zEq, zNe, zIntC, zIs, zIsn, Zz.isNon, zBi, zLen, zAbs, zNegD, zTru, zBl, zRgL, zInt1, zMax2, zMin2, itemsOf, Zz.listOfD, Tgs.len, List.map_cons, List.map_nil, List.length_cons, List.length_nil, List.replicate_succ, List.replicate_zero, List.cons_append, List.nil_append, List.append_nil, List.set_cons_zero, List.set_cons_succ, Nat.sub_self, Nat.reduceSub, Nat.reduceAdd, reduceIte, Bool.false_eq_true, zIx_t0, zIx_t1, zIx_t2, zIx_t3, Bool.not_true, Bool.not_false, G, ctr, cst, zIsi_int, zIsi_tup, zIsi_lst, zIsi_bl, isTy, Option.some.injEq, exists_eq_left', List.cons.injEq, D.int.injEq, and_true, true_and, exists_and_left, and_self, okd_int, eqD_int, zComp, zwipe, zIx_fr0, zIx_fr1, Bool.true_and, Bool.and_true, decide_eq_true_eq, and_assoc, zIx_pt0, zIx_pt1, zIx_lk0, zIx_lk1, FR_inj, PT_inj, lookD_inj, PA_inj, PAs_inj, okd_FR, eqD_FR, okd_PT, eqD_PT, zSl_tup, cutD_1, cutD_to1, D.tup.injEq, D.lst.injEq, D.ref.injEq, ne_eq, zSeq_asg, zSeq_iff, zSeq_ret, zSeq_retN, zSeq_expr, zSeq_next, zSeq_seq, zSeq_never, zSeq_whl, zSeq_for, zSeq_aug, zNext_nx, zEnds_nx, zEnds_rt]
    rw [List.length_cons] at h1 h2
    refine ⟨p, n, rfl, ⟨⟨xs, by rw [mup_ne (fun e => hap e.symm), mup_same], hp⟩, by omega⟩, fun ps gps ys hy => ?_⟩
    rw [mup_swap hap]
    refine ⟨mup_same, ?_, ?_⟩
    · rw [List.length_map]
      have : (6 : Nat) < sizeLine := by decide
      omega
    · rw [mup_mup, ← List.map_singleton, ← List.map_append]
      refine turns_pot hap items (acc ++ [ps]) (n + 6) ys (fun q hq => ?_) (by rw [List.length_append, List.length_singleton]; omega) (by omega) hy (fun l zs gl hl hz => hk l zs gl ?_ ?_)
      · rcases List.mem_append.mp hq with hq | hq
        · exact ga q hq
        · obtain rfl : q = ps := by simpa using hq
          exact gps
      · rw [hl, List.length_append, List.length_singleton, List.length_cons]; omega
      · rw [List.length_cons]
        have : n + 6 + 6 * items.length = n + 6 * (items.length + 1) := by omega
        rw [← this]; exact hz
end K46
end
section
/-! S1: repr of a few whole numbers in a tuple. -/
namespace Zz
open PySem PySem.Spec PyProof.Rows L2
open PySem.Builtin.Int (intBits)

theorem okds_ints {n : Nat} : ∀ is : List Int, okds n (is.map D.int) = true
  | [] => by cases n <;> rfl
  | x :: xs => by
    rw [List.map_cons]
    unfold okds
    rw [okds_ints xs, Bool.and_true]
    cases n <;> rfl
theorem toPys_ints : ∀ is : List Int, toPys (is.map D.int) = is.map PyData.int
  | [] => rfl
  | x :: xs => by
    rw [List.map_cons]
    unfold toPys
    rw [toPys_ints xs]; rfl
theorem log2_of_bits {i : Int} (h : intBits i ≤ 1920) : i.natAbs.log2 < 1920 := by
  by_cases z : i.natAbs = 0
  · rw [z]; decide
  · exact (Nat.log2_lt z).mpr (intBits_le_iff.mp h)
theorem showableAll_ints : ∀ is : List Int, (∀ i ∈ is, intBits i ≤ 1920) → PyData.showableAll (is.map PyData.int) = true
  | [], _ => rfl
  | x :: xs, h => by
    rw [List.map_cons]
    unfold PyData.showableAll
    rw [showableAll_ints xs fun i hi => h i (List.mem_cons_of_mem _ hi), Bool.and_true]
    exact decide_eq_true (log2_of_bits (h x List.mem_cons_self))
theorem short_ints : ∀ is : List Int, (∀ i ∈ is, intBits i ≤ 1920) → PyData.leavesShortAll 1921 (is.map PyData.int) = true
  | [], _ => rfl
  | x :: xs, h => by
    rw [List.map_cons]
    unfold PyData.leavesShortAll
    rw [short_ints xs fun i hi => h i (List.mem_cons_of_mem _ hi), Bool.and_true]
    have e := int_text_length_le (k := 1920) (by decide) (log2_of_bits (h x List.mem_cons_self))
    show decide ((PyData.shown (.int x)).length ≤ 1921) = true
    refine decide_eq_true ?_
    show (Str.ofString (toString x)).length ≤ 1921
    rw [PySem.ofString_length]; exact e
theorem bulk_ints : ∀ is : List Int, PyData.bulkAll (is.map PyData.int) = is.length
  | [] => rfl
  | x :: xs => by
    rw [List.map_cons]
    unfold PyData.bulkAll
    rw [bulk_ints xs, List.length_cons]
    show 0 + 1 + xs.length = xs.length + 1
    omega
theorem show_ints {is : List Int} (h : ∀ i ∈ is, intBits i ≤ 1920) (hl : is.length ≤ 10) : ShowOk (.tup (is.map D.int)) := by
  have e : toPy (.tup (is.map D.int)) = .tuple (is.map PyData.int) := by
    show PyData.tuple (toPys (is.map D.int)) = _
    rw [toPys_ints]
  refine ⟨?_, ?_, ?_⟩
  · unfold okd
    exact okds_ints is
  · rw [e]
    unfold PyData.showable
    exact showableAll_ints is h
  · rw [e]
    have := PyData.shown_le_bulk 1921 (by decide) (.tuple (is.map PyData.int)) (by unfold PyData.leavesShort; exact short_ints is h)
    have hb : PyData.bulk (.tuple (is.map PyData.int)) = is.length := by unfold PyData.bulk; exact bulk_ints is
    rw [hb] at this
    have : (30000 : Nat) ≤ sizeLine := by decide
    omega
theorem zRepr_tup {xs : List D} {M : Mh} {q : KD} (h : ShowOk (.tup xs)) (w : q (.str (toPy (.tup xs)).shown) M) : zRepr [.tup xs] M q := ⟨⟨h, xs, .inl rfl⟩, w⟩
theorem show_FR {r : Rat} (h : B 1920 r) : ShowOk (FR r) := show_ints (is := [r.num, (r.den : Int)]) (fun i hi => by
  have e : i = r.num ∨ i = r.den := by simpa using hi
  rcases e with e | e
  · rw [e]; exact h.n
  · rw [e]; exact h.d) (by simp)
end Zz
namespace K46
open PySem PySem.Spec PyProof.Rows L2 Zz
open PySem.Builtin.Int (intBits)
theorem B_root {w s : Rat} {k : Nat} (h : w * w = s) (b : B k s) : B k w := by
  have hp : w ^ 2 = s := by rw [← h, Rat.pow_succ, Rat.pow_one]
  have hd : w.den ^ 2 = s.den := by rw [← Rat.den_pow, hp]
  have hn : w.num ^ 2 = s.num := by rw [← Rat.num_pow, hp]
  have le_sq : ∀ n : Nat, n ≤ n ^ 2 := fun n => by
    rw [Nat.pow_succ, Nat.pow_one]
    by_cases z : n = 0
    · subst z; exact Nat.le_refl _
    · exact Nat.le_mul_of_pos_left n (by omega)
  refine ⟨bits_le ?_ b.n, bits_le ?_ b.d⟩
  · rw [← hn, Int.natAbs_pow]; exact le_sq _
  · rw [Int.natAbs_natCast, Int.natAbs_natCast, ← hd]; exact le_sq _
theorem mom_show {m s : Rat} {d : D} (h : IsMom m s d) (bm : B 17 m) (bs : B 1173 s) : ∃ xs, d = .tup xs ∧ ShowOk (.tup xs) := by
  rcases h with ⟨w, w0, w1, rfl⟩ | ⟨n, p, q, r, p0, g, e1, e2, rfl⟩
  · exact ⟨_, rfl, show_FR ((bm.add (B_root w1 bs)).mono (by decide))⟩
  · refine ⟨_, rfl, ?_⟩
    have em := mul_den m
    have es := mul_den s
    have hN : (((m.den * m.den * s.den : Nat) : Int) : Rat) = (m.den : Rat) * m.den * s.den := by
      rw [Rat.intCast_natCast, Rat.natCast_mul, Rat.natCast_mul]
    have a1 : p * (-2 * m.num * m.den * s.den) = ((m.den * m.den * s.den : Nat) : Int) * q := by
      refine Rat.intCast_inj.mp ?_
      rw [Rat.intCast_mul p, Rat.intCast_mul ((m.den * m.den * s.den : Nat) : Int) q, hN, e1, Rat.intCast_mul, Rat.intCast_mul, Rat.intCast_mul, ← em, Rat.intCast_natCast, Rat.intCast_natCast]
      have : ((-2 : Int) : Rat) = -2 := rfl
      rw [this]
      generalize (m.den : Rat) = x at *
      generalize (s.den : Rat) = y at *
      generalize (p : Rat) = z at *
      grind
    have a2 : p * (m.num * m.num * s.den - s.num * m.den * m.den) = ((m.den * m.den * s.den : Nat) : Int) * r := by
      refine Rat.intCast_inj.mp ?_
      rw [Rat.intCast_mul p, Rat.intCast_mul ((m.den * m.den * s.den : Nat) : Int) r, hN, e2, Rat.intCast_sub, Rat.intCast_mul, Rat.intCast_mul, Rat.intCast_mul, Rat.intCast_mul, ← em, ← es, Rat.intCast_natCast, Rat.intCast_natCast]
      generalize (m.den : Rat) = x at *
      generalize (s.den : Rat) = y at *
      generalize (p : Rat) = z at *
      grind
    obtain ⟨k, hk⟩ := prim_dvd g a1 a2
    have N0 : 0 < ((m.den * m.den * s.den : Nat) : Int) := by
      have := Nat.mul_pos (Nat.mul_pos m.den_pos m.den_pos) s.den_pos
      exact_mod_cast this
    have k0 : 0 < k := by
      refine Int.lt_of_mul_lt_mul_left (a := p) ?_ (by omega)
      rw [Int.mul_zero, ← hk]; exact N0
    have pn : p ≠ 0 := by omega
    have b1 : -2 * m.num * m.den * s.den = k * q := by
      rw [hk, Int.mul_assoc p k q] at a1
      exact Int.eq_of_mul_eq_mul_left pn a1
    have b2 : m.num * m.num * s.den - s.num * m.den * m.den = k * r := by
      rw [hk, Int.mul_assoc p k r] at a2
      exact Int.eq_of_mul_eq_mul_left pn a2
    have le : ∀ x y : Int, y = k * x → x.natAbs ≤ y.natAbs := fun x y e => by
      rw [e, Int.natAbs_mul]
      exact Nat.le_mul_of_pos_left _ (by omega)
    have bN : intBits ((m.den * m.den * s.den : Nat) : Int) ≤ 1920 := by
      rw [Int.natCast_mul, Int.natCast_mul]
      exact bmul (bmul bm.d bm.d (Nat.le_refl _)) bs.d (by decide)
    have bQ : intBits (-2 * m.num * m.den * s.den) ≤ 1920 := bmul (bmul (bmul (by decide : intBits (-2) ≤ 2) bm.n (Nat.le_refl _)) bm.d (Nat.le_refl _)) bs.d (by decide)
    have bR : intBits (m.num * m.num * s.den - s.num * m.den * m.den) ≤ 1920 := bsub (bmul (bmul bm.n bm.n (Nat.le_refl _)) bs.d (Nat.le_refl _)) (bmul (bmul bs.n bm.d (Nat.le_refl _)) bm.d (Nat.le_refl _)) (by decide)
    refine show_ints (is := [p, q, r, 1]) (fun i hi => ?_) (by simp)
    have e : i = p ∨ i = q ∨ i = r ∨ i = 1 := by simpa using hi
    rcases e with e | e | e | e
    · rw [e]; exact bits_le (le p _ (by rw [hk, Int.mul_comm])) bN
    · rw [e]; exact bits_le (le q _ b1) bQ
    · rw [e]; exact bits_le (le r _ b2) bR
    · rw [e]; decide
end K46
end
section
/-! S2: the shown text of whole numbers is a text of true signs. -/
namespace Zz
open PySem PySem.Spec PyProof.Rows L2
open PySem.Builtin.Int (intBits)

theorem strOk_of (s : String) : PyData.strOk (Str.ofString s) = true := by
  unfold PyData.strOk
  rw [Str.ofString_eq_toList]
  show ((s.toList.map Char.toNat).toArray.all _) = true
  rw [List.all_toArray]
  refine List.all_eq_true.mpr fun x hx => ?_
  obtain ⟨c, hc, rfl⟩ := List.mem_map.mp hx
  refine decide_eq_true ?_
  have hv : Nat.isValidChar c.val.toNat := c.valid
  unfold Nat.isValidChar at hv
  show c.val.toNat < 0x110000
  omega
theorem strOk_app {a b : Str} (h1 : PyData.strOk a = true) (h2 : PyData.strOk b = true) : PyData.strOk (a ++ b) = true := by
  unfold PyData.strOk at *
  show ((a.cps ++ b.cps).all _) = true
  rw [Array.all_append, h1, h2]; rfl
theorem strOk_join {s : Str} (hs : PyData.strOk s = true) : ∀ ts : List Str, (∀ t ∈ ts, PyData.strOk t = true) → PyData.strOk (Str.join s ts) = true
  | [], _ => by
    exact strOk_of ""
  | [x], h => by
    show PyData.strOk x = true
    exact h x List.mem_cons_self
  | x :: y :: r, h => by
    have ih := strOk_join hs (y :: r) fun t ht => h t (List.mem_cons_of_mem _ ht)
    exact strOk_app (strOk_app (h x List.mem_cons_self) hs) ih
theorem strOk_ints (is : List Int) : PyData.strOk (toPy (.tup (is.map D.int))).shown = true := by
  have e : toPy (.tup (is.map D.int)) = .tuple (is.map PyData.int) := by
    show PyData.tuple (toPys (is.map D.int)) = _
    rw [toPys_ints]
  rw [e]
  have es : ∀ is : List Int, PyData.shownAll (is.map PyData.int) = is.map fun i => Str.ofString (toString i) := fun is => by
    induction is with
    | nil => rfl
    | cons x xs ih =>
      rw [List.map_cons]
      unfold PyData.shownAll
      rw [ih]; rfl
  unfold PyData.shown
  rw [es]
  unfold tupleText
  refine strOk_app (strOk_app (strOk_of _) (strOk_join (strOk_of _) _ fun t ht => ?_)) (by split <;> exact strOk_of _)
  obtain ⟨i, hi, rfl⟩ := List.mem_map.mp ht
  exact strOk_of _
end Zz
end
section
/-! K46n: m + √s against fractions, steps; ways, plainly. -/
namespace K46
open PySem PySem.Spec PyProof.Rows L2 Zz
open PySem.Builtin.Int (intBits)

theorem sq_le {a b : Rat} (h0 : 0 ≤ a) (h : a ≤ b) : a * a ≤ b * b := by
  have := Rat.mul_nonneg (show 0 ≤ b - a by grind) (show 0 ≤ b + a by grind)
  have e : (b - a) * (b + a) = b * b - a * a := by grind
  rw [e] at this
  grind
theorem sq_lt' {a b : Rat} (h0 : 0 ≤ a) (h : a < b) : a * a < b * b := by
  have := Rat.mul_pos (show 0 < b - a by grind) (show 0 < b + a by grind)
  have e : (b - a) * (b + a) = b * b - a * a := by grind
  rw [e] at this
  grind
theorem le_of_sq {a b : Rat} (hb : 0 ≤ b) (h : a * a ≤ b * b) : a ≤ b := by
  by_cases c : a ≤ b
  · exact c
  · have := sq_lt' hb (Rat.not_le.mp c)
    grind
theorem LeM_mono {x y m s : Rat} (h : x ≤ y) (hy : LeM y m s) : LeM x m s := by
  rcases hy with hy | hy
  · exact .inl (Rat.le_trans h hy)
  · by_cases c : x ≤ m
    · exact .inl c
    · right
      refine Rat.le_trans (sq_le ?_ ?_) hy
      · grind
      · grind
theorem LeM_num {x m s r A S : Rat} (r0 : 0 < r) (hm : m * r = A) (hs : s * (r * r) = S) : LeM x m s ↔ (x * r - A ≤ 0 ∨ (x * r - A) * (x * r - A) ≤ S) := by
  have e : x * r - A = (x - m) * r := by rw [← hm]; grind
  have e2 : (x * r - A) * (x * r - A) = (x - m) * (x - m) * (r * r) := by rw [e]; grind
  have rr : 0 < r * r := Rat.mul_pos r0 r0
  rw [e2, e, ← hs]
  unfold LeM
  have h1 : (x - m) * r ≤ 0 ↔ x ≤ m := by
    constructor
    · intro h
      by_cases c : x ≤ m
      · exact c
      · have := Rat.mul_pos (show 0 < x - m by grind) r0
        grind
    · intro h
      have := Rat.mul_nonneg (show 0 ≤ m - x by grind) (Rat.le_of_lt r0)
      grind
  have h2 : (x - m) * (x - m) * (r * r) ≤ s * (r * r) ↔ (x - m) * (x - m) ≤ s := by rw [← Rat.not_lt, ← Rat.not_lt, Rat.mul_lt_mul_right rr]
  rw [h1, h2]
theorem LeM_root {x m s w : Rat} (w0 : 0 ≤ w) (hw : w * w = s) : LeM x m s ↔ x ≤ m + w := by
  unfold LeM
  constructor
  · rintro (h | h)
    · grind
    · rw [← hw] at h
      have := le_of_sq w0 h
      grind
  · intro h
    by_cases c : x ≤ m
    · exact .inl c
    · right
      rw [← hw]
      exact sq_le (by grind) (by grind)
theorem LeM_bound {x m s : Rat} (s0 : 0 ≤ s) (h : LeM x m s) : x ≤ m + s + 1 := by
  rcases h with h | h
  · grind
  · by_cases c : x - m ≤ 1
    · grind
    · have := Rat.mul_nonneg (show 0 ≤ x - m - 1 by grind) (show 0 ≤ x - m by grind)
      have e : (x - m - 1) * (x - m) = (x - m) * (x - m) - (x - m) := by grind
      rw [e] at this
      generalize (x - m) * (x - m) = y at *
      grind
/-- shifted and scaled -/
theorem LeM_aff {k f st m s y : Rat} (h0 : 0 < st) (hy : y * st = 1) : LeM k ((m + -f) * y) (s * (y * y)) ↔ LeM (f + k * st) m s := by
  have y0 : 0 < y := by
    by_cases c : 0 < y
    · exact c
    · have := Rat.mul_nonneg (show 0 ≤ -y by grind) (Rat.le_of_lt h0)
      grind
  have hs : (s * (y * y)) * (st * st) = s := by
    have : y * y * (st * st) = 1 := by
      have : y * y * (st * st) = (y * st) * (y * st) := by grind
      rw [this, hy, Rat.mul_one]
    rw [Rat.mul_assoc, this, Rat.mul_one]
  have hm : ((m + -f) * y) * st = m - f := by rw [Rat.mul_assoc, hy]; grind
  rw [LeM_num h0 hm hs]
  unfold LeM
  have e : k * st - (m - f) = f + k * st - m := by grind
  rw [e]
  constructor
  · rintro (h | h)
    · left; grind
    · exact .inr h
  · rintro (h | h)
    · left; grind
    · exact .inr h
theorem cast_succ (k : Nat) : ((k + 1 : Nat) : Rat) = (k : Rat) + 1 := by rw [Rat.natCast_add]; rfl
theorem step_le {f st : Rat} (h0 : 0 ≤ st) {i j : Nat} (h : i ≤ j) : f + (i : Rat) * st ≤ f + (j : Rat) * st := by
  obtain ⟨k, rfl⟩ := Nat.exists_eq_add_of_le h
  rw [Rat.natCast_add]
  have := Rat.mul_nonneg (Rat.natCast_nonneg (a := k)) h0
  generalize (k : Rat) = a at *
  grind
theorem isK_le {f st m s : Rat} (h0 : 0 ≤ st) {k j : Nat} (h : IsK f st m s k) (hj : LeM (f + (j : Rat) * st) m s) : j ≤ k := by
  by_cases c : j ≤ k
  · exact c
  · exact absurd (LeM_mono (step_le h0 (show k + 1 ≤ j by omega)) hj) h.2
theorem isK_unique {f st m s : Rat} (h0 : 0 ≤ st) {k j : Nat} (h : IsK f st m s k) (hj : IsK f st m s j) : k = j := by
  have := isK_le h0 h hj.1
  have := isK_le h0 hj h.1
  omega
theorem isK_lt {f st m s : Rat} (h0 : 0 ≤ st) {k N : Nat} (h : IsK f st m s k) (hN : ¬ LeM (f + (N : Rat) * st) m s) : k < N := by
  by_cases c : k < N
  · exact c
  · exact absurd (LeM_mono (step_le h0 (show N ≤ k by omega)) h.1) hN
theorem isK_exists {f st m s : Rat} (hf : LeM f m s) : ∀ N : Nat, ¬ LeM (f + (N : Rat) * st) m s → ∃ k, IsK f st m s k
  | 0, h => by
    refine absurd ?_ h
    have e : f + ((0 : Nat) : Rat) * st = f := by
      show f + 0 * st = f
      grind
    rw [e]; exact hf
  | N + 1, h => by
    by_cases c : LeM (f + (N : Rat) * st) m s
    · exact ⟨N, c, h⟩
    · exact isK_exists hf N c
theorem kOf_eq {f st m s : Rat} (h0 : 0 ≤ st) {k : Nat} (h : IsK f st m s k) : kOf f st m s = k := by
  have e : ∃ k, IsK f st m s k := ⟨k, h⟩
  unfold kOf
  rw [dif_pos e]
  exact isK_unique h0 (Classical.choose_spec e) h
/-! ### twelfths -/
theorem Tw.b {t : Rat} (h : Tw t) : B 8 t := by
  obtain ⟨n, rfl, hn⟩ := h
  have e : (n : Rat) / 12 = Rat.divInt n 12 := by rw [Rat.divInt_eq_div]; rfl
  rw [e]
  refine B_divInt (by decide) (intBits_le_iff.mpr ?_) (by decide)
  have : (2 : Nat) ^ 8 = 256 := by decide
  omega
theorem tw_cmp {a b : Int} : (a : Rat) / 12 ≤ (b : Rat) / 12 ↔ a ≤ b := by
  rw [← Rat.intCast_le_intCast]
  generalize (a : Rat) = x
  generalize (b : Rat) = y
  constructor <;> intro h <;> grind
theorem tw_cmp' {a b : Int} : (a : Rat) / 12 < (b : Rat) / 12 ↔ a < b := by
  rw [← Rat.not_le, tw_cmp]; omega
/-! ### places -/
theorem legs_cons {r0 r1 : Rep} {rest : List Rep} : legs (r0 :: r1 :: rest) = (r0, r1) :: legs (r1 :: rest) := rfl
theorem place_cons {r0 r1 : Rep} {rest : List Rep} {t : Rat} : place (r0 :: r1 :: rest) t = if t ≤ r1.1 then placeLeg (r0, r1) t else place (r1 :: rest) t := by
  unfold place legOf
  rw [legs_cons, List.find?_cons]
  by_cases c : t ≤ r1.1
  · rw [if_pos c, decide_eq_true c]
  · rw [if_neg c, decide_eq_false c]
theorem legOf_some : ∀ (r0 : Rep) (rest : List Rep) (t : Rat), r0.1 ≤ t → t ≤ lastT (r0 :: rest) → rest ≠ [] → ∃ l, l ∈ legs (r0 :: rest) ∧ legOf (r0 :: rest) t = some l ∧ l.1.1 ≤ t ∧ t ≤ l.2.1
  | r0, [], t, _, _, h => absurd rfl h
  | r0, r1 :: rest, t, h0, h1, _ => by
    by_cases c : t ≤ r1.1
    · refine ⟨(r0, r1), by rw [legs_cons]; exact List.mem_cons_self, ?_, h0, c⟩
      unfold legOf
      rw [legs_cons, List.find?_cons, decide_eq_true c]
    · cases rest with
      | nil => exact absurd h1 c
      | cons r2 rest =>
        obtain ⟨l, a1, a2, a3, a4⟩ := legOf_some r1 (r2 :: rest) t (Rat.le_of_lt (Rat.not_le.mp c)) h1 (by simp)
        refine ⟨l, by rw [legs_cons]; exact List.mem_cons_of_mem _ a1, ?_, a3, a4⟩
        unfold legOf at a2 ⊢
        rw [legs_cons, List.find?_cons, decide_eq_false c]
        exact a2
theorem way_legOf {w : List Rep} {t : Rat} (g : GoodWay w) (h : OnWay w t) : ∃ l, l ∈ legs w ∧ legOf w t = some l ∧ l.1.1 ≤ t ∧ t ≤ l.2.1 := by
  have l2 := g.l2
  match w, l2, h with
  | r0 :: r1 :: rest, _, h => exact legOf_some r0 (r1 :: rest) t h.ge h.le (by simp)
theorem place_of {w : List Rep} {t : Rat} {l : Rep × Rep} (h : legOf w t = some l) : place w t = placeLeg l t := by
  unfold place; rw [h]
theorem B_share {l : Rep × Rep} {t : Rat} (g : GoodLeg l) (tw : Tw t) (h0 : l.1.1 ≤ t) (h1 : t ≤ l.2.1) : B 6 (t - l.1.1) := by
  obtain ⟨n, rfl, _⟩ := tw
  obtain ⟨a, ea, _⟩ := g.t0
  obtain ⟨b, eb, _⟩ := g.t1
  have le := g.le
  rw [ea] at h0 le ⊢
  rw [eb] at h1 le
  have h0 := tw_cmp.mp h0
  have h1 := tw_cmp.mp h1
  have e3 : (b : Rat) / 12 - (a : Rat) / 12 = ((b - a : Int) : Rat) / 12 := by rw [Rat.intCast_sub]; generalize (a : Rat) = x; generalize (b : Rat) = y; grind
  have le : b - a ≤ 36 := by
    rw [e3, show (3 : Rat) = ((36 : Int) : Rat) / 12 by decide +kernel] at le
    exact tw_cmp.mp le
  have e : (n : Rat) / 12 - (a : Rat) / 12 = Rat.divInt (n - a) 12 := by rw [Rat.divInt_eq_div, Rat.intCast_sub]; generalize (a : Rat) = x; generalize (n : Rat) = y; show _ = _ / (12 : Rat); grind
  rw [e]
  refine B_divInt (by decide) (intBits_le_iff.mpr ?_) (by decide)
  have : (2 : Nat) ^ 6 = 64 := by decide
  omega
theorem GoodLeg.ne {l : Rep × Rep} (g : GoodLeg l) : l.2.1 - l.1.1 ≠ 0 := by
  have := g.lt
  intro e
  grind
theorem BP_placeLeg {l : Rep × Rep} {t : Rat} (g : GoodLeg l) (tw : Tw t) (h0 : l.1.1 ≤ t) (h1 : t ≤ l.2.1) : BP 24 (placeLeg l t) := by
  have b := (B_share g tw h0 h1).div g.ne g.b
  exact ⟨(g.p0.x.add (b.mul (g.p1.x.sub g.p0.x))).mono (by decide), (g.p0.y.add (b.mul (g.p1.y.sub g.p0.y))).mono (by decide)⟩
theorem BP_place {w : List Rep} {t : Rat} (g : GoodWay w) (h : OnWay w t) : BP 24 (place w t) := by
  obtain ⟨l, h1, h2, h3, h4⟩ := way_legOf g h
  rw [place_of h2]
  exact BP_placeLeg (g.leg l h1) h.tw h3 h4
/-! ### distances -/
theorem cauchy {a b c d x y : Rat} (hx : 0 ≤ x) (hy : 0 ≤ y) (h1 : a * a + b * b ≤ x * x) (h2 : c * c + d * d ≤ y * y) : a * c + b * d ≤ x * y := by
  refine le_of_sq (Rat.mul_nonneg hx hy) ?_
  have e : (a * c + b * d) * (a * c + b * d) = (a * a + b * b) * (c * c + d * d) - (a * d - b * c) * (a * d - b * c) := by grind
  have p : 0 ≤ (a * d - b * c) * (a * d - b * c) := sq_nonneg _
  have q : (a * a + b * b) * (c * c + d * d) ≤ (x * x) * (y * y) := by
    have n1 : 0 ≤ a * a + b * b := Rat.add_nonneg (sq_nonneg _) (sq_nonneg _)
    have n2 : 0 ≤ y * y := sq_nonneg _
    have s1 := Rat.mul_nonneg n1 (show 0 ≤ y * y - (c * c + d * d) by generalize c * c + d * d = u at *; grind)
    have s2 := Rat.mul_nonneg (show 0 ≤ x * x - (a * a + b * b) by generalize a * a + b * b = u at *; grind) n2
    generalize a * a + b * b = u at *
    generalize c * c + d * d = v at *
    generalize x * x = X at *
    generalize y * y = Y at *
    grind
  have e2 : x * y * (x * y) = (x * x) * (y * y) := by grind
  rw [e, e2]
  generalize (a * a + b * b) * (c * c + d * d) = u at *
  generalize (a * d - b * c) * (a * d - b * c) = v at *
  grind
theorem sqd_eq (p q : P2) : sqd p q = (p.1 - q.1) * (p.1 - q.1) + (p.2 - q.2) * (p.2 - q.2) := rfl
theorem tri_id (p q r : P2) : sqd p r = sqd p q + sqd q r + 2 * ((p.1 - q.1) * (q.1 - r.1) + (p.2 - q.2) * (q.2 - r.2)) := by
  rw [sqd_eq, sqd_eq, sqd_eq]; grind
theorem tri {p q r : P2} {x y : Rat} (hx : 0 ≤ x) (hy : 0 ≤ y) (h1 : sqd p q ≤ x * x) (h2 : sqd q r ≤ y * y) : sqd p r ≤ (x + y) * (x + y) := by
  have c : (p.1 - q.1) * (q.1 - r.1) + (p.2 - q.2) * (q.2 - r.2) ≤ x * y := cauchy hx hy h1 h2
  have e : (x + y) * (x + y) = x * x + y * y + 2 * (x * y) := by grind
  rw [tri_id p q r, e]
  generalize (p.1 - q.1) * (q.1 - r.1) + (p.2 - q.2) * (q.2 - r.2) = u at *
  generalize sqd p q = a at *
  generalize sqd q r = b at *
  generalize x * y = z at *
  generalize x * x = X at *
  generalize y * y = Y at *
  grind
theorem tri_lt {p q r : P2} {x y : Rat} (hx : 0 ≤ x) (hy : 0 ≤ y) (h1 : sqd p q ≤ x * x) (h2 : sqd q r < y * y) : sqd p r < (x + y) * (x + y) := by
  have c : (p.1 - q.1) * (q.1 - r.1) + (p.2 - q.2) * (q.2 - r.2) ≤ x * y := cauchy hx hy h1 (Rat.le_of_lt h2)
  have e : (x + y) * (x + y) = x * x + y * y + 2 * (x * y) := by grind
  rw [tri_id p q r, e]
  generalize (p.1 - q.1) * (q.1 - r.1) + (p.2 - q.2) * (q.2 - r.2) = u at *
  generalize sqd p q = a at *
  generalize sqd q r = b at *
  generalize x * y = z at *
  generalize x * x = X at *
  generalize y * y = Y at *
  grind
end K46
end
section
/-! K46o: a slow way, the distance to rims along it, plans. -/
namespace K46
open PySem PySem.Spec PyProof.Rows L2 Zz
open PySem.Builtin.Int (intBits)

theorem div_pos_le {x y d : Rat} (hd : 0 < d) (h : x * d ≤ y * d) : x ≤ y := by
  rw [← Rat.not_lt] at h ⊢
  exact fun z => h ((Rat.mul_lt_mul_right hd).mpr z)
theorem placeLeg_lip {l : Rep × Rep} {v t t' : Rat} (g : GoodLeg l) (sl : slowLeg v l) : sqd (placeLeg l t) (placeLeg l t') ≤ (v * (t' - t)) * (v * (t' - t)) := by
  have lt := g.lt
  have d0 : 0 < l.2.1 - l.1.1 := by grind
  have dd : 0 < (l.2.1 - l.1.1) * (l.2.1 - l.1.1) := Rat.mul_pos d0 d0
  have hn := g.ne
  have e1 : (t - l.1.1) / (l.2.1 - l.1.1) * (l.2.1 - l.1.1) = t - l.1.1 := Rat.div_mul_cancel hn
  have e2 : (t' - l.1.1) / (l.2.1 - l.1.1) * (l.2.1 - l.1.1) = t' - l.1.1 := Rat.div_mul_cancel hn
  have sl : sqd l.1.2 l.2.2 ≤ (v * (l.2.1 - l.1.1)) * (v * (l.2.1 - l.1.1)) := sl
  unfold placeLeg
  generalize (t - l.1.1) / (l.2.1 - l.1.1) = s at *
  generalize (t' - l.1.1) / (l.2.1 - l.1.1) = s' at *
  generalize hD : l.2.1 - l.1.1 = D at *
  have es : sqd (led2 l.1.2 (sub2 l.2.2 l.1.2) s) (led2 l.1.2 (sub2 l.2.2 l.1.2) s') = (s - s') * (s - s') * sqd l.1.2 l.2.2 := by
    unfold sqd dot sub2 led2
    grind
  rw [es]
  refine div_pos_le dd ?_
  have f1 : (s - s') * (s - s') * sqd l.1.2 l.2.2 * (D * D) = (t - t') * (t - t') * sqd l.1.2 l.2.2 := by
    have : (s - s') * D = t - t' := by grind
    rw [← this]; grind
  have f2 : v * (t' - t) * (v * (t' - t)) * (D * D) = (t - t') * (t - t') * (v * D * (v * D)) := by grind
  rw [f1, f2]
  exact Rat.mul_le_mul_of_nonneg_left sl (sq_nonneg _)
theorem placeLeg_end {r0 r1 : Rep} (g : GoodLeg (r0, r1)) : placeLeg (r0, r1) r1.1 = r1.2 := by
  unfold placeLeg led2 sub2
  have e : (r1.1 - r0.1) / (r1.1 - r0.1) = 1 := by rw [Rat.div_def, Rat.mul_inv_cancel _ g.ne]
  show (r0.2.1 + (r1.1 - r0.1) / (r1.1 - r0.1) * (r1.2.1 - r0.2.1), r0.2.2 + (r1.1 - r0.1) / (r1.1 - r0.1) * (r1.2.2 - r0.2.2)) = r1.2
  rw [e]
  refine Prod.ext ?_ ?_
  · show r0.2.1 + 1 * (r1.2.1 - r0.2.1) = r1.2.1
    grind
  · show r0.2.2 + 1 * (r1.2.2 - r0.2.2) = r1.2.2
    grind
theorem placeLeg_begin {r0 r1 : Rep} : placeLeg (r0, r1) r0.1 = r0.2 := by
  unfold placeLeg led2 sub2
  have e : (r0.1 - r0.1) / (r1.1 - r0.1) = 0 := by rw [Rat.sub_self, Rat.div_def, Rat.zero_mul]
  show (r0.2.1 + (r0.1 - r0.1) / (r1.1 - r0.1) * (r1.2.1 - r0.2.1), r0.2.2 + (r0.1 - r0.1) / (r1.1 - r0.1) * (r1.2.2 - r0.2.2)) = r0.2
  rw [e]
  refine Prod.ext ?_ ?_
  · show r0.2.1 + 0 * (r1.2.1 - r0.2.1) = r0.2.1
    grind
  · show r0.2.2 + 0 * (r1.2.2 - r0.2.2) = r0.2.2
    grind
theorem place_lip {v : Rat} (v0 : 0 < v) : ∀ (r0 : Rep) (rest : List Rep) (t t' : Rat), (∀ l ∈ legs (r0 :: rest), GoodLeg l ∧ slowLeg v l) → rest ≠ [] → r0.1 ≤ t → t ≤ t' → t' ≤ lastT (r0 :: rest) →
    sqd (place (r0 :: rest) t) (place (r0 :: rest) t') ≤ (v * (t' - t)) * (v * (t' - t))
  | r0, [], _, _, _, h, _, _, _ => absurd rfl h
  | r0, r1 :: rest, t, t', hl, _, h0, h1, h2 => by
    rw [place_cons, place_cons]
    obtain ⟨g, sl⟩ := hl (r0, r1) (by rw [legs_cons]; exact List.mem_cons_self)
    have hl' : ∀ l ∈ legs (r1 :: rest), GoodLeg l ∧ slowLeg v l := fun l h => hl l (by rw [legs_cons]; exact List.mem_cons_of_mem _ h)
    by_cases c : t' ≤ r1.1
    · rw [if_pos c, if_pos (Rat.le_trans h1 c)]
      exact placeLeg_lip g sl
    · rw [if_neg c]
      have c := Rat.not_le.mp c
      cases rest with
      | nil => exact absurd h2 (Rat.not_le.mpr c)
      | cons r2 rest =>
        by_cases c2 : t ≤ r1.1
        · rw [if_pos c2]
          have a1 := placeLeg_lip (t := t) (t' := r1.1) g sl
          rw [placeLeg_end g] at a1
          have a2 := place_lip v0 r1 (r2 :: rest) r1.1 t' hl' (by simp) Rat.le_refl (Rat.le_of_lt c) h2
          have g2 := (hl' (r1, r2) (by rw [legs_cons]; exact List.mem_cons_self)).1
          have e : place (r1 :: r2 :: rest) r1.1 = r1.2 := by rw [place_cons, if_pos (Rat.le_of_lt g2.lt)]; exact placeLeg_begin
          rw [e] at a2
          have n1 : 0 ≤ v * (r1.1 - t) := Rat.mul_nonneg (Rat.le_of_lt v0) (by grind)
          have n2 : 0 ≤ v * (t' - r1.1) := Rat.mul_nonneg (Rat.le_of_lt v0) (by grind)
          have := tri n1 n2 a1 a2
          have e : v * (r1.1 - t) + v * (t' - r1.1) = v * (t' - t) := by grind
          rwa [e] at this
        · rw [if_neg c2]
          exact place_lip v0 r1 (r2 :: rest) t t' hl' (by simp) (Rat.le_of_lt (Rat.not_le.mp c2)) h1 h2
theorem clamp_rng (t : Rat) : 0 ≤ clamp t ∧ clamp t ≤ 1 := by
  unfold clamp
  by_cases c : t < 0
  · rw [if_pos c]; exact ⟨by decide, by decide⟩
  · rw [if_neg c]
    by_cases c2 : 1 < t
    · rw [if_pos c2]; exact ⟨by decide, by decide⟩
    · rw [if_neg c2]; exact ⟨Rat.not_lt.mp c, Rat.not_lt.mp c2⟩
theorem clamp_min {T u : Rat} (h0 : 0 ≤ u) (h1 : u ≤ 1) : 0 ≤ (u - clamp T) * (u + clamp T - 2 * T) := by
  unfold clamp
  by_cases c : T < 0
  · rw [if_pos c]
    exact Rat.mul_nonneg (by grind) (by grind)
  · rw [if_neg c]
    by_cases c2 : 1 < T
    · rw [if_pos c2]
      have := Rat.mul_nonneg (show 0 ≤ 1 - u by grind) (show 0 ≤ 2 * T - u - 1 by grind)
      grind
    · rw [if_neg c2]
      have := sq_nonneg (u - T)
      grind
theorem side_min {p a b : P2} {u : Rat} (hab : a ≠ b) (h0 : 0 ≤ u) (h1 : u ≤ 1) : sideSq p a b ≤ sqd p (led2 a (sub2 b a) u) := by
  unfold sideSq near
  have hL := dot_ne hab
  have L0 : 0 ≤ dot (sub2 b a) (sub2 b a) := Rat.add_nonneg (sq_nonneg _) (sq_nonneg _)
  have hT : part p a b * dot (sub2 b a) (sub2 b a) = dot (sub2 p a) (sub2 b a) := by unfold part; exact Rat.div_mul_cancel hL
  generalize part p a b = T at *
  have f : ∀ u, sqd p (led2 a (sub2 b a) u) = dot (sub2 p a) (sub2 p a) - 2 * u * dot (sub2 p a) (sub2 b a) + u * u * dot (sub2 b a) (sub2 b a) := fun u => by
    unfold sqd dot sub2 led2
    grind
  rw [f, f, ← hT]
  have := Rat.mul_nonneg (clamp_min (T := T) h0 h1) L0
  generalize clamp T = c at *
  generalize dot (sub2 b a) (sub2 b a) = L at *
  generalize dot (sub2 p a) (sub2 p a) = K at *
  grind
theorem rim_pt {l : List (List P2)} (g : GoodAll l) (p' : P2) : ∃ N : P2, sqd p' N = least (squares p' l) ∧ ∀ p : P2, least (squares p l) ≤ sqd p N := by
  obtain ⟨ps, hs, e⟩ := List.mem_map.mp (least_mem (squares_ne (p := p') g))
  have gp := g.good ps hs
  have hne : (sides ps).map (fun s => sideSq p' s.1 s.2) ≠ [] := by
    have hl := gp.l3
    have := sides_ne_nil (ps := ps) (by intro e; rw [e] at hl; simp at hl)
    intro e
    exact this (List.map_eq_nil_iff.mp e)
  obtain ⟨s, hside, e2⟩ := List.mem_map.mp (least_mem hne)
  refine ⟨near p' s.1 s.2, ?_, fun p => ?_⟩
  · show sideSq p' s.1 s.2 = _
    have e : rimSq p' ps = least (squares p' l) := e
    rw [← e]
    exact e2
  · have h1 : least (squares p l) ≤ rimSq p ps := least_le (List.mem_map_of_mem hs)
    have h2 : rimSq p ps ≤ sideSq p s.1 s.2 := least_le (List.mem_map.mpr ⟨s, hside, rfl⟩)
    have r := clamp_rng (part p' s.1 s.2)
    exact Rat.le_trans h1 (Rat.le_trans h2 (side_min (sides_ok gp hside).2.2 r.1 r.2))
section
variable {w : List Rep} {v : Rat} {l : List (List P2)} {x st : Rat}
theorem Task.st0 (h : Task w v l x st) : 0 < st := by
  obtain ⟨c, rfl, c0, _⟩ := h.sc
  have : (0 : Rat) < (c : Rat) := Rat.natCast_pos.mpr c0
  generalize (c : Rat) = y at *
  grind
/-- the rim's square, seen from the way -/
def wSq (w : List Rep) (l : List (List P2)) (t : Rat) : Rat := least (squares (place w t) l)
theorem way_lip (h : Task w v l x st) {t t' : Rat} (o : OnWay w t) (o' : OnWay w t') (le : t ≤ t') : sqd (place w t) (place w t') ≤ (v * (t' - t)) * (v * (t' - t)) := by
  have l2 := h.gw.l2
  have hl : ∀ l ∈ legs w, GoodLeg l ∧ slowLeg v l := fun l hl => ⟨h.gw.leg l hl, h.slow l hl⟩
  have ge := o.ge
  have le' := o'.le
  match w, l2, hl, ge, le' with
  | r0 :: r1 :: rest, _, hl, ge, le' => exact place_lip h.vp r0 (r1 :: rest) t t' hl (by simp) ge le le'
theorem way_LeM (h : Task w v l x st) {t t' y : Rat} (o : OnWay w t) (o' : OnWay w t') (le : t ≤ t') (hy : LeM y (t + x) (wSq w l t / (v * v))) : LeM y (t' + x) (wSq w l t' / (v * v)) := by
  by_cases c : LeM y (t' + x) (wSq w l t' / (v * v))
  · exact c
  · exfalso
    have vv : 0 < v * v := Rat.mul_pos h.vp h.vp
    have n0 : v * v ≠ 0 := Rat.ne_of_gt vv
    obtain ⟨c1, c2⟩ := not_or.mp c
    have c1 := Rat.not_le.mp c1
    have c2 := Rat.not_le.mp c2
    have c2 := (Rat.mul_lt_mul_right vv).mpr c2
    rw [Rat.div_mul_cancel n0] at c2
    rcases hy with hy | hy
    · grind
    · have hy : (y - (t + x)) * (y - (t + x)) * (v * v) ≤ wSq w l t / (v * v) * (v * v) := by
        rw [← Rat.not_lt] at hy ⊢
        exact fun z => hy ((Rat.mul_lt_mul_right vv).mp z)
      rw [Rat.div_mul_cancel n0] at hy
      obtain ⟨N, e, hN⟩ := rim_pt h.gl (place w t')
      have lip := way_lip h o o' le
      have r0 : 0 ≤ v * (y - (t' + x)) := Rat.mul_nonneg (Rat.le_of_lt h.vp) (by grind)
      have a0 : 0 ≤ v * (t' - t) := Rat.mul_nonneg (Rat.le_of_lt h.vp) (by grind)
      have e2 : sqd (place w t') N < v * (y - (t' + x)) * (v * (y - (t' + x))) := by
        rw [e]
        have : v * (y - (t' + x)) * (v * (y - (t' + x))) = (y - (t' + x)) * (y - (t' + x)) * (v * v) := by grind
        rw [this]; exact c2
      have key := tri_lt a0 r0 lip e2
      have e3 : v * (t' - t) + v * (y - (t' + x)) = v * (y - (t + x)) := by grind
      rw [e3] at key
      have e4 : v * (y - (t + x)) * (v * (y - (t + x))) = (y - (t + x)) * (y - (t + x)) * (v * v) := by grind
      rw [e4] at key
      have := hN (place w t)
      unfold wSq at hy
      grind
theorem B_le {k : Nat} {r : Rat} (b : B k r) : r ≤ ((2 ^ k : Nat) : Rat) := by
  have n := b.n
  have h := intBits_le_iff.mp n
  have e := mul_den r
  have d1 : (1 : Rat) ≤ (r.den : Rat) := by
    have : ((1 : Nat) : Rat) ≤ (r.den : Rat) := Rat.natCast_le_natCast.mpr r.den_pos
    exact this
  have hn : (r.num : Rat) ≤ ((2 ^ k : Nat) : Rat) := by
    rw [← Rat.intCast_natCast, Rat.intCast_le_intCast]
    omega
  by_cases c : 0 ≤ r
  · have := Rat.mul_nonneg c (show 0 ≤ (r.den : Rat) - 1 by grind)
    grind
  · have : (0 : Rat) ≤ ((2 ^ k : Nat) : Rat) := Rat.natCast_nonneg
    grind
/-- far enough -/
theorem far {f m s : Rat} (hf : -2 ≤ f) (h0 : (1 : Rat) / 12 ≤ st) (bm : B 17 m) (bs : B 1173 s) (s0 : 0 ≤ s) : ¬ LeM (f + ((2 ^ 1500 : Nat) : Rat) * st) m s := by
  intro h
  have h := LeM_bound s0 h
  have hm := B_le bm
  have hs := B_le bs
  have big : ((2 ^ 17 : Nat) : Rat) + ((2 ^ 1173 : Nat) : Rat) + 4 < ((2 ^ 1500 : Nat) : Rat) * (1 / 12) := by decide +kernel
  have hp := Rat.mul_le_mul_of_nonneg_left h0 (show (0 : Rat) ≤ ((2 ^ 1500 : Nat) : Rat) from Rat.natCast_nonneg)
  generalize ((2 ^ 1500 : Nat) : Rat) = A at *
  generalize ((2 ^ 17 : Nat) : Rat) = B at *
  generalize ((2 ^ 1173 : Nat) : Rat) = C at *
  grind
theorem wSq_nonneg (h : Task w v l x st) (t : Rat) : 0 ≤ wSq w l t / (v * v) := by
  rw [Rat.div_def]
  exact Rat.mul_nonneg (least_nonneg h.gl) (Rat.le_of_lt (Rat.inv_pos.mpr (Rat.mul_pos h.vp h.vp)))
theorem B_wSq (h : Task w v l x st) {t : Rat} (o : OnWay w t) : B 1173 (wSq w l t / (v * v)) :=
  ((B_least (BP_place h.gw o) h.gl).div (Rat.ne_of_gt (Rat.mul_pos h.vp h.vp)) (h.bv.mul h.bv)).mono (by decide)
theorem Task.first (h : Task w v l x st) : ∃ i : Int, firstT w = (i : Rat) ∧ i.natAbs ≤ 2 := h.gw.first
theorem Task.fge (h : Task w v l x st) : -2 ≤ firstT w := by
  obtain ⟨i, e, hi⟩ := h.first
  rw [e, show (-2 : Rat) = ((-2 : Int) : Rat) from rfl, Rat.intCast_le_intCast]
  omega
theorem Task.sge (h : Task w v l x st) : (1 : Rat) / 12 ≤ st := by
  obtain ⟨c, rfl, c0, _⟩ := h.sc
  have : ((1 : Nat) : Rat) ≤ (c : Rat) := Rat.natCast_le_natCast.mpr c0
  have : (1 : Rat) ≤ (c : Rat) := this
  generalize (c : Rat) = y at *
  grind
theorem first_LeM (h : Task w v l x st) {t s : Rat} (o : OnWay w t) : LeM (firstT w) (t + x) s := by
  left
  have := o.ge
  have := h.xp
  grind
theorem due_far (h : Task w v l x st) {t : Rat} (o : OnWay w t) : ¬ LeM (firstT w + ((2 ^ 1500 : Nat) : Rat) * st) (t + x) (wSq w l t / (v * v)) :=
  far h.fge h.sge (o.tw.b.add h.bx) (B_wSq h o) (wSq_nonneg h t)
theorem dueK_isK (h : Task w v l x st) {t : Rat} (o : OnWay w t) : IsK (firstT w) st (t + x) (wSq w l t / (v * v)) (dueK w v l x st t) := by
  obtain ⟨k, hk⟩ := isK_exists (first_LeM h o) (2 ^ 1500) (due_far h o)
  have e : dueK w v l x st t = k := kOf_eq (Rat.le_of_lt h.st0) hk
  rw [e]; exact hk
theorem dueK_eq (h : Task w v l x st) {t : Rat} (o : OnWay w t) {k : Nat} (hk : IsK (firstT w) st (t + x) (wSq w l t / (v * v)) k) : dueK w v l x st t = k := kOf_eq (Rat.le_of_lt h.st0) hk
theorem dueK_lt (h : Task w v l x st) {t : Rat} (o : OnWay w t) : dueK w v l x st t < 2 ^ 1500 := isK_lt (Rat.le_of_lt h.st0) (dueK_isK h o) (due_far h o)
theorem dueK_mono (h : Task w v l x st) {t t' : Rat} (o : OnWay w t) (o' : OnWay w t') (le : t ≤ t') : dueK w v l x st t ≤ dueK w v l x st t' :=
  isK_le (Rat.le_of_lt h.st0) (dueK_isK h o') (way_LeM h o o' le (dueK_isK h o).1)
theorem dueK_ge (h : Task w v l x st) {t : Rat} (o : OnWay w t) {j : Nat} (e : t = firstT w + (j : Rat) * st) : j + 1 ≤ dueK w v l x st t := by
  refine isK_le (Rat.le_of_lt h.st0) (dueK_isK h o) (.inl ?_)
  rw [cast_succ]
  have sx := h.sx
  generalize (j : Rat) = y at *
  grind
theorem tw_last : ∀ (r0 : Rep) (rest : List Rep), (∀ l ∈ legs (r0 :: rest), GoodLeg l) → rest ≠ [] → Tw (lastT (r0 :: rest))
  | r0, [], _, h => absurd rfl h
  | r0, [r1], hl, _ => (hl (r0, r1) (by rw [legs_cons]; exact List.mem_cons_self)).t1
  | r0, r1 :: r2 :: rest, hl, _ => tw_last r1 (r2 :: rest) (fun l h => hl l (by rw [legs_cons]; exact List.mem_cons_of_mem _ h)) (by simp)
theorem GoodWay.twl {w : List Rep} (g : GoodWay w) : Tw (lastT w) := by
  have l2 := g.l2
  have hl := g.leg
  match w, l2, hl with
  | r0 :: r1 :: rest, _, hl => exact tw_last r0 (r1 :: rest) hl (by simp)
theorem onWay_grid (h : Task w v l x st) {j : Nat} (le : firstT w + (j : Rat) * st ≤ lastT w) : OnWay w (firstT w + (j : Rat) * st) := by
  obtain ⟨i, ei, hi⟩ := h.first
  obtain ⟨c, ec, c0, _⟩ := h.sc
  obtain ⟨n, en, hn⟩ := h.gw.twl
  have e : firstT w + (j : Rat) * st = ((12 * i + j * c : Int) : Rat) / 12 := by
    rw [ei, ec, Rat.intCast_add, Rat.intCast_mul, Rat.intCast_mul, Rat.intCast_natCast, Rat.intCast_natCast]
    have : ((12 : Int) : Rat) = 12 := rfl
    rw [this]
    generalize (i : Rat) = a
    generalize (j : Rat) = b
    generalize (c : Rat) = d
    grind
  refine ⟨⟨12 * i + j * c, e, ?_⟩, ?_, le⟩
  · rw [e, en] at le
    have le := tw_cmp.mp le
    have : 0 ≤ (j : Int) * c := Int.mul_nonneg (Int.natCast_nonneg j) (Int.natCast_nonneg c)
    omega
  · have := Rat.mul_nonneg (Rat.natCast_nonneg (a := j)) (Rat.le_of_lt h.st0)
    generalize (j : Rat) * st = y at *
    grind
theorem grid_le (h : Task w v l x st) {j : Nat} (le : firstT w + (j : Rat) * st ≤ lastT w) : j ≤ 100 := by
  by_cases c : j ≤ 100
  · exact c
  · exfalso
    have sp := h.span
    have s0 := h.st0
    have c : ((101 : Nat) : Rat) ≤ (j : Rat) := Rat.natCast_le_natCast.mpr (by omega)
    have := Rat.mul_nonneg (show 0 ≤ (j : Rat) - 101 by have : ((101 : Nat) : Rat) = 101 := rfl; grind) (Rat.le_of_lt s0)
    generalize (j : Rat) = y at *
    grind
theorem plan_head {nxt : Rat → Rat} {last h : Rat} : ∀ {xs : List Rat}, IsPlan nxt last h xs → ∃ r, xs = h :: r
  | [], p => p.elim
  | [y], p => ⟨[], by rw [p.1]⟩
  | y :: z :: r, p => ⟨z :: r, by rw [p.1]⟩
theorem plan_unique {nxt : Rat → Rat} {last : Rat} : ∀ {xs ys : List Rat} {h : Rat}, IsPlan nxt last h xs → IsPlan nxt last h ys → xs = ys
  | [], _, _, p, _ => p.elim
  | _, [], _, _, p => p.elim
  | [x], [y], h, p, q => by rw [p.1, q.1]
  | [x], y :: y2 :: r, h, p, q => absurd p.2 (Rat.not_lt.mpr q.2.1)
  | x :: x2 :: r, [y], h, p, q => absurd q.2 (Rat.not_lt.mpr p.2.1)
  | x :: x2 :: r, y :: y2 :: r2, h, p, q => by
    rw [p.1, q.1, plan_unique p.2.2 q.2.2]
end
end K46
end
section
/-! K46q: signs, moments shifted, scaled, rounded. -/
namespace K46
open PySem PySem.Spec PyProof.Rows L2 Zz
open PySem.Builtin.Int (intBits)

theorem sgn_eq (i : Int) : (if 0 < i then (1 : Int) else if i = 0 then 0 else -1) = sgn i := rfl
theorem sgn_pos {i : Int} : 0 < sgn i ↔ 0 < i := by
  unfold sgn
  by_cases h : 0 < i
  · rw [if_pos h]; exact ⟨fun _ => h, fun _ => by decide⟩
  · rw [if_neg h]
    by_cases h2 : i = 0
    · rw [if_pos h2]; omega
    · rw [if_neg h2]; omega
theorem cross_lt {r s : Rat} : 0 < r.num * s.den - s.num * r.den ↔ s < r := by
  rw [Rat.lt_iff]; omega
theorem p_compared : ∀ ds M q, c_compared ds M q → rdCs G ir_compared (zEnds q) (zstart N_compared ds) M := by
  rintro ds M q ⟨r, s, rfl, ⟨h1, h2⟩, w⟩
  simp only [ir_compared, N_compared, FR, rdCs, rdC, rd, rds, rdc, rdo, rdg, rdgs, rdi, rdAV, rdAT, rdOV, rdOT, ofV, mkT, testV, zVar, slot, zCst, zBin, zUn, zChain, zAndV, zOrV, zAndT, zOrT, zNotV, zNotT, zIte, zIteT, zTup, zTupS, zANil, zACons, zAStar, zCall, zCallK, zONone, zOSome, zSlice, zBitsD, zGName, zGTup_tup, zGTup_lst, zGTup_FR, zGsNil, zGsCons,  zSetD, zGItem, zISeq, zIRng, zIZip, zIEnum, zYes, zAugD, zstart, zOp, zAdd, zSub, zMul, zFdiv, zMod, zPow, zShl, zCo, zEq, zNe, zIntC, zIs, zIsn, Zz.isNon, zBi, zLen, zAbs, zNegD, zTru, zBl, zRgL, zInt1, zMax2, zMin2, itemsOf, Zz.listOfD, Tgs.len, List.map_cons, List.map_nil, List.length_cons, List.length_nil, List.replicate_succ, List.replicate_zero, List.cons_append, List.nil_append, List.append_nil, List.set_cons_zero, List.set_cons_succ, Nat.sub_self, Nat.reduceSub, Nat.reduceAdd, reduceIte, Bool.false_eq_true, zIx_t0, zIx_t1, zIx_t2, zIx_t3, Bool.not_true, Bool.not_false, G, ctr, cst, zIsi_int, zIsi_tup, zIsi_lst, zIsi_bl, isTy, Option.some.injEq, exists_eq_left', List.cons.injEq, D.int.injEq, and_true, true_and, exists_and_left, and_self, okd_int, eqD_int, zComp, zwipe, zIx_fr0, zIx_fr1, Bool.true_and, Bool.and_true, decide_eq_true_eq, and_assoc, zIx_pt0, zIx_pt1, zIx_lk0, zIx_lk1, FR_inj, PT_inj, lookD_inj, PA_inj, PAs_inj, okd_FR, eqD_FR, okd_PT, eqD_PT, zSl_tup, cutD_1, cutD_to1, D.tup.injEq, D.lst.injEq, D.ref.injEq, ne_eq, zSeq_asg, zSeq_iff, zSeq_ret, zSeq_retN, zSeq_expr, zSeq_next, zSeq_seq, zSeq_never, zSeq_whl, zSeq_for, zSeq_aug, zNext_nx, zEnds_nx, zEnds_rt]
  refine ⟨mulOk h1.n h2.d (by decide), mulOk h2.n h1.d (by decide), ?_⟩
  have key := w (sgn (r.num * s.den - s.num * r.den)) (by rw [sgn_pos, cross_lt])
  unfold sgn at key
  by_cases c : 0 < r.num * s.den - s.num * r.den
  · rw [if_pos c] at key ⊢
    exact ⟨M, sub_refl, key⟩
  · rw [if_neg c] at key ⊢
    by_cases c2 : r.num * s.den - s.num * r.den = 0
    · rw [if_pos c2] at key ⊢
      exact ⟨M, sub_refl, key⟩
    · rw [if_neg c2] at key ⊢
      exact ⟨M, sub_refl, key⟩
theorem p_sign : ∀ ds M q, c_sign ds M q → rdCs G ir_sign (zEnds q) (zstart N_sign ds) M := by
  rintro ds M q ⟨i, rfl, w⟩
  simp only [ir_sign, N_sign, rdCs, rdC, rd, rds, rdc, rdo, rdg, rdgs, rdi, rdAV, rdAT, rdOV, rdOT, ofV, mkT, testV, zVar, slot, zCst, zBin, zUn, zChain, zAndV, zOrV, zAndT, zOrT, zNotV, zNotT, zIte, zIteT, zTup, zTupS, zANil, zACons, zAStar, zCall, zCallK, zONone, zOSome, zSlice, zBitsD, zGName, zGTup_tup, zGTup_lst, zGTup_FR, zGsNil, zGsCons,  zSetD, zGItem, zISeq, zIRng, zIZip, zIEnum, zYes, zAugD, zstart, zOp, zAdd, zSub, zMul, zFdiv, zMod, zPow, zShl, zCo, zEq, zNe, zIntC, zIs, zIsn, Zz.isNon, zBi, zLen, zAbs, zNegD, zTru, zBl, zRgL, zInt1, zMax2, zMin2, itemsOf, Zz.listOfD, Tgs.len, List.map_cons, List.map_nil, List.length_cons, List.length_nil, List.replicate_succ, List.replicate_zero, List.cons_append, List.nil_append, List.append_nil, List.set_cons_zero, List.set_cons_succ, Nat.sub_self, Nat.reduceSub, Nat.reduceAdd, reduceIte, Bool.false_eq_true, zIx_t0, zIx_t1, zIx_t2, zIx_t3, Bool.not_true, Bool.not_false, G, ctr, cst, zIsi_int, zIsi_tup, zIsi_lst, zIsi_bl, isTy, Option.some.injEq, exists_eq_left', List.cons.injEq, D.int.injEq, and_true, true_and, exists_and_left, and_self, okd_int, eqD_int, zComp, zwipe, zIx_fr0, zIx_fr1, Bool.true_and, Bool.and_true, decide_eq_true_eq, and_assoc, zIx_pt0, zIx_pt1, zIx_lk0, zIx_lk1, FR_inj, PT_inj, lookD_inj, PA_inj, PAs_inj, okd_FR, eqD_FR, okd_PT, eqD_PT, zSl_tup, cutD_1, cutD_to1, D.tup.injEq, D.lst.injEq, D.ref.injEq, ne_eq, zSeq_asg, zSeq_iff, zSeq_ret, zSeq_retN, zSeq_expr, zSeq_next, zSeq_seq, zSeq_never, zSeq_whl, zSeq_for, zSeq_aug, zNext_nx, zEnds_nx, zEnds_rt]
  unfold sgn at w
  by_cases c : 0 < i
  · rw [if_pos c] at w ⊢
    exact ⟨M, sub_refl, w⟩
  · rw [if_neg c] at w ⊢
    by_cases c2 : i = 0
    · rw [if_pos c2] at w ⊢
      exact ⟨M, sub_refl, w⟩
    · rw [if_neg c2] at w ⊢
      exact ⟨M, sub_refl, w⟩
theorem p_square : ∀ ds M q, c_square ds M q → rdCs G ir_square (zEnds q) (zstart N_square ds) M := by
  rintro ds M q ⟨rfl, w⟩
  simp only [ir_square, N_square, rdCs, rdC, rd, rds, rdc, rdo, rdg, rdgs, rdi, rdAV, rdAT, rdOV, rdOT, ofV, mkT, testV, zVar, slot, zCst, zBin, zUn, zChain, zAndV, zOrV, zAndT, zOrT, zNotV, zNotT, zIte, zIteT, zTup, zTupS, zANil, zACons, zAStar, zCall, zCallK, zONone, zOSome, zSlice, zBitsD, zGName, zGTup_tup, zGTup_lst, zGTup_FR, zGsNil, zGsCons,  zSetD, zGItem, zISeq, zIRng, zIZip, zIEnum, zYes, zAugD, zstart, zOp, zAdd, zSub, zMul, zFdiv, zMod, zPow, zShl, zCo, zEq, zNe, zIntC, zIs, zIsn, Zz.isNon, zBi, zLen, zAbs, zNegD, zTru, zBl, zRgL, zInt1, zMax2, zMin2, itemsOf, Zz.listOfD, Tgs.len, List.map_cons, List.map_nil, List.length_cons, List.length_nil, List.replicate_succ, List.replicate_zero, List.cons_append, List.nil_append, List.append_nil, List.set_cons_zero, List.set_cons_succ, Nat.sub_self, Nat.reduceSub, Nat.reduceAdd, reduceIte, Bool.false_eq_true, zIx_t0, zIx_t1, zIx_t2, zIx_t3, Bool.not_true, Bool.not_false, G, ctr, cst, zIsi_int, zIsi_tup, zIsi_lst, zIsi_bl, isTy, Option.some.injEq, exists_eq_left', List.cons.injEq, D.int.injEq, and_true, true_and, exists_and_left, and_self, okd_int, eqD_int, zComp, zwipe, zIx_fr0, zIx_fr1, Bool.true_and, Bool.and_true, decide_eq_true_eq, and_assoc, zIx_pt0, zIx_pt1, zIx_lk0, zIx_lk1, FR_inj, PT_inj, lookD_inj, PA_inj, PAs_inj, okd_FR, eqD_FR, okd_PT, eqD_PT, zSl_tup, cutD_1, cutD_to1, D.tup.injEq, D.lst.injEq, D.ref.injEq, ne_eq, zSeq_asg, zSeq_iff, zSeq_ret, zSeq_retN, zSeq_expr, zSeq_next, zSeq_seq, zSeq_never, zSeq_whl, zSeq_for, zSeq_aug, zNext_nx, zEnds_nx, zEnds_rt]
  exact ⟨mulOk (by decide : intBits 0 ≤ 0) (by decide : intBits ((0 : Int).natAbs : Int) ≤ 0) (by decide), M, sub_refl, w⟩
theorem p_sign_of_one : ∀ ds M q, c_sign_of_one ds M q → rdCs G ir_sign_of_one (zEnds q) (zstart N_sign_of_one ds) M := fun _ _ _ h => h.elim
theorem p_sign_of_two : ∀ ds M q, c_sign_of_two ds M q → rdCs G ir_sign_of_two (zEnds q) (zstart N_sign_of_two ds) M := by
  rintro ds M q ⟨c, rfl, w⟩
  simp only [ir_sign_of_two, N_sign_of_two, c_square, c_sign, rdCs, rdC, rd, rds, rdc, rdo, rdg, rdgs, rdi, rdAV, rdAT, rdOV, rdOT, ofV, mkT, testV, zVar, slot, zCst, zBin, zUn, zChain, zAndV, zOrV, zAndT, zOrT, zNotV, zNotT, zIte, zIteT, zTup, zTupS, zANil, zACons, zAStar, zCall, zCallK, zONone, zOSome, zSlice, zBitsD, zGName, zGTup_tup, zGTup_lst, zGTup_FR, zGsNil, zGsCons,  zSetD, zGItem, zISeq, zIRng, zIZip, zIEnum, zYes, zAugD, zstart, zOp, zAdd, zSub, zMul, zFdiv, zMod, zPow, zShl, zCo, zEq, zNe, zIntC, zIs, zIsn, Zz.isNon, zBi, zLen, zAbs, zNegD, zTru, zBl, zRgL, zInt1, zMax2, zMin2, itemsOf, Zz.listOfD, Tgs.len, List.map_cons, List.map_nil, List.length_cons, List.length_nil, List.replicate_succ, List.replicate_zero, List.cons_append, List.nil_append, List.append_nil, List.set_cons_zero, List.set_cons_succ, Nat.sub_self, Nat.reduceSub, Nat.reduceAdd, reduceIte, Bool.false_eq_true, zIx_t0, zIx_t1, zIx_t2, zIx_t3, Bool.not_true, Bool.not_false, G, ctr, cst, zIsi_int, zIsi_tup, zIsi_lst, zIsi_bl, isTy, Option.some.injEq, exists_eq_left', List.cons.injEq, D.int.injEq, and_true, true_and, exists_and_left, and_self, okd_int, eqD_int, zComp, zwipe, zIx_fr0, zIx_fr1, Bool.true_and, Bool.and_true, decide_eq_true_eq, and_assoc, zIx_pt0, zIx_pt1, zIx_lk0, zIx_lk1, FR_inj, PT_inj, lookD_inj, PA_inj, PAs_inj, okd_FR, eqD_FR, okd_PT, eqD_PT, zSl_tup, cutD_1, cutD_to1, D.tup.injEq, D.lst.injEq, D.ref.injEq, ne_eq, zSeq_asg, zSeq_iff, zSeq_ret, zSeq_retN, zSeq_expr, zSeq_next, zSeq_seq, zSeq_never, zSeq_whl, zSeq_for, zSeq_aug, zNext_nx, zEnds_nx, zEnds_rt]
  have ok : IntMulOk 0 1 := mulOk (by decide : intBits 0 ≤ 0) (by decide : intBits 1 ≤ 1) (by decide)
  refine ⟨ok, ok, ?_⟩
  have e : sgn (0 * 1 + 0 * 1) = 0 := by decide
  rw [e]
  by_cases h : c = 0
  · subst h
    rw [if_pos rfl, if_pos rfl]
    exact ⟨M, sub_refl, w⟩
  · rw [if_neg h, if_pos rfl, if_neg h]
    exact ⟨M, sub_refl, w⟩
theorem zLen_FR {r : Rat} {M : Mh} {q : KD} : zLen [FR r] M q = q (.int 2) M := by
  unfold FR; simp only [rdCs, rdC, rd, rds, rdc, rdo, rdg, rdgs, rdi, rdAV, rdAT, rdOV, rdOT, ofV, mkT, testV, zVar, slot, zCst, zBin, zUn, zChain, zAndV, zOrV, zAndT, zOrT, zNotV, zNotT, zIte, zIteT, zTup, zTupS, zANil, zACons, zAStar, zCall, zCallK, zONone, zOSome, zSlice, zBitsD, zGName, zGTup_tup, zGTup_lst, zGTup_FR, zGsNil, zGsCons,  zSetD, zGItem, zISeq, zIRng, zIZip, zIEnum, zYes, zAugD, zstart, zOp, zAdd, zSub, zMul, zFdiv, zMod, zPow, zShl, zCo, zEq, zNe, zIntC, zIs, zIsn, Zz.isNon, zBi, zLen, zAbs, zNegD, zTru, zBl, zRgL, zInt1, zMax2, zMin2, itemsOf, Zz.listOfD, Tgs.len, List.map_cons, List.map_nil, List.length_cons, List.length_nil, List.replicate_succ, List.replicate_zero, List.cons_append, List.nil_append, List.append_nil, List.set_cons_zero, List.set_cons_succ, Nat.sub_self, Nat.reduceSub, Nat.reduceAdd, reduceIte, Bool.false_eq_true, zIx_t0, zIx_t1, zIx_t2, zIx_t3, Bool.not_true, Bool.not_false, G, ctr, cst, zIsi_int, zIsi_tup, zIsi_lst, zIsi_bl, isTy, Option.some.injEq, exists_eq_left', List.cons.injEq, D.int.injEq, and_true, true_and, exists_and_left, and_self, okd_int, eqD_int, zComp, zwipe, zIx_fr0, zIx_fr1, Bool.true_and, Bool.and_true, decide_eq_true_eq, and_assoc, zIx_pt0, zIx_pt1, zIx_lk0, zIx_lk1, FR_inj, PT_inj, lookD_inj, PA_inj, PAs_inj, okd_FR, eqD_FR, okd_PT, eqD_PT, zSl_tup, cutD_1, cutD_to1, D.tup.injEq, D.lst.injEq, D.ref.injEq, ne_eq, zSeq_asg, zSeq_iff, zSeq_ret, zSeq_retN, zSeq_expr, zSeq_next, zSeq_seq, zSeq_never, zSeq_whl, zSeq_for, zSeq_aug, zNext_nx, zEnds_nx, zEnds_rt]; rfl
theorem p_told_parts : ∀ ds M q, c_told_parts ds M q → rdCs G ir_told_parts (zEnds q) (zstart N_told_parts ds) M := by
  rintro ds M q (⟨r, rfl, w⟩ | ⟨a, b, c, rfl, ⟨h1, h2, h3⟩, w⟩)
  · simp only [ir_told_parts, N_told_parts, FR, rdCs, rdC, rd, rds, rdc, rdo, rdg, rdgs, rdi, rdAV, rdAT, rdOV, rdOT, ofV, mkT, testV, zVar, slot, zCst, zBin, zUn, zChain, zAndV, zOrV, zAndT, zOrT, zNotV, zNotT, zIte, zIteT, zTup, zTupS, zANil, zACons, zAStar, zCall, zCallK, zONone, zOSome, zSlice, zBitsD, zGName, zGTup_tup, zGTup_lst, zGTup_FR, zGsNil, zGsCons,  zSetD, zGItem, zISeq, zIRng, zIZip, zIEnum, zYes, zAugD, zstart, zOp, zAdd, zSub, zMul, zFdiv, zMod, zPow, zShl, zCo, zEq, zNe, zIntC, zIs, zIsn, Zz.isNon, zBi, zLen, zAbs, zNegD, zTru, zBl, zRgL, zInt1, zMax2, zMin2, itemsOf, Zz.listOfD, Tgs.len, List.map_cons, List.map_nil, List.length_cons, List.length_nil, List.replicate_succ, List.replicate_zero, List.cons_append, List.nil_append, List.append_nil, List.set_cons_zero, List.set_cons_succ, Nat.sub_self, Nat.reduceSub, Nat.reduceAdd, reduceIte, Bool.false_eq_true, zIx_t0, zIx_t1, zIx_t2, zIx_t3, Bool.not_true, Bool.not_false, G, ctr, cst, zIsi_int, zIsi_tup, zIsi_lst, zIsi_bl, isTy, Option.some.injEq, exists_eq_left', List.cons.injEq, D.int.injEq, and_true, true_and, exists_and_left, and_self, okd_int, eqD_int, zComp, zwipe, zIx_fr0, zIx_fr1, Bool.true_and, Bool.and_true, decide_eq_true_eq, and_assoc, zIx_pt0, zIx_pt1, zIx_lk0, zIx_lk1, FR_inj, PT_inj, lookD_inj, PA_inj, PAs_inj, okd_FR, eqD_FR, okd_PT, eqD_PT, zSl_tup, cutD_1, cutD_to1, D.tup.injEq, D.lst.injEq, D.ref.injEq, ne_eq, zSeq_asg, zSeq_iff, zSeq_ret, zSeq_retN, zSeq_expr, zSeq_next, zSeq_seq, zSeq_never, zSeq_whl, zSeq_for, zSeq_aug, zNext_nx, zEnds_nx, zEnds_rt]
    rw [if_pos (by rfl)]
    exact ⟨M, sub_refl, w⟩
  · simp only [ir_told_parts, N_told_parts, c_discriminant, rdCs, rdC, rd, rds, rdc, rdo, rdg, rdgs, rdi, rdAV, rdAT, rdOV, rdOT, ofV, mkT, testV, zVar, slot, zCst, zBin, zUn, zChain, zAndV, zOrV, zAndT, zOrT, zNotV, zNotT, zIte, zIteT, zTup, zTupS, zANil, zACons, zAStar, zCall, zCallK, zONone, zOSome, zSlice, zBitsD, zGName, zGTup_tup, zGTup_lst, zGTup_FR, zGsNil, zGsCons,  zSetD, zGItem, zISeq, zIRng, zIZip, zIEnum, zYes, zAugD, zstart, zOp, zAdd, zSub, zMul, zFdiv, zMod, zPow, zShl, zCo, zEq, zNe, zIntC, zIs, zIsn, Zz.isNon, zBi, zLen, zAbs, zNegD, zTru, zBl, zRgL, zInt1, zMax2, zMin2, itemsOf, Zz.listOfD, Tgs.len, List.map_cons, List.map_nil, List.length_cons, List.length_nil, List.replicate_succ, List.replicate_zero, List.cons_append, List.nil_append, List.append_nil, List.set_cons_zero, List.set_cons_succ, Nat.sub_self, Nat.reduceSub, Nat.reduceAdd, reduceIte, Bool.false_eq_true, zIx_t0, zIx_t1, zIx_t2, zIx_t3, Bool.not_true, Bool.not_false, G, ctr, cst, zIsi_int, zIsi_tup, zIsi_lst, zIsi_bl, isTy, Option.some.injEq, exists_eq_left', List.cons.injEq, D.int.injEq, and_true, true_and, exists_and_left, and_self, okd_int, eqD_int, zComp, zwipe, zIx_fr0, zIx_fr1, Bool.true_and, Bool.and_true, decide_eq_true_eq, and_assoc, zIx_pt0, zIx_pt1, zIx_lk0, zIx_lk1, FR_inj, PT_inj, lookD_inj, PA_inj, PAs_inj, okd_FR, eqD_FR, okd_PT, eqD_PT, zSl_tup, cutD_1, cutD_to1, D.tup.injEq, D.lst.injEq, D.ref.injEq, ne_eq, zSeq_asg, zSeq_iff, zSeq_ret, zSeq_retN, zSeq_expr, zSeq_next, zSeq_seq, zSeq_never, zSeq_whl, zSeq_for, zSeq_aug, zNext_nx, zEnds_nx, zEnds_rt]
    rw [if_neg (by decide)]
    exact ⟨h1, h2, h3, mulOk (by decide : intBits 2 ≤ 2) h1 (by decide), M, sub_refl, w⟩
theorem p_compared_moments : ∀ ds M q, c_compared_moments ds M q → rdCs G ir_compared_moments (zEnds q) (zstart N_compared_moments ds) M := by
  rintro ds M q ⟨r, s, rfl, ⟨h1, h2⟩, w⟩
  simp only [ir_compared_moments, N_compared_moments, rdCs, rdC, rd, rds, rdc, rdo, rdg, rdgs, rdi, rdAV, rdAT, rdOV, rdOT, ofV, mkT, testV, zVar, slot, zCst, zBin, zUn, zChain, zAndV, zOrV, zAndT, zOrT, zNotV, zNotT, zIte, zIteT, zTup, zTupS, zANil, zACons, zAStar, zCall, zCallK, zONone, zOSome, zSlice, zBitsD, zGName, zGTup_tup, zGTup_lst, zGTup_FR, zGsNil, zGsCons,  zSetD, zGItem, zISeq, zIRng, zIZip, zIEnum, zYes, zAugD, zstart, zOp, zAdd, zSub, zMul, zFdiv, zMod, zPow, zShl, zCo, zEq, zNe, zIntC, zIs, zIsn, Zz.isNon, zBi, zLen, zAbs, zNegD, zTru, zBl, zRgL, zInt1, zMax2, zMin2, itemsOf, Zz.listOfD, Tgs.len, List.map_cons, List.map_nil, List.length_cons, List.length_nil, List.replicate_succ, List.replicate_zero, List.cons_append, List.nil_append, List.append_nil, List.set_cons_zero, List.set_cons_succ, Nat.sub_self, Nat.reduceSub, Nat.reduceAdd, reduceIte, Bool.false_eq_true, zIx_t0, zIx_t1, zIx_t2, zIx_t3, Bool.not_true, Bool.not_false, G, ctr, cst, zIsi_int, zIsi_tup, zIsi_lst, zIsi_bl, isTy, Option.some.injEq, exists_eq_left', List.cons.injEq, D.int.injEq, and_true, true_and, exists_and_left, and_self, okd_int, eqD_int, zComp, zwipe, zIx_fr0, zIx_fr1, Bool.true_and, Bool.and_true, decide_eq_true_eq, and_assoc, zIx_pt0, zIx_pt1, zIx_lk0, zIx_lk1, FR_inj, PT_inj, lookD_inj, PA_inj, PAs_inj, okd_FR, eqD_FR, okd_PT, eqD_PT, zSl_tup, cutD_1, cutD_to1, D.tup.injEq, D.lst.injEq, D.ref.injEq, ne_eq, zSeq_asg, zSeq_iff, zSeq_ret, zSeq_retN, zSeq_expr, zSeq_next, zSeq_seq, zSeq_never, zSeq_whl, zSeq_for, zSeq_aug, zNext_nx, zEnds_nx, zEnds_rt]
  by_cases e : r = s
  · rw [if_pos e]
    exact ⟨M, sub_refl, w 0 (by rw [e]; exact ⟨fun _ => Rat.le_refl, fun _ => by decide⟩)⟩
  · rw [if_neg e]
    refine .inl ⟨r, rfl, ?_⟩
    simp only [rdCs, rdC, rd, rds, rdc, rdo, rdg, rdgs, rdi, rdAV, rdAT, rdOV, rdOT, ofV, mkT, testV, zVar, slot, zCst, zBin, zUn, zChain, zAndV, zOrV, zAndT, zOrT, zNotV, zNotT, zIte, zIteT, zTup, zTupS, zANil, zACons, zAStar, zCall, zCallK, zONone, zOSome, zSlice, zBitsD, zGName, zGTup_tup, zGTup_lst, zGTup_FR, zGsNil, zGsCons,  zSetD, zGItem, zISeq, zIRng, zIZip, zIEnum, zYes, zAugD, zstart, zOp, zAdd, zSub, zMul, zFdiv, zMod, zPow, zShl, zCo, zEq, zNe, zIntC, zIs, zIsn, Zz.isNon, zBi, zLen, zAbs, zNegD, zTru, zBl, zRgL, zInt1, zMax2, zMin2, itemsOf, Zz.listOfD, Tgs.len, List.map_cons, List.map_nil, List.length_cons, List.length_nil, List.replicate_succ, List.replicate_zero, List.cons_append, List.nil_append, List.append_nil, List.set_cons_zero, List.set_cons_succ, Nat.sub_self, Nat.reduceSub, Nat.reduceAdd, reduceIte, Bool.false_eq_true, zIx_t0, zIx_t1, zIx_t2, zIx_t3, Bool.not_true, Bool.not_false, G, ctr, cst, zIsi_int, zIsi_tup, zIsi_lst, zIsi_bl, isTy, Option.some.injEq, exists_eq_left', List.cons.injEq, D.int.injEq, and_true, true_and, exists_and_left, and_self, okd_int, eqD_int, zComp, zwipe, zIx_fr0, zIx_fr1, Bool.true_and, Bool.and_true, decide_eq_true_eq, and_assoc, zIx_pt0, zIx_pt1, zIx_lk0, zIx_lk1, FR_inj, PT_inj, lookD_inj, PA_inj, PAs_inj, okd_FR, eqD_FR, okd_PT, eqD_PT, zSl_tup, cutD_1, cutD_to1, D.tup.injEq, D.lst.injEq, D.ref.injEq, ne_eq, zSeq_asg, zSeq_iff, zSeq_ret, zSeq_retN, zSeq_expr, zSeq_next, zSeq_seq, zSeq_never, zSeq_whl, zSeq_for, zSeq_aug, zNext_nx, zEnds_nx, zEnds_rt]
    refine .inl ⟨s, rfl, ?_⟩
    simp only [c_sign_of_two, rdCs, rdC, rd, rds, rdc, rdo, rdg, rdgs, rdi, rdAV, rdAT, rdOV, rdOT, ofV, mkT, testV, zVar, slot, zCst, zBin, zUn, zChain, zAndV, zOrV, zAndT, zOrT, zNotV, zNotT, zIte, zIteT, zTup, zTupS, zANil, zACons, zAStar, zCall, zCallK, zONone, zOSome, zSlice, zBitsD, zGName, zGTup_tup, zGTup_lst, zGTup_FR, zGsNil, zGsCons,  zSetD, zGItem, zISeq, zIRng, zIZip, zIEnum, zYes, zAugD, zstart, zOp, zAdd, zSub, zMul, zFdiv, zMod, zPow, zShl, zCo, zEq, zNe, zIntC, zIs, zIsn, Zz.isNon, zBi, zLen, zAbs, zNegD, zTru, zBl, zRgL, zInt1, zMax2, zMin2, itemsOf, Zz.listOfD, Tgs.len, List.map_cons, List.map_nil, List.length_cons, List.length_nil, List.replicate_succ, List.replicate_zero, List.cons_append, List.nil_append, List.append_nil, List.set_cons_zero, List.set_cons_succ, Nat.sub_self, Nat.reduceSub, Nat.reduceAdd, reduceIte, Bool.false_eq_true, zIx_t0, zIx_t1, zIx_t2, zIx_t3, Bool.not_true, Bool.not_false, G, ctr, cst, zIsi_int, zIsi_tup, zIsi_lst, zIsi_bl, isTy, Option.some.injEq, exists_eq_left', List.cons.injEq, D.int.injEq, and_true, true_and, exists_and_left, and_self, okd_int, eqD_int, zComp, zwipe, zIx_fr0, zIx_fr1, Bool.true_and, Bool.and_true, decide_eq_true_eq, and_assoc, zIx_pt0, zIx_pt1, zIx_lk0, zIx_lk1, FR_inj, PT_inj, lookD_inj, PA_inj, PAs_inj, okd_FR, eqD_FR, okd_PT, eqD_PT, zSl_tup, cutD_1, cutD_to1, D.tup.injEq, D.lst.injEq, D.ref.injEq, ne_eq, zSeq_asg, zSeq_iff, zSeq_ret, zSeq_retN, zSeq_expr, zSeq_next, zSeq_seq, zSeq_never, zSeq_whl, zSeq_for, zSeq_aug, zNext_nx, zEnds_nx, zEnds_rt]
    have z0 : intBits 0 ≤ 0 := by decide
    refine ⟨mulOk h1.n h2.d (by decide), mulOk h2.n h1.d (by decide), mulOk z0 h2.d (by decide), mulOk (by decide : intBits (-0) ≤ 0) h1.d (by decide), by rw [Int.zero_mul], by rw [Int.neg_zero, Int.zero_mul], M, sub_refl, w _ ?_⟩
    have := sgn_pos (i := r.num * s.den - s.num * r.den)
    rw [cross_lt] at this
    rw [← Int.not_lt, ← Rat.not_lt, this]
/-! ### sizes -/
theorem B_int {n : Int} {k : Nat} (h : intBits n ≤ k) (hk : 1 ≤ k) : B k (n : Rat) := ⟨h, Nat.le_trans (by decide : intBits ((1 : Nat) : Int) ≤ 1) hk⟩
theorem den_bits {r s : Rat} {i j : Nat} (h1 : intBits (r.den : Int) ≤ i) (h2 : intBits (s.den : Int) ≤ j) : intBits ((r * s).den : Int) ≤ i + j := by
  have hb : ((r.den * s.den : Nat) : Int) ≠ 0 := by
    intro e; exact Nat.mul_ne_zero r.den_nz s.den_nz (by exact_mod_cast e)
  rw [Rat.mul_def', ← Rat.divInt_ofNat, Rat.den_divInt, if_neg hb]
  refine bits_le (y := (r.den : Int) * s.den) ?_ (intBits_mul_le h1 h2)
  rw [Int.natAbs_natCast, ← Int.natCast_mul]
  exact Nat.div_le_self _ _
theorem mom_bits {m s : Rat} {p q r : Int} {i j k : Nat} (p0 : 0 < p) (g : Int.gcd (Int.gcd p q : Nat) r = 1) (e1 : (q : Rat) = -2 * m * p) (e2 : (r : Rat) = (m * m - s) * p) (bm : B i m) (bs : B j s) (hk : 2 * i + j + 2 ≤ k) :
    intBits p ≤ k ∧ intBits q ≤ k ∧ intBits r ≤ k := by
  have em := mul_den m
  have es := mul_den s
  have hN : (((m.den * m.den * s.den : Nat) : Int) : Rat) = (m.den : Rat) * m.den * s.den := by
    rw [Rat.intCast_natCast, Rat.natCast_mul, Rat.natCast_mul]
  have a1 : p * (-2 * m.num * m.den * s.den) = ((m.den * m.den * s.den : Nat) : Int) * q := by
    refine Rat.intCast_inj.mp ?_
    rw [Rat.intCast_mul p, Rat.intCast_mul ((m.den * m.den * s.den : Nat) : Int) q, hN, e1, Rat.intCast_mul, Rat.intCast_mul, Rat.intCast_mul, ← em, Rat.intCast_natCast, Rat.intCast_natCast]
    have : ((-2 : Int) : Rat) = -2 := rfl
    rw [this]
    generalize (m.den : Rat) = x at *
    generalize (s.den : Rat) = y at *
    generalize (p : Rat) = z at *
    grind
  have a2 : p * (m.num * m.num * s.den - s.num * m.den * m.den) = ((m.den * m.den * s.den : Nat) : Int) * r := by
    refine Rat.intCast_inj.mp ?_
    rw [Rat.intCast_mul p, Rat.intCast_mul ((m.den * m.den * s.den : Nat) : Int) r, hN, e2, Rat.intCast_sub, Rat.intCast_mul, Rat.intCast_mul, Rat.intCast_mul, Rat.intCast_mul, ← em, ← es, Rat.intCast_natCast, Rat.intCast_natCast]
    generalize (m.den : Rat) = x at *
    generalize (s.den : Rat) = y at *
    generalize (p : Rat) = z at *
    grind
  obtain ⟨u, hu⟩ := prim_dvd g a1 a2
  have N0 : 0 < ((m.den * m.den * s.den : Nat) : Int) := by
    have := Nat.mul_pos (Nat.mul_pos m.den_pos m.den_pos) s.den_pos
    exact_mod_cast this
  have u0 : 0 < u := by
    refine Int.lt_of_mul_lt_mul_left (a := p) ?_ (by omega)
    rw [Int.mul_zero, ← hu]; exact N0
  have pn : p ≠ 0 := by omega
  have b1 : -2 * m.num * m.den * s.den = u * q := by
    rw [hu, Int.mul_assoc p u q] at a1
    exact Int.eq_of_mul_eq_mul_left pn a1
  have b2 : m.num * m.num * s.den - s.num * m.den * m.den = u * r := by
    rw [hu, Int.mul_assoc p u r] at a2
    exact Int.eq_of_mul_eq_mul_left pn a2
  have le : ∀ x y : Int, y = u * x → x.natAbs ≤ y.natAbs := fun x y e => by
    rw [e, Int.natAbs_mul]
    exact Nat.le_mul_of_pos_left _ (by omega)
  have bN : intBits ((m.den * m.den * s.den : Nat) : Int) ≤ k := by
    rw [Int.natCast_mul, Int.natCast_mul]
    exact bmul (bmul bm.d bm.d (Nat.le_refl _)) bs.d (by omega)
  have bQ : intBits (-2 * m.num * m.den * s.den) ≤ k := bmul (bmul (bmul (by decide : intBits (-2) ≤ 2) bm.n (Nat.le_refl _)) bm.d (Nat.le_refl _)) bs.d (by omega)
  have bR : intBits (m.num * m.num * s.den - s.num * m.den * m.den) ≤ k := bsub (bmul (bmul bm.n bm.n (Nat.le_refl _)) bs.d (Nat.le_refl _)) (bmul (bmul bs.n bm.d (Nat.le_refl _)) bm.d (Nat.le_refl _)) (by omega)
  exact ⟨bits_le (le p _ (by rw [hu, Int.mul_comm])) bN, bits_le (le q _ b1) bQ, bits_le (le r _ b2) bR⟩
theorem num_int {r : Rat} {n : Int} {k : Nat} (e : r = (n : Rat)) (h : intBits n ≤ k) : intBits r.num ≤ k := by rw [e]; exact h
theorem den_int {r : Rat} {n : Int} (e : r = (n : Rat)) : intBits (r.den : Int) ≤ 1 := by rw [e]; exact (by decide : intBits ((1 : Nat) : Int) ≤ 1)
theorem two_cast : ((2 : Int) : Rat) = 2 := rfl
theorem p_shifted_by : ∀ ds M q, c_shifted_by ds M q → rdCs G ir_shifted_by (zEnds q) (zstart N_shifted_by ds) M := by
  rintro ds M Q ⟨d, f, rfl, m, s, hm, ⟨bm, bs, bf, s0⟩, w⟩
  have bF : B 8 (f : Rat) := B_int bf (by decide)
  rcases hm with ⟨u, u0, hu, rfl⟩ | ⟨n, p, q, r, p0, g, e1, e2, rfl⟩
  · simp only [ir_shifted_by, N_shifted_by, c2, rdCs, rdC, rd, rds, rdc, rdo, rdg, rdgs, rdi, rdAV, rdAT, rdOV, rdOT, ofV, mkT, testV, zVar, slot, zCst, zBin, zUn, zChain, zAndV, zOrV, zAndT, zOrT, zNotV, zNotT, zIte, zIteT, zTup, zTupS, zANil, zACons, zAStar, zCall, zCallK, zONone, zOSome, zSlice, zBitsD, zGName, zGTup_tup, zGTup_lst, zGTup_FR, zGsNil, zGsCons,  zSetD, zGItem, zISeq, zIRng, zIZip, zIEnum, zYes, zAugD, zstart, zOp, zAdd, zSub, zMul, zFdiv, zMod, zPow, zShl, zCo, zEq, zNe, zIntC, zIs, zIsn, Zz.isNon, zBi, zLen, zAbs, zNegD, zTru, zBl, zRgL, zInt1, zMax2, zMin2, itemsOf, Zz.listOfD, Tgs.len, List.map_cons, List.map_nil, List.length_cons, List.length_nil, List.replicate_succ, List.replicate_zero, List.cons_append, List.nil_append, List.append_nil, List.set_cons_zero, List.set_cons_succ, Nat.sub_self, Nat.reduceSub, Nat.reduceAdd, reduceIte, Bool.false_eq_true, zIx_t0, zIx_t1, zIx_t2, zIx_t3, Bool.not_true, Bool.not_false, G, ctr, cst, zIsi_int, zIsi_tup, zIsi_lst, zIsi_bl, isTy, Option.some.injEq, exists_eq_left', List.cons.injEq, D.int.injEq, and_true, true_and, exists_and_left, and_self, okd_int, eqD_int, zComp, zwipe, zIx_fr0, zIx_fr1, Bool.true_and, Bool.and_true, decide_eq_true_eq, and_assoc, zIx_pt0, zIx_pt1, zIx_lk0, zIx_lk1, FR_inj, PT_inj, lookD_inj, PA_inj, PAs_inj, okd_FR, eqD_FR, okd_PT, eqD_PT, zSl_tup, cutD_1, cutD_to1, D.tup.injEq, D.lst.injEq, D.ref.injEq, ne_eq, zSeq_asg, zSeq_iff, zSeq_ret, zSeq_retN, zSeq_expr, zSeq_next, zSeq_seq, zSeq_never, zSeq_whl, zSeq_for, zSeq_aug, zNext_nx, zEnds_nx, zEnds_rt, -zLen, zLen_FR]
    have bu := B_root hu bs
    refine ⟨(bm.add bu).mono (by decide), bF.mono (by decide), M, sub_refl, w _ (.inl ⟨u, u0, hu, ?_⟩)⟩
    rw [Rat.add_assoc, Rat.add_comm u, ← Rat.add_assoc]
  · obtain ⟨bp, bq, br⟩ := mom_bits p0 g e1 e2 bm bs (k := 1242) (by decide)
    simp only [ir_shifted_by, N_shifted_by, c2, c_whole, c_root3, rdCs, rdC, rd, rds, rdc, rdo, rdg, rdgs, rdi, rdAV, rdAT, rdOV, rdOT, ofV, mkT, testV, zVar, slot, zCst, zBin, zUn, zChain, zAndV, zOrV, zAndT, zOrT, zNotV, zNotT, zIte, zIteT, zTup, zTupS, zANil, zACons, zAStar, zCall, zCallK, zONone, zOSome, zSlice, zBitsD, zGName, zGTup_tup, zGTup_lst, zGTup_FR, zGsNil, zGsCons,  zSetD, zGItem, zISeq, zIRng, zIZip, zIEnum, zYes, zAugD, zstart, zOp, zAdd, zSub, zMul, zFdiv, zMod, zPow, zShl, zCo, zEq, zNe, zIntC, zIs, zIsn, Zz.isNon, zBi, zLen, zAbs, zNegD, zTru, zBl, zRgL, zInt1, zMax2, zMin2, itemsOf, Zz.listOfD, Tgs.len, List.map_cons, List.map_nil, List.length_cons, List.length_nil, List.replicate_succ, List.replicate_zero, List.cons_append, List.nil_append, List.append_nil, List.set_cons_zero, List.set_cons_succ, Nat.sub_self, Nat.reduceSub, Nat.reduceAdd, reduceIte, Bool.false_eq_true, zIx_t0, zIx_t1, zIx_t2, zIx_t3, Bool.not_true, Bool.not_false, G, ctr, cst, zIsi_int, zIsi_tup, zIsi_lst, zIsi_bl, isTy, Option.some.injEq, exists_eq_left', List.cons.injEq, D.int.injEq, and_true, true_and, exists_and_left, and_self, okd_int, eqD_int, zComp, zwipe, zIx_fr0, zIx_fr1, Bool.true_and, Bool.and_true, decide_eq_true_eq, and_assoc, zIx_pt0, zIx_pt1, zIx_lk0, zIx_lk1, FR_inj, PT_inj, lookD_inj, PA_inj, PAs_inj, okd_FR, eqD_FR, okd_PT, eqD_PT, zSl_tup, cutD_1, cutD_to1, D.tup.injEq, D.lst.injEq, D.ref.injEq, ne_eq, zSeq_asg, zSeq_iff, zSeq_ret, zSeq_retN, zSeq_expr, zSeq_next, zSeq_seq, zSeq_never, zSeq_whl, zSeq_for, zSeq_aug, zNext_nx, zEnds_nx, zEnds_rt]
    rw [if_neg (by decide)]
    have b2p : intBits (2 * p) ≤ 1244 := bmul (by decide : intBits 2 ≤ 2) bp (by decide)
    have Bp : B 1242 (p : Rat) := B_int bp (by decide)
    have Bq : B 1242 (q : Rat) := B_int bq (by decide)
    have Br : B 1242 (r : Rat) := B_int br (by decide)
    have B2 : B 1244 ((2 * p : Int) : Rat) := B_int b2p (by decide)
    have x1 : (q : Rat) - ((2 * p : Int) : Rat) * (f : Rat) = ((q - 2 * p * f : Int) : Rat) := by rw [Rat.intCast_sub, Rat.intCast_mul (2 * p)]
    have x2 : (p : Rat) * (f : Rat) * (f : Rat) + ((r : Rat) - (q : Rat) * (f : Rat)) = ((p * f * f + (r - q * f) : Int) : Rat) := by rw [Rat.intCast_add, Rat.intCast_mul, Rat.intCast_mul, Rat.intCast_sub, Rat.intCast_mul]
    have x3 : (p : Rat) = ((p : Int) : Rat) := rfl
    refine ⟨mulOk (by decide : intBits 2 ≤ 2) bp (by decide), B2.mono (by decide), bF.mono (by decide), Bp.mono (by decide), bF.mono (by decide), (Bp.mul bF).mono (by decide), bF.mono (by decide), Bq.mono (by decide), bF.mono (by decide), Br.mono (by decide), (Bq.mul bF).mono (by decide),
      ((Bp.mul bF).mul bF).mono (by decide), (Br.sub (Bq.mul bF)).mono (by decide), Bq.mono (by decide), (B2.mul bF).mono (by decide), Rat.intCast_pos.mpr p0, m + f, ?_, s, ?_, s0, num_int x3 (Nat.le_trans bp (by decide)), num_int x1 (bsub bq (bmul b2p bf (Nat.le_refl _)) (by decide)), num_int x2 (badd (bmul (bmul bp bf (Nat.le_refl _)) bf (Nat.le_refl _)) (bsub br (bmul bq bf (Nat.le_refl _)) (Nat.le_refl _)) (by decide)), ?_, fun d hd => ⟨M, sub_refl, w d hd⟩⟩
    · rw [e1, Rat.intCast_mul, two_cast]
      generalize (p : Rat) = a
      generalize (f : Rat) = b
      grind
    · rw [e1, e2]
      generalize (p : Rat) = a
      generalize (f : Rat) = b
      grind
    · rw [Int.natCast_mul, Int.natCast_mul]
      exact bmul (bmul (den_int x3) (den_int x1) (Nat.le_refl _)) (den_int x2) (by decide)
theorem p_scaled_by : ∀ ds M q, c_scaled_by ds M q → rdCs G ir_scaled_by (zEnds q) (zstart N_scaled_by ds) M := by
  rintro ds M Q ⟨d, y, rfl, m, s, hm, ⟨bm, bs, bY, y0, s0⟩, w⟩
  rcases hm with ⟨u, u0, hu, rfl⟩ | ⟨n, p, q, r, p0, g, e1, e2, rfl⟩
  · simp only [ir_scaled_by, N_scaled_by, c2, rdCs, rdC, rd, rds, rdc, rdo, rdg, rdgs, rdi, rdAV, rdAT, rdOV, rdOT, ofV, mkT, testV, zVar, slot, zCst, zBin, zUn, zChain, zAndV, zOrV, zAndT, zOrT, zNotV, zNotT, zIte, zIteT, zTup, zTupS, zANil, zACons, zAStar, zCall, zCallK, zONone, zOSome, zSlice, zBitsD, zGName, zGTup_tup, zGTup_lst, zGTup_FR, zGsNil, zGsCons,  zSetD, zGItem, zISeq, zIRng, zIZip, zIEnum, zYes, zAugD, zstart, zOp, zAdd, zSub, zMul, zFdiv, zMod, zPow, zShl, zCo, zEq, zNe, zIntC, zIs, zIsn, Zz.isNon, zBi, zLen, zAbs, zNegD, zTru, zBl, zRgL, zInt1, zMax2, zMin2, itemsOf, Zz.listOfD, Tgs.len, List.map_cons, List.map_nil, List.length_cons, List.length_nil, List.replicate_succ, List.replicate_zero, List.cons_append, List.nil_append, List.append_nil, List.set_cons_zero, List.set_cons_succ, Nat.sub_self, Nat.reduceSub, Nat.reduceAdd, reduceIte, Bool.false_eq_true, zIx_t0, zIx_t1, zIx_t2, zIx_t3, Bool.not_true, Bool.not_false, G, ctr, cst, zIsi_int, zIsi_tup, zIsi_lst, zIsi_bl, isTy, Option.some.injEq, exists_eq_left', List.cons.injEq, D.int.injEq, and_true, true_and, exists_and_left, and_self, okd_int, eqD_int, zComp, zwipe, zIx_fr0, zIx_fr1, Bool.true_and, Bool.and_true, decide_eq_true_eq, and_assoc, zIx_pt0, zIx_pt1, zIx_lk0, zIx_lk1, FR_inj, PT_inj, lookD_inj, PA_inj, PAs_inj, okd_FR, eqD_FR, okd_PT, eqD_PT, zSl_tup, cutD_1, cutD_to1, D.tup.injEq, D.lst.injEq, D.ref.injEq, ne_eq, zSeq_asg, zSeq_iff, zSeq_ret, zSeq_retN, zSeq_expr, zSeq_next, zSeq_seq, zSeq_never, zSeq_whl, zSeq_for, zSeq_aug, zNext_nx, zEnds_nx, zEnds_rt, -zLen, zLen_FR]
    have bu := B_root hu bs
    refine ⟨(bm.add bu).mono (by decide), bY.mono (by decide), M, sub_refl, w _ (.inl ⟨u * y, Rat.mul_nonneg u0 (Rat.le_of_lt y0), ?_, ?_⟩)⟩
    · rw [← hu]; grind
    · rw [Rat.add_mul]
  · obtain ⟨bp, bq, br⟩ := mom_bits p0 g e1 e2 bm bs (k := 1262) (by decide)
    have y1 : y ≠ 0 := Rat.ne_of_gt y0
    have e0 : D.tup [D.int 0, D.int 1] = FR 0 := rfl
    have sy : sgn y.num = 1 := by
      have : 0 < y.num := num_pos.mpr y0
      unfold sgn; rw [if_pos this]
    simp only [ir_scaled_by, N_scaled_by, c2, c_whole, c_root3, c_sign, e0, sy, rdCs, rdC, rd, rds, rdc, rdo, rdg, rdgs, rdi, rdAV, rdAT, rdOV, rdOT, ofV, mkT, testV, zVar, slot, zCst, zBin, zUn, zChain, zAndV, zOrV, zAndT, zOrT, zNotV, zNotT, zIte, zIteT, zTup, zTupS, zANil, zACons, zAStar, zCall, zCallK, zONone, zOSome, zSlice, zBitsD, zGName, zGTup_tup, zGTup_lst, zGTup_FR, zGsNil, zGsCons,  zSetD, zGItem, zISeq, zIRng, zIZip, zIEnum, zYes, zAugD, zstart, zOp, zAdd, zSub, zMul, zFdiv, zMod, zPow, zShl, zCo, zEq, zNe, zIntC, zIs, zIsn, Zz.isNon, zBi, zLen, zAbs, zNegD, zTru, zBl, zRgL, zInt1, zMax2, zMin2, itemsOf, Zz.listOfD, Tgs.len, List.map_cons, List.map_nil, List.length_cons, List.length_nil, List.replicate_succ, List.replicate_zero, List.cons_append, List.nil_append, List.append_nil, List.set_cons_zero, List.set_cons_succ, Nat.sub_self, Nat.reduceSub, Nat.reduceAdd, reduceIte, Bool.false_eq_true, zIx_t0, zIx_t1, zIx_t2, zIx_t3, Bool.not_true, Bool.not_false, G, ctr, cst, zIsi_int, zIsi_tup, zIsi_lst, zIsi_bl, isTy, Option.some.injEq, exists_eq_left', List.cons.injEq, D.int.injEq, and_true, true_and, exists_and_left, and_self, okd_int, eqD_int, zComp, zwipe, zIx_fr0, zIx_fr1, Bool.true_and, Bool.and_true, decide_eq_true_eq, and_assoc, zIx_pt0, zIx_pt1, zIx_lk0, zIx_lk1, FR_inj, PT_inj, lookD_inj, PA_inj, PAs_inj, okd_FR, eqD_FR, okd_PT, eqD_PT, zSl_tup, cutD_1, cutD_to1, D.tup.injEq, D.lst.injEq, D.ref.injEq, ne_eq, zSeq_asg, zSeq_iff, zSeq_ret, zSeq_retN, zSeq_expr, zSeq_next, zSeq_seq, zSeq_never, zSeq_whl, zSeq_for, zSeq_aug, zNext_nx, zEnds_nx, zEnds_rt]
    rw [if_neg (by decide)]
    have Bp : B 1262 (p : Rat) := B_int bp (by decide)
    have Bq : B 1262 (q : Rat) := B_int bq (by decide)
    have Br : B 1262 (r : Rat) := B_int br (by decide)
    have x3 : (p : Rat) = ((p : Int) : Rat) := rfl
    have d1 : intBits ((1 : Nat) : Int) ≤ 1 := by decide
    have dq : intBits (((q : Rat) * y).den : Int) ≤ 1 + 8 := den_bits d1 bY.d
    have dr : intBits (((r : Rat) * y * y).den : Int) ≤ 1 + 8 + 8 := den_bits (den_bits d1 bY.d) bY.d
    rw [if_neg y1]
    refine ⟨Bq.mono (by decide), bY.mono (by decide), Br.mono (by decide), bY.mono (by decide), (Br.mul bY).mono (by decide), bY.mono (by decide), mulOk (by decide : intBits 1 ≤ 1) (by decide : intBits 1 ≤ 1) (by decide), ?_⟩
    refine ⟨by decide, Rat.intCast_pos.mpr p0, m * y, ?_, s * (y * y), ?_, Rat.mul_nonneg s0 (sq_nonneg _), Nat.le_trans bp (by decide), Nat.le_trans (Bq.mul bY).n (by decide), Nat.le_trans ((Br.mul bY).mul bY).n (by decide), ?_, fun d hd => ⟨M, sub_refl, w d hd⟩⟩
    · rw [e1]; grind
    · rw [e2]; grind
    · rw [Int.natCast_mul, Int.natCast_mul]
      exact bmul (bmul (den_int x3) dq (Nat.le_refl _)) dr (by decide)
theorem p_floor_of : ∀ ds M q, c_floor_of ds M q → rdCs G ir_floor_of (zEnds q) (zstart N_floor_of ds) M := by
  rintro ds M Q ⟨d, rfl, m, s, hm, ⟨bm, bs, s0⟩, w⟩
  rcases hm with ⟨u, u0, hu, rfl⟩ | ⟨n, p, q, r, p0, g, e1, e2, rfl⟩
  · simp only [ir_floor_of, N_floor_of, c_told_parts, rdCs, rdC, rd, rds, rdc, rdo, rdg, rdgs, rdi, rdAV, rdAT, rdOV, rdOT, ofV, mkT, testV, zVar, slot, zCst, zBin, zUn, zChain, zAndV, zOrV, zAndT, zOrT, zNotV, zNotT, zIte, zIteT, zTup, zTupS, zANil, zACons, zAStar, zCall, zCallK, zONone, zOSome, zSlice, zBitsD, zGName, zGTup_tup, zGTup_lst, zGTup_FR, zGsNil, zGsCons,  zSetD, zGItem, zISeq, zIRng, zIZip, zIEnum, zYes, zAugD, zstart, zOp, zAdd, zSub, zMul, zFdiv, zMod, zPow, zShl, zCo, zEq, zNe, zIntC, zIs, zIsn, Zz.isNon, zBi, zLen, zAbs, zNegD, zTru, zBl, zRgL, zInt1, zMax2, zMin2, itemsOf, Zz.listOfD, Tgs.len, List.map_cons, List.map_nil, List.length_cons, List.length_nil, List.replicate_succ, List.replicate_zero, List.cons_append, List.nil_append, List.append_nil, List.set_cons_zero, List.set_cons_succ, Nat.sub_self, Nat.reduceSub, Nat.reduceAdd, reduceIte, Bool.false_eq_true, zIx_t0, zIx_t1, zIx_t2, zIx_t3, Bool.not_true, Bool.not_false, G, ctr, cst, zIsi_int, zIsi_tup, zIsi_lst, zIsi_bl, isTy, Option.some.injEq, exists_eq_left', List.cons.injEq, D.int.injEq, and_true, true_and, exists_and_left, and_self, okd_int, eqD_int, zComp, zwipe, zIx_fr0, zIx_fr1, Bool.true_and, Bool.and_true, decide_eq_true_eq, and_assoc, zIx_pt0, zIx_pt1, zIx_lk0, zIx_lk1, FR_inj, PT_inj, lookD_inj, PA_inj, PAs_inj, okd_FR, eqD_FR, okd_PT, eqD_PT, zSl_tup, cutD_1, cutD_to1, D.tup.injEq, D.lst.injEq, D.ref.injEq, ne_eq, zSeq_asg, zSeq_iff, zSeq_ret, zSeq_retN, zSeq_expr, zSeq_next, zSeq_seq, zSeq_never, zSeq_whl, zSeq_for, zSeq_aug, zNext_nx, zEnds_nx, zEnds_rt]
    have bu := bm.add (B_root hu bs)
    have b1 : intBits 1 ≤ 1 := by decide
    have dn : ((m + u).den : Int) ≠ 0 := by exact_mod_cast (m + u).den_nz
    have dp : (0 : Int) < ((m + u).den : Int) := by exact_mod_cast (m + u).den_pos
    refine .inl ⟨mulOk bu.n b1 (by decide), divOk_of dn (Nat.le_trans bu.d (by decide)), M, sub_refl, w _ ?_ ?_⟩
    · rw [LeM_root u0 hu, Int.mul_one, Int.fdiv_eq_ediv_of_nonneg _ (Int.le_of_lt dp)]
      rw [Rat.le_iff]
      show (m + u).num / ((m + u).den : Int) * ((m + u).den : Int) ≤ (m + u).num * ((1 : Nat) : Int)
      have := Int.ediv_mul_le (m + u).num dn
      omega
    · rw [LeM_root u0 hu, Int.mul_one, Int.fdiv_eq_ediv_of_nonneg _ (Int.le_of_lt dp)]
      rw [Rat.le_iff]
      show ¬ ((m + u).num / ((m + u).den : Int) + 1) * ((m + u).den : Int) ≤ (m + u).num * ((1 : Nat) : Int)
      have := Int.lt_ediv_add_one_mul_self (m + u).num dp
      omega
  · obtain ⟨bp, bq, br⟩ := mom_bits p0 g e1 e2 bm bs (k := 1302) (by decide)
    simp only [ir_floor_of, N_floor_of, c_told_parts, c_root_floor, rdCs, rdC, rd, rds, rdc, rdo, rdg, rdgs, rdi, rdAV, rdAT, rdOV, rdOT, ofV, mkT, testV, zVar, slot, zCst, zBin, zUn, zChain, zAndV, zOrV, zAndT, zOrT, zNotV, zNotT, zIte, zIteT, zTup, zTupS, zANil, zACons, zAStar, zCall, zCallK, zONone, zOSome, zSlice, zBitsD, zGName, zGTup_tup, zGTup_lst, zGTup_FR, zGsNil, zGsCons,  zSetD, zGItem, zISeq, zIRng, zIZip, zIEnum, zYes, zAugD, zstart, zOp, zAdd, zSub, zMul, zFdiv, zMod, zPow, zShl, zCo, zEq, zNe, zIntC, zIs, zIsn, Zz.isNon, zBi, zLen, zAbs, zNegD, zTru, zBl, zRgL, zInt1, zMax2, zMin2, itemsOf, Zz.listOfD, Tgs.len, List.map_cons, List.map_nil, List.length_cons, List.length_nil, List.replicate_succ, List.replicate_zero, List.cons_append, List.nil_append, List.append_nil, List.set_cons_zero, List.set_cons_succ, Nat.sub_self, Nat.reduceSub, Nat.reduceAdd, reduceIte, Bool.false_eq_true, zIx_t0, zIx_t1, zIx_t2, zIx_t3, Bool.not_true, Bool.not_false, G, ctr, cst, zIsi_int, zIsi_tup, zIsi_lst, zIsi_bl, isTy, Option.some.injEq, exists_eq_left', List.cons.injEq, D.int.injEq, and_true, true_and, exists_and_left, and_self, okd_int, eqD_int, zComp, zwipe, zIx_fr0, zIx_fr1, Bool.true_and, Bool.and_true, decide_eq_true_eq, and_assoc, zIx_pt0, zIx_pt1, zIx_lk0, zIx_lk1, FR_inj, PT_inj, lookD_inj, PA_inj, PAs_inj, okd_FR, eqD_FR, okd_PT, eqD_PT, zSl_tup, cutD_1, cutD_to1, D.tup.injEq, D.lst.injEq, D.ref.injEq, ne_eq, zSeq_asg, zSeq_iff, zSeq_ret, zSeq_retN, zSeq_expr, zSeq_next, zSeq_seq, zSeq_never, zSeq_whl, zSeq_for, zSeq_aug, zNext_nx, zEnds_nx, zEnds_rt]
    have pr : (0 : Rat) < (p : Rat) := Rat.intCast_pos.mpr p0
    have eD : ((q * q - 4 * p * r : Int) : Rat) = s * ((2 * p : Rat) * (2 * p)) := by
      rw [Rat.intCast_sub, Rat.intCast_mul, Rat.intCast_mul, Rat.intCast_mul, e1, e2]
      have : ((4 : Int) : Rat) = 4 := rfl
      rw [this]
      generalize (p : Rat) = a
      grind
    have D0 : 0 ≤ q * q - 4 * p * r := by
      refine Rat.intCast_nonneg.mp ?_
      rw [eD]
      exact Rat.mul_nonneg s0 (sq_nonneg _)
    have bD : intBits (q * q - 4 * p * r) ≤ 2620 := bsub (bmul bq bq (Nat.le_refl _)) (bmul (bmul (by decide : intBits 4 ≤ 3) bp (Nat.le_refl _)) br (Nat.le_refl _)) (by decide)
    generalize hD : q * q - 4 * p * r = Dd at *
    have b1 : intBits 1 ≤ 1 := by decide
    refine .inr ⟨Nat.le_trans bp (by decide), Nat.le_trans bq (by decide), Nat.le_trans br (by decide), ?_⟩
    rw [if_neg (by decide)]
    refine ⟨mulOk bD b1 (by decide), mulOk (bmul bD b1 (Nat.le_refl _)) b1 (by decide), Dd.toNat, by rw [Int.mul_one, Int.mul_one, Int.toNat_of_nonneg D0], by rw [Int.toNat_of_nonneg D0]; exact Nat.le_trans bD (by decide), fun h hr => ?_⟩
    have p2 : (0 : Int) < 2 * p := by omega
    have b2p : intBits (2 * p) ≤ 1304 := bmul (by decide : intBits 2 ≤ 2) bp (by decide)
    have hp2 : (2 * p : Int) ≠ 0 := by omega
    refine ⟨mulOk (intBits_neg_le bq) b1 (by decide), ?_⟩
    rw [if_pos (by decide)]
    refine ⟨divOk_of hp2 (Nat.le_trans b2p (by decide)), M, sub_refl, ?_⟩
    rw [Int.mul_one, Int.fdiv_eq_ediv_of_nonneg _ (Int.le_of_lt p2)]
    have r2 : (0 : Rat) < 2 * (p : Rat) := by grind
    have hm2 : m * (2 * (p : Rat)) = ((-q : Int) : Rat) := by
      rw [Rat.intCast_neg, e1]; generalize (p : Rat) = a; grind
    have hs2 : s * (2 * (p : Rat) * (2 * (p : Rat))) = (Dd : Rat) := eD.symm
    have h1 : h * h ≤ Dd.toNat := hr.1
    have h2 : Dd.toNat < (h + 1) * (h + 1) := hr.2
    have h1 : (h : Int) * h ≤ Dd := by rw [← Int.toNat_of_nonneg D0]; exact_mod_cast h1
    have h2 : Dd < ((h : Int) + 1) * ((h : Int) + 1) := by rw [← Int.toNat_of_nonneg D0]; exact_mod_cast h2
    have cst : ∀ k : Int, (k : Rat) * (2 * (p : Rat)) - ((-q : Int) : Rat) = ((k * (2 * p) + q : Int) : Rat) := fun k => by
      rw [Rat.intCast_add, Rat.intCast_mul, Rat.intCast_mul, Rat.intCast_neg, two_cast]; generalize (p : Rat) = a; grind
    have sqi : ∀ z : Int, ((z : Rat) ≤ 0 ∨ (z : Rat) * (z : Rat) ≤ (Dd : Rat)) ↔ (z ≤ 0 ∨ z * z ≤ Dd) := fun z => by
      have a1 : (z : Rat) ≤ 0 ↔ z ≤ 0 := by
        rw [show (0 : Rat) = ((0 : Int) : Rat) from rfl, Rat.intCast_le_intCast]
      rw [a1, ← Rat.intCast_mul, Rat.intCast_le_intCast]
    have kle := Int.ediv_mul_le (-q + (h : Int)) hp2
    have klt := Int.lt_ediv_add_one_mul_self (-q + (h : Int)) p2
    generalize (-q + (h : Int)) / (2 * p) = k at *
    refine w k ?_ ?_
    · rw [LeM_num r2 hm2 hs2, cst, sqi]
      by_cases c : k * (2 * p) + q ≤ 0
      · exact .inl c
      · right
        refine Int.le_trans (Int.mul_self_le_mul_self (by omega) (show k * (2 * p) + q ≤ h by omega)) h1
    · rw [LeM_num r2 hm2 hs2, cst, sqi]
      rintro (c | c)
      · omega
      · have : ((h : Int) + 1) * (h + 1) ≤ ((k + 1) * (2 * p) + q) * ((k + 1) * (2 * p) + q) := Int.mul_self_le_mul_self (by omega) (by omega)
        omega
theorem floor_bits {m s : Rat} {k : Int} (bm : B 40 m) (bs : B 1220 s) (s0 : 0 ≤ s) (h1 : LeM (k : Rat) m s) (h2 : ¬ LeM ((k + 1 : Int) : Rat) m s) : intBits k ≤ 1300 := by
  have a := LeM_bound s0 h1
  have b := Rat.not_le.mp (not_or.mp h2).1
  have m1 := B_le bm
  have m2 := B_le bm.neg
  have m3 := B_le bs
  have e1 : ((2 ^ 40 : Nat) : Rat) + ((2 ^ 1220 : Nat) : Rat) + 1 ≤ ((2 ^ 1250 : Nat) : Rat) := by decide +kernel
  have e2 : ((2 ^ 40 : Nat) : Rat) + 1 ≤ ((2 ^ 1250 : Nat) : Rat) := by decide +kernel
  rw [Rat.intCast_add] at b
  have e3 : ((1 : Int) : Rat) = 1 := rfl
  rw [e3] at b
  have k1 : (k : Rat) ≤ ((2 ^ 1250 : Nat) : Rat) := by
    generalize ((2 ^ 40 : Nat) : Rat) = A at *
    generalize ((2 ^ 1220 : Nat) : Rat) = B at *
    generalize ((2 ^ 1250 : Nat) : Rat) = C at *
    generalize (k : Rat) = y at *
    grind
  have k2 : -(k : Rat) ≤ ((2 ^ 1250 : Nat) : Rat) := by
    generalize ((2 ^ 40 : Nat) : Rat) = A at *
    generalize ((2 ^ 1220 : Nat) : Rat) = B at *
    generalize ((2 ^ 1250 : Nat) : Rat) = C at *
    generalize (k : Rat) = y at *
    grind
  rw [← Rat.intCast_neg] at k2
  rw [← Rat.intCast_natCast, Rat.intCast_le_intCast] at k1 k2
  refine intBits_le_iff.mpr ?_
  have : (2 : Nat) ^ 1250 < 2 ^ 1300 := Nat.pow_lt_pow_right (by decide) (by decide)
  generalize (2 : Nat) ^ 1250 = A at *
  generalize (2 : Nat) ^ 1300 = B at *
  omega
theorem p_rounded_by : ∀ ds M q, c_rounded_by ds M q → rdCs G ir_rounded_by (zEnds q) (zstart N_rounded_by ds) M := by
  rintro ds M Q ⟨d, rfl, m, s, hm, ⟨bm, bs, s0⟩, w⟩
  simp only [ir_rounded_by, N_rounded_by, c_floor_of, c_fraction, rdCs, rdC, rd, rds, rdc, rdo, rdg, rdgs, rdi, rdAV, rdAT, rdOV, rdOT, ofV, mkT, testV, zVar, slot, zCst, zBin, zUn, zChain, zAndV, zOrV, zAndT, zOrT, zNotV, zNotT, zIte, zIteT, zTup, zTupS, zANil, zACons, zAStar, zCall, zCallK, zONone, zOSome, zSlice, zBitsD, zGName, zGTup_tup, zGTup_lst, zGTup_FR, zGsNil, zGsCons,  zSetD, zGItem, zISeq, zIRng, zIZip, zIEnum, zYes, zAugD, zstart, zOp, zAdd, zSub, zMul, zFdiv, zMod, zPow, zShl, zCo, zEq, zNe, zIntC, zIs, zIsn, Zz.isNon, zBi, zLen, zAbs, zNegD, zTru, zBl, zRgL, zInt1, zMax2, zMin2, itemsOf, Zz.listOfD, Tgs.len, List.map_cons, List.map_nil, List.length_cons, List.length_nil, List.replicate_succ, List.replicate_zero, List.cons_append, List.nil_append, List.append_nil, List.set_cons_zero, List.set_cons_succ, Nat.sub_self, Nat.reduceSub, Nat.reduceAdd, reduceIte, Bool.false_eq_true, zIx_t0, zIx_t1, zIx_t2, zIx_t3, Bool.not_true, Bool.not_false, G, ctr, cst, zIsi_int, zIsi_tup, zIsi_lst, zIsi_bl, isTy, Option.some.injEq, exists_eq_left', List.cons.injEq, D.int.injEq, and_true, true_and, exists_and_left, and_self, okd_int, eqD_int, zComp, zwipe, zIx_fr0, zIx_fr1, Bool.true_and, Bool.and_true, decide_eq_true_eq, and_assoc, zIx_pt0, zIx_pt1, zIx_lk0, zIx_lk1, FR_inj, PT_inj, lookD_inj, PA_inj, PAs_inj, okd_FR, eqD_FR, okd_PT, eqD_PT, zSl_tup, cutD_1, cutD_to1, D.tup.injEq, D.lst.injEq, D.ref.injEq, ne_eq, zSeq_asg, zSeq_iff, zSeq_ret, zSeq_retN, zSeq_expr, zSeq_next, zSeq_seq, zSeq_never, zSeq_whl, zSeq_for, zSeq_aug, zNext_nx, zEnds_nx, zEnds_rt]
  have sh : CShl 1 0 := ⟨by decide, by decide⟩
  refine ⟨sh, by decide, m, s, hm, bm, bs, s0, fun k h1 h2 => ⟨sh, by decide, Nat.le_trans (floor_bits bm bs s0 h1 h2) (by decide), by decide, M, sub_refl, ?_⟩⟩
  have e : Rat.divInt k (1 * 2 ^ Int.toNat 0) = (k : Rat) := by
    show Rat.divInt k 1 = _
    rw [Rat.divInt_eq_div]
    show (k : Rat) / 1 = k
    generalize (k : Rat) = y
    grind
  rw [e]
  exact w k h1 h2
end K46
end
section
/-! K46r: tracked lists, loops; ways. -/
namespace Zz
open PySem PySem.Spec PyProof.Rows L2
section
variable {M : Mh} {p : Addr} {xs : List D} {y : D} {q : KD}
theorem zAppD_m : zAppD (.ref p) y (mup M p (.lst xs)) q = (xs.length < sizeLine ∧ q .non (mup M p (.lst (xs ++ [y])))) := by
  refine propext ⟨fun ⟨ys, e, h, w⟩ => ?_, fun ⟨h, w⟩ => ⟨xs, mup_same, h, by rw [mup_mup]; exact w⟩⟩
  rw [mup_same] at e; cases e; rw [mup_mup] at w; exact ⟨h, w⟩
theorem items_m : itemsOf (mup M p (.lst xs)) (.ref p) = some xs := by
  show (match mup M p (.lst xs) p with | some (.lst xs) => some xs | none => none) = some xs
  rw [mup_same]
theorem zTup1_m : zTuple1 [.ref p] (mup M p (.lst xs)) q = q (.tup xs) (mup M p (.lst xs)) := by
  refine propext ⟨fun ⟨ys, e, w⟩ => ?_, fun w => ⟨xs, items_m, w⟩⟩
  rw [items_m] at e; cases e; exact w
theorem zTup1_l : zTuple1 [.lst xs] M q = q (.tup xs) M := by
  refine propext ⟨fun ⟨ys, e, w⟩ => ?_, fun w => ⟨xs, rfl, w⟩⟩
  cases e; exact w
theorem isMuL_m : isMuL (.ref p) (mup M p (.lst xs)) = True := by
  refine propext ⟨fun _ => trivial, fun _ => ⟨xs, ?_⟩⟩
  show (match mup M p (.lst xs) p with | some (.lst xs) => some xs | none => none) = some xs
  rw [mup_same]
theorem at_last {α : Type} {xs : List α} {y : α} : L2.atI (xs ++ [y]) (-1) = some y := by
  unfold L2.atI L2.ixN
  rw [if_neg (by decide), if_pos (by rw [List.length_append]; simp only [List.length_singleton]; omega)]
  show (xs ++ [y])[_]? = some y
  have : (-1 + ((xs ++ [y]).length : Int)).toNat = xs.length := by rw [List.length_append]; simp only [List.length_singleton]; omega
  rw [this, List.getElem?_append_right (Nat.le_refl _), Nat.sub_self]; rfl
theorem zIx_ml : zIx (.ref p) (.int (-1)) (mup M p (.lst (xs ++ [y]))) q = q y (mup M p (.lst (xs ++ [y]))) := zIx_m at_last
end
theorem zLoop_gen {g : ZG} {body : ZS} {Z : ZEnds} {α : Type} (f : α → D) (P : List α → Sl → Mh → Prop)
    (hs : ∀ a r s M (k : Sl → Mh → Prop), P (a :: r) s M → (∀ s' M', P r s' M' → k s' M') → g (f a) s M fun s1 M1 => body { Z with nx := k, ct := k, bk := Z.nx } s1 M1)
    (he : ∀ s M, P [] s M → Z.nx s M) : ∀ items s M, P items s M → zLoop g body (items.map f) Z s M
  | [], s, M, h => he s M h
  | a :: r, s, M, h => hs a r s M (zLoop g body (r.map f) Z) h fun s' M' h' => zLoop_gen f P hs he r s' M' h'
end Zz
namespace K46
open PySem PySem.Spec PyProof.Rows L2 Zz
open PySem.Builtin.Int (intBits)

theorem zGTup_lk {n : Nat} {t : ZGs} {r : Rat} {p : P2} {s : Sl} {M : Mh} {k : Sl → Mh → Prop} : zGTup n t (lookD r p) s M k = (2 = n ∧ t [FR r, PT p] s M k) := propext Iff.rfl
theorem zGTup_leg {n : Nat} {t : ZGs} {l : Rep × Rep} {s : Sl} {M : Mh} {k : Sl → Mh → Prop} : zGTup n t (legD l) s M k = (2 = n ∧ t [lookD l.1.1 l.1.2, lookD l.2.1 l.2.2] s M k) := propext Iff.rfl
theorem wayD_inj {w u : List Rep} : (wayD w = wayD u) = (w = u) := by
  refine propext ⟨fun h => ?_, fun h => by rw [h]⟩
  unfold wayD at h
  injection h with h
  exact map_inj (fun x y e => by rw [lookD_inj] at e; exact Prod.ext e.1 e.2) h
theorem legs_zip (w : List Rep) : zipD (w.map fun r => lookD r.1 r.2) ((w.map fun r => lookD r.1 r.2).drop 1) = (legs w).map legD := by
  rw [← List.map_drop, zipD_map]; rfl
theorem p_is_report : ∀ ds M q, c_is_report ds M q → rdCs G ir_is_report (zEnds q) (zstart N_is_report ds) M := by
  rintro ds M q ⟨t, p, rfl, w⟩
  simp only [ir_is_report, N_is_report, c_is_tuple, c_is_fraction, c_is_point, rdCs, rdC, rd, rds, rdc, rdo, rdg, rdgs, rdi, rdAV, rdAT, rdOV, rdOT, ofV, mkT, testV, zVar, slot, zCst, zBin, zUn, zChain, zAndV, zOrV, zAndT, zOrT, zNotV, zNotT, zIte, zIteT, zTup, zTupS, zANil, zACons, zAStar, zCall, zCallK, zONone, zOSome, zSlice, zBitsD, zGName, zGTup_tup, zGTup_lst, zGTup_FR, zGsNil, zGsCons,  zSetD, zGItem, zISeq, zIRng, zIZip, zIEnum, zYes, zAugD, zstart, zOp, zAdd, zSub, zMul, zFdiv, zMod, zPow, zShl, zCo, zEq, zNe, zIntC, zIs, zIsn, Zz.isNon, zBi, zLen, zAbs, zNegD, zTru, zBl, zRgL, zInt1, zMax2, zMin2, itemsOf, Zz.listOfD, Tgs.len, List.map_cons, List.map_nil, List.length_cons, List.length_nil, List.replicate_succ, List.replicate_zero, List.cons_append, List.nil_append, List.append_nil, List.set_cons_zero, List.set_cons_succ, Nat.sub_self, Nat.reduceSub, Nat.reduceAdd, reduceIte, Bool.false_eq_true, zIx_t0, zIx_t1, zIx_t2, zIx_t3, Bool.not_true, Bool.not_false, G, ctr, cst, zIsi_int, zIsi_tup, zIsi_lst, zIsi_bl, isTy, Option.some.injEq, exists_eq_left', List.cons.injEq, D.int.injEq, and_true, true_and, exists_and_left, and_self, okd_int, eqD_int, zComp, zwipe, zIx_fr0, zIx_fr1, Bool.true_and, Bool.and_true, decide_eq_true_eq, and_assoc, zIx_pt0, zIx_pt1, zIx_lk0, zIx_lk1, FR_inj, PT_inj, lookD_inj, PA_inj, PAs_inj, okd_FR, eqD_FR, okd_PT, eqD_PT, zSl_tup, cutD_1, cutD_to1, D.tup.injEq, D.lst.injEq, D.ref.injEq, ne_eq, zSeq_asg, zSeq_iff, zSeq_ret, zSeq_retN, zSeq_expr, zSeq_next, zSeq_seq, zSeq_never, zSeq_whl, zSeq_for, zSeq_aug, zNext_nx, zEnds_nx, zEnds_rt]
  refine ⟨_, rfl, ?_⟩
  rw [if_pos (by simp)]
  exact ⟨M, sub_refl, w⟩
theorem legs_len {w : List Rep} : (legs w).length ≤ w.length := by
  unfold legs; rw [List.length_zip]; omega
theorem p_is_way : ∀ ds M q, c_is_way ds M q → rdCs G ir_is_way (zEnds q) (zstart N_is_way ds) M := by
  rintro ds M q ⟨w, rfl, g, hw⟩
  simp only [ir_is_way, N_is_way, c_is_tuple, c_is_report, c_is_below, rdCs, rdC, rd, rds, rdc, rdo, rdg, rdgs, rdi, rdAV, rdAT, rdOV, rdOT, ofV, mkT, testV, zVar, slot, zCst, zBin, zUn, zChain, zAndV, zOrV, zAndT, zOrT, zNotV, zNotT, zIte, zIteT, zTup, zTupS, zANil, zACons, zAStar, zCall, zCallK, zONone, zOSome, zSlice, zBitsD, zGName, zGTup_tup, zGTup_lst, zGTup_FR, zGsNil, zGsCons,  zSetD, zGItem, zISeq, zIRng, zIZip, zIEnum, zYes, zAugD, zstart, zOp, zAdd, zSub, zMul, zFdiv, zMod, zPow, zShl, zCo, zEq, zNe, zIntC, zIs, zIsn, Zz.isNon, zBi, zLen, zAbs, zNegD, zTru, zBl, zRgL, zInt1, zMax2, zMin2, itemsOf, Zz.listOfD, Tgs.len, List.map_cons, List.map_nil, List.length_cons, List.length_nil, List.replicate_succ, List.replicate_zero, List.cons_append, List.nil_append, List.append_nil, List.set_cons_zero, List.set_cons_succ, Nat.sub_self, Nat.reduceSub, Nat.reduceAdd, reduceIte, Bool.false_eq_true, zIx_t0, zIx_t1, zIx_t2, zIx_t3, Bool.not_true, Bool.not_false, G, ctr, cst, zIsi_int, zIsi_tup, zIsi_lst, zIsi_bl, isTy, Option.some.injEq, exists_eq_left', List.cons.injEq, D.int.injEq, and_true, true_and, exists_and_left, and_self, okd_int, eqD_int, zComp, zwipe, zIx_fr0, zIx_fr1, Bool.true_and, Bool.and_true, decide_eq_true_eq, and_assoc, zIx_pt0, zIx_pt1, zIx_lk0, zIx_lk1, FR_inj, PT_inj, lookD_inj, PA_inj, PAs_inj, okd_FR, eqD_FR, okd_PT, eqD_PT, zSl_tup, cutD_1, cutD_to1, D.tup.injEq, D.lst.injEq, D.ref.injEq, ne_eq, zSeq_asg, zSeq_iff, zSeq_ret, zSeq_retN, zSeq_expr, zSeq_next, zSeq_seq, zSeq_never, zSeq_whl, zSeq_for, zSeq_aug, zNext_nx, zEnds_nx, zEnds_rt]
  have l2 := g.l2
  have l4 := g.l4
  have lsz : (4 : Nat) ≤ sizeLine := by decide
  refine ⟨w.map fun r => lookD r.1 r.2, rfl, ?_⟩
  rw [if_neg (by
    simp only [List.length_map, Bool.not_eq_true', Bool.and_eq_false_iff, decide_eq_false_iff_not, not_or, Decidable.not_not]
    exact ⟨by omega, by omega⟩)]
  show ∀ a, M a = none → zTurns a _ _ _ _ (w.map fun r => lookD r.1 r.2) _ _ _
  intro a ha
  refine turns_mapA (fun _ => .bl true) ha (by omega) (fun r hr M' K hK => ?_) ?_
  · simp only [c_is_report, rdCs, rdC, rd, rds, rdc, rdo, rdg, rdgs, rdi, rdAV, rdAT, rdOV, rdOT, ofV, mkT, testV, zVar, slot, zCst, zBin, zUn, zChain, zAndV, zOrV, zAndT, zOrT, zNotV, zNotT, zIte, zIteT, zTup, zTupS, zANil, zACons, zAStar, zCall, zCallK, zONone, zOSome, zSlice, zBitsD, zGName, zGTup_tup, zGTup_lst, zGTup_FR, zGsNil, zGsCons,  zSetD, zGItem, zISeq, zIRng, zIZip, zIEnum, zYes, zAugD, zstart, zOp, zAdd, zSub, zMul, zFdiv, zMod, zPow, zShl, zCo, zEq, zNe, zIntC, zIs, zIsn, Zz.isNon, zBi, zLen, zAbs, zNegD, zTru, zBl, zRgL, zInt1, zMax2, zMin2, itemsOf, Zz.listOfD, Tgs.len, List.map_cons, List.map_nil, List.length_cons, List.length_nil, List.replicate_succ, List.replicate_zero, List.cons_append, List.nil_append, List.append_nil, List.set_cons_zero, List.set_cons_succ, Nat.sub_self, Nat.reduceSub, Nat.reduceAdd, reduceIte, Bool.false_eq_true, zIx_t0, zIx_t1, zIx_t2, zIx_t3, Bool.not_true, Bool.not_false, G, ctr, cst, zIsi_int, zIsi_tup, zIsi_lst, zIsi_bl, isTy, Option.some.injEq, exists_eq_left', List.cons.injEq, D.int.injEq, and_true, true_and, exists_and_left, and_self, okd_int, eqD_int, zComp, zwipe, zIx_fr0, zIx_fr1, Bool.true_and, Bool.and_true, decide_eq_true_eq, and_assoc, zIx_pt0, zIx_pt1, zIx_lk0, zIx_lk1, FR_inj, PT_inj, lookD_inj, PA_inj, PAs_inj, okd_FR, eqD_FR, okd_PT, eqD_PT, zSl_tup, cutD_1, cutD_to1, D.tup.injEq, D.lst.injEq, D.ref.injEq, ne_eq, zSeq_asg, zSeq_iff, zSeq_ret, zSeq_retN, zSeq_expr, zSeq_next, zSeq_seq, zSeq_never, zSeq_whl, zSeq_for, zSeq_aug, zNext_nx, zEnds_nx, zEnds_rt]
    exact hK
  · refine all_true w ?_
    simp only [rdCs, rdC, rd, rds, rdc, rdo, rdg, rdgs, rdi, rdAV, rdAT, rdOV, rdOT, ofV, mkT, testV, zVar, slot, zCst, zBin, zUn, zChain, zAndV, zOrV, zAndT, zOrT, zNotV, zNotT, zIte, zIteT, zTup, zTupS, zANil, zACons, zAStar, zCall, zCallK, zONone, zOSome, zSlice, zBitsD, zGName, zGTup_tup, zGTup_lst, zGTup_FR, zGsNil, zGsCons,  zSetD, zGItem, zISeq, zIRng, zIZip, zIEnum, zYes, zAugD, zstart, zOp, zAdd, zSub, zMul, zFdiv, zMod, zPow, zShl, zCo, zEq, zNe, zIntC, zIs, zIsn, Zz.isNon, zBi, zLen, zAbs, zNegD, zTru, zBl, zRgL, zInt1, zMax2, zMin2, itemsOf, Zz.listOfD, Tgs.len, List.map_cons, List.map_nil, List.length_cons, List.length_nil, List.replicate_succ, List.replicate_zero, List.cons_append, List.nil_append, List.append_nil, List.set_cons_zero, List.set_cons_succ, Nat.sub_self, Nat.reduceSub, Nat.reduceAdd, reduceIte, Bool.false_eq_true, zIx_t0, zIx_t1, zIx_t2, zIx_t3, Bool.not_true, Bool.not_false, G, ctr, cst, zIsi_int, zIsi_tup, zIsi_lst, zIsi_bl, isTy, Option.some.injEq, exists_eq_left', List.cons.injEq, D.int.injEq, and_true, true_and, exists_and_left, and_self, okd_int, eqD_int, zComp, zwipe, zIx_fr0, zIx_fr1, Bool.true_and, Bool.and_true, decide_eq_true_eq, and_assoc, zIx_pt0, zIx_pt1, zIx_lk0, zIx_lk1, FR_inj, PT_inj, lookD_inj, PA_inj, PAs_inj, okd_FR, eqD_FR, okd_PT, eqD_PT, zSl_tup, cutD_1, cutD_to1, D.tup.injEq, D.lst.injEq, D.ref.injEq, ne_eq, zSeq_asg, zSeq_iff, zSeq_ret, zSeq_retN, zSeq_expr, zSeq_next, zSeq_seq, zSeq_never, zSeq_whl, zSeq_for, zSeq_aug, zNext_nx, zEnds_nx, zEnds_rt]
    show zSl (.tup (w.map fun r => lookD r.1 r.2)) (some 1) none M _
    rw [zSl_tup, cutD_1]
    show ∀ a, M a = none → zTurns a _ _ _ _ (zipD (w.map fun r => lookD r.1 r.2) ((w.map fun r => lookD r.1 r.2).drop 1)) _ _ _
    rw [legs_zip]
    intro a2 ha2
    refine turns_mapA (fun _ => .bl true) ha2 (Nat.le_trans legs_len (by omega)) (fun l hl M' K hK => ?_) ?_
    · have gl := g.leg l hl
      simp only [zGTup_leg, c_is_below, rdCs, rdC, rd, rds, rdc, rdo, rdg, rdgs, rdi, rdAV, rdAT, rdOV, rdOT, ofV, mkT, testV, zVar, slot, zCst, zBin, zUn, zChain, zAndV, zOrV, zAndT, zOrT, zNotV, zNotT, zIte, zIteT, zTup, zTupS, zANil, zACons, zAStar, zCall, zCallK, zONone, zOSome, zSlice, zBitsD, zGName, zGTup_tup, zGTup_lst, zGTup_FR, zGsNil, zGsCons,  zSetD, zGItem, zISeq, zIRng, zIZip, zIEnum, zYes, zAugD, zstart, zOp, zAdd, zSub, zMul, zFdiv, zMod, zPow, zShl, zCo, zEq, zNe, zIntC, zIs, zIsn, Zz.isNon, zBi, zLen, zAbs, zNegD, zTru, zBl, zRgL, zInt1, zMax2, zMin2, itemsOf, Zz.listOfD, Tgs.len, List.map_cons, List.map_nil, List.length_cons, List.length_nil, List.replicate_succ, List.replicate_zero, List.cons_append, List.nil_append, List.append_nil, List.set_cons_zero, List.set_cons_succ, Nat.sub_self, Nat.reduceSub, Nat.reduceAdd, reduceIte, Bool.false_eq_true, zIx_t0, zIx_t1, zIx_t2, zIx_t3, Bool.not_true, Bool.not_false, G, ctr, cst, zIsi_int, zIsi_tup, zIsi_lst, zIsi_bl, isTy, Option.some.injEq, exists_eq_left', List.cons.injEq, D.int.injEq, and_true, true_and, exists_and_left, and_self, okd_int, eqD_int, zComp, zwipe, zIx_fr0, zIx_fr1, Bool.true_and, Bool.and_true, decide_eq_true_eq, and_assoc, zIx_pt0, zIx_pt1, zIx_lk0, zIx_lk1, FR_inj, PT_inj, lookD_inj, PA_inj, PAs_inj, okd_FR, eqD_FR, okd_PT, eqD_PT, zSl_tup, cutD_1, cutD_to1, D.tup.injEq, D.lst.injEq, D.ref.injEq, ne_eq, zSeq_asg, zSeq_iff, zSeq_ret, zSeq_retN, zSeq_expr, zSeq_next, zSeq_seq, zSeq_never, zSeq_whl, zSeq_for, zSeq_aug, zNext_nx, zEnds_nx, zEnds_rt]
      refine ⟨gl.t0.b.mono (by decide), gl.t1.b.mono (by decide), ?_⟩
      rw [decide_eq_true gl.lt]
      exact hK
    · refine all_true _ ?_
      exact ⟨M, sub_refl, hw⟩
theorem p_check_way : ∀ ds M q, c_check_way ds M q → rdCs G ir_check_way (zEnds q) (zstart N_check_way ds) M := by
  rintro ds M q ⟨w, rfl, g, hw⟩
  simp only [ir_check_way, N_check_way, c_is_way, wayD_inj, rdCs, rdC, rd, rds, rdc, rdo, rdg, rdgs, rdi, rdAV, rdAT, rdOV, rdOT, ofV, mkT, testV, zVar, slot, zCst, zBin, zUn, zChain, zAndV, zOrV, zAndT, zOrT, zNotV, zNotT, zIte, zIteT, zTup, zTupS, zANil, zACons, zAStar, zCall, zCallK, zONone, zOSome, zSlice, zBitsD, zGName, zGTup_tup, zGTup_lst, zGTup_FR, zGsNil, zGsCons,  zSetD, zGItem, zISeq, zIRng, zIZip, zIEnum, zYes, zAugD, zstart, zOp, zAdd, zSub, zMul, zFdiv, zMod, zPow, zShl, zCo, zEq, zNe, zIntC, zIs, zIsn, Zz.isNon, zBi, zLen, zAbs, zNegD, zTru, zBl, zRgL, zInt1, zMax2, zMin2, itemsOf, Zz.listOfD, Tgs.len, List.map_cons, List.map_nil, List.length_cons, List.length_nil, List.replicate_succ, List.replicate_zero, List.cons_append, List.nil_append, List.append_nil, List.set_cons_zero, List.set_cons_succ, Nat.sub_self, Nat.reduceSub, Nat.reduceAdd, reduceIte, Bool.false_eq_true, zIx_t0, zIx_t1, zIx_t2, zIx_t3, Bool.not_true, Bool.not_false, G, ctr, cst, zIsi_int, zIsi_tup, zIsi_lst, zIsi_bl, isTy, Option.some.injEq, exists_eq_left', List.cons.injEq, D.int.injEq, and_true, true_and, exists_and_left, and_self, okd_int, eqD_int, zComp, zwipe, zIx_fr0, zIx_fr1, Bool.true_and, Bool.and_true, decide_eq_true_eq, and_assoc, zIx_pt0, zIx_pt1, zIx_lk0, zIx_lk1, FR_inj, PT_inj, lookD_inj, PA_inj, PAs_inj, okd_FR, eqD_FR, okd_PT, eqD_PT, zSl_tup, cutD_1, cutD_to1, D.tup.injEq, D.lst.injEq, D.ref.injEq, ne_eq, zSeq_asg, zSeq_iff, zSeq_ret, zSeq_retN, zSeq_expr, zSeq_next, zSeq_seq, zSeq_never, zSeq_whl, zSeq_for, zSeq_aug, zNext_nx, zEnds_nx, zEnds_rt]
  exact ⟨g, M, sub_refl, hw⟩
theorem p_legs_of : ∀ ds M q, c_legs_of ds M q → rdCs G ir_legs_of (zEnds q) (zstart N_legs_of ds) M := by
  rintro ds M q ⟨w, rfl, g, hw⟩
  simp only [ir_legs_of, N_legs_of, rdCs, rdC, rd, rds, rdc, rdo, rdg, rdgs, rdi, rdAV, rdAT, rdOV, rdOT, ofV, mkT, testV, zVar, slot, zCst, zBin, zUn, zChain, zAndV, zOrV, zAndT, zOrT, zNotV, zNotT, zIte, zIteT, zTup, zTupS, zANil, zACons, zAStar, zCall, zCallK, zONone, zOSome, zSlice, zBitsD, zGName, zGTup_tup, zGTup_lst, zGTup_FR, zGsNil, zGsCons,  zSetD, zGItem, zISeq, zIRng, zIZip, zIEnum, zYes, zAugD, zstart, zOp, zAdd, zSub, zMul, zFdiv, zMod, zPow, zShl, zCo, zEq, zNe, zIntC, zIs, zIsn, Zz.isNon, zBi, zLen, zAbs, zNegD, zTru, zBl, zRgL, zInt1, zMax2, zMin2, itemsOf, Zz.listOfD, Tgs.len, List.map_cons, List.map_nil, List.length_cons, List.length_nil, List.replicate_succ, List.replicate_zero, List.cons_append, List.nil_append, List.append_nil, List.set_cons_zero, List.set_cons_succ, Nat.sub_self, Nat.reduceSub, Nat.reduceAdd, reduceIte, Bool.false_eq_true, zIx_t0, zIx_t1, zIx_t2, zIx_t3, Bool.not_true, Bool.not_false, G, ctr, cst, zIsi_int, zIsi_tup, zIsi_lst, zIsi_bl, isTy, Option.some.injEq, exists_eq_left', List.cons.injEq, D.int.injEq, and_true, true_and, exists_and_left, and_self, okd_int, eqD_int, zComp, zwipe, zIx_fr0, zIx_fr1, Bool.true_and, Bool.and_true, decide_eq_true_eq, and_assoc, zIx_pt0, zIx_pt1, zIx_lk0, zIx_lk1, FR_inj, PT_inj, lookD_inj, PA_inj, PAs_inj, okd_FR, eqD_FR, okd_PT, eqD_PT, zSl_tup, cutD_1, cutD_to1, D.tup.injEq, D.lst.injEq, D.ref.injEq, ne_eq, zSeq_asg, zSeq_iff, zSeq_ret, zSeq_retN, zSeq_expr, zSeq_next, zSeq_seq, zSeq_never, zSeq_whl, zSeq_for, zSeq_aug, zNext_nx, zEnds_nx, zEnds_rt]
  show zSl (.tup (w.map fun r => lookD r.1 r.2)) (some 1) none M _
  rw [zSl_tup, cutD_1]
  show ∃ M3, Zz.Sub M3 M ∧ q (.lst (zipD (w.map fun r => lookD r.1 r.2) ((w.map fun r => lookD r.1 r.2).drop 1))) M3
  rw [legs_zip]
  exact ⟨M, sub_refl, hw⟩
theorem p_run_of : ∀ ds M q, c_run_of ds M q → rdCs G ir_run_of (zEnds q) (zstart N_run_of ds) M := by
  rintro ds M q ⟨t0, a, t1, b, ax, rfl, g, w⟩
  have m3 : (3 : Nat) ≤ 4400 := by decide
  have bd := g.b
  have b0 := g.t0.b
  have b1 := g.t1.b
  have p0 := g.p0
  have p1 := g.p1
  have ne := g.ne
  rcases w with ⟨rfl, w⟩ | ⟨rfl, w⟩
  · have bs := (p1.x.sub p0.x).div ne bd
    simp only [ir_run_of, N_run_of, c2, c_over, rdCs, rdC, rd, rds, rdc, rdo, rdg, rdgs, rdi, rdAV, rdAT, rdOV, rdOT, ofV, mkT, testV, zVar, slot, zCst, zBin, zUn, zChain, zAndV, zOrV, zAndT, zOrT, zNotV, zNotT, zIte, zIteT, zTup, zTupS, zANil, zACons, zAStar, zCall, zCallK, zONone, zOSome, zSlice, zBitsD, zGName, zGTup_tup, zGTup_lst, zGTup_FR, zGsNil, zGsCons,  zSetD, zGItem, zISeq, zIRng, zIZip, zIEnum, zYes, zAugD, zstart, zOp, zAdd, zSub, zMul, zFdiv, zMod, zPow, zShl, zCo, zEq, zNe, zIntC, zIs, zIsn, Zz.isNon, zBi, zLen, zAbs, zNegD, zTru, zBl, zRgL, zInt1, zMax2, zMin2, itemsOf, Zz.listOfD, Tgs.len, List.map_cons, List.map_nil, List.length_cons, List.length_nil, List.replicate_succ, List.replicate_zero, List.cons_append, List.nil_append, List.append_nil, List.set_cons_zero, List.set_cons_succ, Nat.sub_self, Nat.reduceSub, Nat.reduceAdd, reduceIte, Bool.false_eq_true, zIx_t0, zIx_t1, zIx_t2, zIx_t3, Bool.not_true, Bool.not_false, G, ctr, cst, zIsi_int, zIsi_tup, zIsi_lst, zIsi_bl, isTy, Option.some.injEq, exists_eq_left', List.cons.injEq, D.int.injEq, and_true, true_and, exists_and_left, and_self, okd_int, eqD_int, zComp, zwipe, zIx_fr0, zIx_fr1, Bool.true_and, Bool.and_true, decide_eq_true_eq, and_assoc, zIx_pt0, zIx_pt1, zIx_lk0, zIx_lk1, FR_inj, PT_inj, lookD_inj, PA_inj, PAs_inj, okd_FR, eqD_FR, okd_PT, eqD_PT, zSl_tup, cutD_1, cutD_to1, D.tup.injEq, D.lst.injEq, D.ref.injEq, ne_eq, zSeq_asg, zSeq_iff, zSeq_ret, zSeq_retN, zSeq_expr, zSeq_next, zSeq_seq, zSeq_never, zSeq_whl, zSeq_for, zSeq_aug, zNext_nx, zEnds_nx, zEnds_rt]
    exact ⟨p1.x.mono m3, p0.x.mono m3, b1.mono (by decide), b0.mono (by decide), ne, (p1.x.sub p0.x).mono (by decide), bd.mono (by decide), bs.mono (by decide), b0.mono (by decide), p0.x.mono m3, (bs.mul b0).mono (by decide), M, sub_refl, w⟩
  · have bs := (p1.y.sub p0.y).div ne bd
    simp only [ir_run_of, N_run_of, c2, c_over, rdCs, rdC, rd, rds, rdc, rdo, rdg, rdgs, rdi, rdAV, rdAT, rdOV, rdOT, ofV, mkT, testV, zVar, slot, zCst, zBin, zUn, zChain, zAndV, zOrV, zAndT, zOrT, zNotV, zNotT, zIte, zIteT, zTup, zTupS, zANil, zACons, zAStar, zCall, zCallK, zONone, zOSome, zSlice, zBitsD, zGName, zGTup_tup, zGTup_lst, zGTup_FR, zGsNil, zGsCons,  zSetD, zGItem, zISeq, zIRng, zIZip, zIEnum, zYes, zAugD, zstart, zOp, zAdd, zSub, zMul, zFdiv, zMod, zPow, zShl, zCo, zEq, zNe, zIntC, zIs, zIsn, Zz.isNon, zBi, zLen, zAbs, zNegD, zTru, zBl, zRgL, zInt1, zMax2, zMin2, itemsOf, Zz.listOfD, Tgs.len, List.map_cons, List.map_nil, List.length_cons, List.length_nil, List.replicate_succ, List.replicate_zero, List.cons_append, List.nil_append, List.append_nil, List.set_cons_zero, List.set_cons_succ, Nat.sub_self, Nat.reduceSub, Nat.reduceAdd, reduceIte, Bool.false_eq_true, zIx_t0, zIx_t1, zIx_t2, zIx_t3, Bool.not_true, Bool.not_false, G, ctr, cst, zIsi_int, zIsi_tup, zIsi_lst, zIsi_bl, isTy, Option.some.injEq, exists_eq_left', List.cons.injEq, D.int.injEq, and_true, true_and, exists_and_left, and_self, okd_int, eqD_int, zComp, zwipe, zIx_fr0, zIx_fr1, Bool.true_and, Bool.and_true, decide_eq_true_eq, and_assoc, zIx_pt0, zIx_pt1, zIx_lk0, zIx_lk1, FR_inj, PT_inj, lookD_inj, PA_inj, PAs_inj, okd_FR, eqD_FR, okd_PT, eqD_PT, zSl_tup, cutD_1, cutD_to1, D.tup.injEq, D.lst.injEq, D.ref.injEq, ne_eq, zSeq_asg, zSeq_iff, zSeq_ret, zSeq_retN, zSeq_expr, zSeq_next, zSeq_seq, zSeq_never, zSeq_whl, zSeq_for, zSeq_aug, zNext_nx, zEnds_nx, zEnds_rt]
    exact ⟨p1.y.mono m3, p0.y.mono m3, b1.mono (by decide), b0.mono (by decide), ne, (p1.y.sub p0.y).mono (by decide), bd.mono (by decide), bs.mono (by decide), b0.mono (by decide), p0.y.mono m3, (bs.mul b0).mono (by decide), M, sub_refl, w⟩
theorem p_leg_at : ∀ ds M q, c_leg_at ds M q → rdCs G ir_leg_at (zEnds q) (zstart N_leg_at ds) M := by
  rintro ds M q ⟨w, t, rfl, ⟨g, o⟩, hw⟩
  simp only [ir_leg_at, N_leg_at, c_legs_of, c_compared_moments, wayD_inj, rdCs, rdC, rd, rds, rdc, rdo, rdg, rdgs, rdi, rdAV, rdAT, rdOV, rdOT, ofV, mkT, testV, zVar, slot, zCst, zBin, zUn, zChain, zAndV, zOrV, zAndT, zOrT, zNotV, zNotT, zIte, zIteT, zTup, zTupS, zANil, zACons, zAStar, zCall, zCallK, zONone, zOSome, zSlice, zBitsD, zGName, zGTup_tup, zGTup_lst, zGTup_FR, zGsNil, zGsCons,  zSetD, zGItem, zISeq, zIRng, zIZip, zIEnum, zYes, zAugD, zstart, zOp, zAdd, zSub, zMul, zFdiv, zMod, zPow, zShl, zCo, zEq, zNe, zIntC, zIs, zIsn, Zz.isNon, zBi, zLen, zAbs, zNegD, zTru, zBl, zRgL, zInt1, zMax2, zMin2, itemsOf, Zz.listOfD, Tgs.len, List.map_cons, List.map_nil, List.length_cons, List.length_nil, List.replicate_succ, List.replicate_zero, List.cons_append, List.nil_append, List.append_nil, List.set_cons_zero, List.set_cons_succ, Nat.sub_self, Nat.reduceSub, Nat.reduceAdd, reduceIte, Bool.false_eq_true, zIx_t0, zIx_t1, zIx_t2, zIx_t3, Bool.not_true, Bool.not_false, G, ctr, cst, zIsi_int, zIsi_tup, zIsi_lst, zIsi_bl, isTy, Option.some.injEq, exists_eq_left', List.cons.injEq, D.int.injEq, and_true, true_and, exists_and_left, and_self, okd_int, eqD_int, zComp, zwipe, zIx_fr0, zIx_fr1, Bool.true_and, Bool.and_true, decide_eq_true_eq, and_assoc, zIx_pt0, zIx_pt1, zIx_lk0, zIx_lk1, FR_inj, PT_inj, lookD_inj, PA_inj, PAs_inj, okd_FR, eqD_FR, okd_PT, eqD_PT, zSl_tup, cutD_1, cutD_to1, D.tup.injEq, D.lst.injEq, D.ref.injEq, ne_eq, zSeq_asg, zSeq_iff, zSeq_ret, zSeq_retN, zSeq_expr, zSeq_next, zSeq_seq, zSeq_never, kSeq_whl, kSeq_for, zSeq_aug, zNext_nx, zEnds_nx, zEnds_rt]
  refine ⟨g.l4, ?_⟩
  show zLoop _ _ ((legs w).map legD) _ _ M
  obtain ⟨l, h1, h2, h3, h4⟩ := way_legOf g o
  have hw := hw l h2
  refine zLoop_gen legD (fun r s M' => M' = M ∧ (∀ l ∈ r, GoodLeg l) ∧ r.find? (fun l => decide (t ≤ l.2.1)) = some l ∧ ∃ x2 x3, s = [some (wayD w), some (FR t), x2, x3]) ?_ ?_ (legs w) _ M ⟨rfl, g.leg, h2, _, _, rfl⟩
  · rintro a r s M' k ⟨rfl, gr, hf, x2, x3, rfl⟩ hk
    have ga := gr a List.mem_cons_self
    simp only [zGTup_leg, c_compared_moments, rdCs, rdC, rd, rds, rdc, rdo, rdg, rdgs, rdi, rdAV, rdAT, rdOV, rdOT, ofV, mkT, testV, zVar, slot, zCst, zBin, zUn, zChain, zAndV, zOrV, zAndT, zOrT, zNotV, zNotT, zIte, zIteT, zTup, zTupS, zANil, zACons, zAStar, zCall, zCallK, zONone, zOSome, zSlice, zBitsD, zGName, zGTup_tup, zGTup_lst, zGTup_FR, zGsNil, zGsCons,  zSetD, zGItem, zISeq, zIRng, zIZip, zIEnum, zYes, zAugD, zstart, zOp, zAdd, zSub, zMul, zFdiv, zMod, zPow, zShl, zCo, zEq, zNe, zIntC, zIs, zIsn, Zz.isNon, zBi, zLen, zAbs, zNegD, zTru, zBl, zRgL, zInt1, zMax2, zMin2, itemsOf, Zz.listOfD, Tgs.len, List.map_cons, List.map_nil, List.length_cons, List.length_nil, List.replicate_succ, List.replicate_zero, List.cons_append, List.nil_append, List.append_nil, List.set_cons_zero, List.set_cons_succ, Nat.sub_self, Nat.reduceSub, Nat.reduceAdd, reduceIte, Bool.false_eq_true, zIx_t0, zIx_t1, zIx_t2, zIx_t3, Bool.not_true, Bool.not_false, G, ctr, cst, zIsi_int, zIsi_tup, zIsi_lst, zIsi_bl, isTy, Option.some.injEq, exists_eq_left', List.cons.injEq, D.int.injEq, and_true, true_and, exists_and_left, and_self, okd_int, eqD_int, zComp, zwipe, zIx_fr0, zIx_fr1, Bool.true_and, Bool.and_true, decide_eq_true_eq, and_assoc, zIx_pt0, zIx_pt1, zIx_lk0, zIx_lk1, FR_inj, PT_inj, lookD_inj, PA_inj, PAs_inj, okd_FR, eqD_FR, okd_PT, eqD_PT, zSl_tup, cutD_1, cutD_to1, D.tup.injEq, D.lst.injEq, D.ref.injEq, ne_eq, zSeq_asg, zSeq_iff, zSeq_ret, zSeq_retN, zSeq_expr, zSeq_next, zSeq_seq, zSeq_never, zSeq_whl, zSeq_for, zSeq_aug, zNext_nx, zEnds_nx, zEnds_rt]
    refine ⟨o.tw.b.mono (by decide), ga.t1.b.mono (by decide), fun i hi => ?_⟩
    rw [List.find?_cons] at hf
    by_cases c : t ≤ a.2.1
    · rw [if_pos (hi.mpr c)]
      rw [decide_eq_true c] at hf
      cases hf
      exact ⟨M', sub_refl, hw⟩
    · rw [if_neg (fun z => c (hi.mp z))]
      rw [decide_eq_false c] at hf
      exact hk _ _ ⟨rfl, fun l hl => gr l (List.mem_cons_of_mem _ hl), hf, _, _, rfl⟩
  · rintro s M' ⟨rfl, _, hf, _⟩
    cases hf
theorem at_eq {a0 a1 t t0 d : Rat} (hd : d ≠ 0) : (a1 - a0) / d * t + (a0 - (a1 - a0) / d * t0) = a0 + (t - t0) / d * (a1 - a0) := by
  rw [Rat.div_def, Rat.div_def]
  generalize d⁻¹ = e
  grind
theorem p_at_of : ∀ ds M q, c_at_of ds M q → rdCs G ir_at_of (zEnds q) (zstart N_at_of ds) M := by
  rintro ds M q ⟨w, t, rfl, ⟨g, o⟩, hw⟩
  obtain ⟨l, h1, h2, h3, h4⟩ := way_legOf g o
  rw [place_of h2] at hw
  have gl := g.leg l h1
  have ne := gl.ne
  have bx := (gl.p1.x.sub gl.p0.x).div ne gl.b
  have bY := (gl.p1.y.sub gl.p0.y).div ne gl.b
  have bt := o.tw.b
  have b0 := gl.t0.b
  have hx : slopeX l * t + (l.1.2.1 - slopeX l * l.1.1) = (placeLeg l t).1 := at_eq ne
  have hy : slopeY l * t + (l.1.2.2 - slopeY l * l.1.1) = (placeLeg l t).2 := at_eq ne
  have bx : B 9 (slopeX l) := bx
  have bY : B 9 (slopeY l) := bY
  simp only [ir_at_of, N_at_of, c_leg_at, wayD_inj, rdCs, rdC, rd, rds, rdc, rdo, rdg, rdgs, rdi, rdAV, rdAT, rdOV, rdOT, ofV, mkT, testV, zVar, slot, zCst, zBin, zUn, zChain, zAndV, zOrV, zAndT, zOrT, zNotV, zNotT, zIte, zIteT, zTup, zTupS, zANil, zACons, zAStar, zCall, zCallK, zONone, zOSome, zSlice, zBitsD, zGName, zGTup_tup, zGTup_lst, zGTup_FR, zGsNil, zGsCons,  zSetD, zGItem, zISeq, zIRng, zIZip, zIEnum, zYes, zAugD, zstart, zOp, zAdd, zSub, zMul, zFdiv, zMod, zPow, zShl, zCo, zEq, zNe, zIntC, zIs, zIsn, Zz.isNon, zBi, zLen, zAbs, zNegD, zTru, zBl, zRgL, zInt1, zMax2, zMin2, itemsOf, Zz.listOfD, Tgs.len, List.map_cons, List.map_nil, List.length_cons, List.length_nil, List.replicate_succ, List.replicate_zero, List.cons_append, List.nil_append, List.append_nil, List.set_cons_zero, List.set_cons_succ, Nat.sub_self, Nat.reduceSub, Nat.reduceAdd, reduceIte, Bool.false_eq_true, zIx_t0, zIx_t1, zIx_t2, zIx_t3, Bool.not_true, Bool.not_false, G, ctr, cst, zIsi_int, zIsi_tup, zIsi_lst, zIsi_bl, isTy, Option.some.injEq, exists_eq_left', List.cons.injEq, D.int.injEq, and_true, true_and, exists_and_left, and_self, okd_int, eqD_int, zComp, zwipe, zIx_fr0, zIx_fr1, Bool.true_and, Bool.and_true, decide_eq_true_eq, and_assoc, zIx_pt0, zIx_pt1, zIx_lk0, zIx_lk1, FR_inj, PT_inj, lookD_inj, PA_inj, PAs_inj, okd_FR, eqD_FR, okd_PT, eqD_PT, zSl_tup, cutD_1, cutD_to1, D.tup.injEq, D.lst.injEq, D.ref.injEq, ne_eq, zSeq_asg, zSeq_iff, zSeq_ret, zSeq_retN, zSeq_expr, zSeq_next, zSeq_seq, zSeq_never, kSeq_whl, kSeq_for, zSeq_aug, zNext_nx, zEnds_nx, zEnds_rt]
  refine ⟨g, o, fun l' hl' => ?_⟩
  rw [h2] at hl'
  cases hl'
  simp only [zGTup_leg, zLst, zLoop, zMeth, c_run_of, c2, rdCs, rdC, rd, rds, rdc, rdo, rdg, rdgs, rdi, rdAV, rdAT, rdOV, rdOT, ofV, mkT, testV, zVar, slot, zCst, zBin, zUn, zChain, zAndV, zOrV, zAndT, zOrT, zNotV, zNotT, zIte, zIteT, zTup, zTupS, zANil, zACons, zAStar, zCall, zCallK, zONone, zOSome, zSlice, zBitsD, zGName, zGTup_tup, zGTup_lst, zGTup_FR, zGsNil, zGsCons,  zSetD, zGItem, zISeq, zIRng, zIZip, zIEnum, zYes, zAugD, zstart, zOp, zAdd, zSub, zMul, zFdiv, zMod, zPow, zShl, zCo, zEq, zNe, zIntC, zIs, zIsn, Zz.isNon, zBi, zLen, zAbs, zNegD, zTru, zBl, zRgL, zInt1, zMax2, zMin2, itemsOf, Zz.listOfD, Tgs.len, List.map_cons, List.map_nil, List.length_cons, List.length_nil, List.replicate_succ, List.replicate_zero, List.cons_append, List.nil_append, List.append_nil, List.set_cons_zero, List.set_cons_succ, Nat.sub_self, Nat.reduceSub, Nat.reduceAdd, reduceIte, Bool.false_eq_true, zIx_t0, zIx_t1, zIx_t2, zIx_t3, Bool.not_true, Bool.not_false, G, ctr, cst, zIsi_int, zIsi_tup, zIsi_lst, zIsi_bl, isTy, Option.some.injEq, exists_eq_left', List.cons.injEq, D.int.injEq, and_true, true_and, exists_and_left, and_self, okd_int, eqD_int, zComp, zwipe, zIx_fr0, zIx_fr1, Bool.true_and, Bool.and_true, decide_eq_true_eq, and_assoc, zIx_pt0, zIx_pt1, zIx_lk0, zIx_lk1, FR_inj, PT_inj, lookD_inj, PA_inj, PAs_inj, okd_FR, eqD_FR, okd_PT, eqD_PT, zSl_tup, cutD_1, cutD_to1, D.tup.injEq, D.lst.injEq, D.ref.injEq, ne_eq, zSeq_asg, zSeq_iff, zSeq_ret, zSeq_retN, zSeq_expr, zSeq_next, zSeq_seq, zSeq_never, kSeq_whl, kSeq_for, zSeq_aug, zNext_nx, zEnds_nx, zEnds_rt]
  intro p hp
  refine ⟨gl, .inl ?_⟩
  simp only [zGTup_tup, zMeth, isMuL_m, zAppD_m, rdCs, rdC, rd, rds, rdc, rdo, rdg, rdgs, rdi, rdAV, rdAT, rdOV, rdOT, ofV, mkT, testV, zVar, slot, zCst, zBin, zUn, zChain, zAndV, zOrV, zAndT, zOrT, zNotV, zNotT, zIte, zIteT, zTup, zTupS, zANil, zACons, zAStar, zCall, zCallK, zONone, zOSome, zSlice, zBitsD, zGName, zGTup_tup, zGTup_lst, zGTup_FR, zGsNil, zGsCons,  zSetD, zGItem, zISeq, zIRng, zIZip, zIEnum, zYes, zAugD, zstart, zOp, zAdd, zSub, zMul, zFdiv, zMod, zPow, zShl, zCo, zEq, zNe, zIntC, zIs, zIsn, Zz.isNon, zBi, zLen, zAbs, zNegD, zTru, zBl, zRgL, zInt1, zMax2, zMin2, itemsOf, Zz.listOfD, Tgs.len, List.map_cons, List.map_nil, List.length_cons, List.length_nil, List.replicate_succ, List.replicate_zero, List.cons_append, List.nil_append, List.append_nil, List.set_cons_zero, List.set_cons_succ, Nat.sub_self, Nat.reduceSub, Nat.reduceAdd, reduceIte, Bool.false_eq_true, zIx_t0, zIx_t1, zIx_t2, zIx_t3, Bool.not_true, Bool.not_false, G, ctr, cst, zIsi_int, zIsi_tup, zIsi_lst, zIsi_bl, isTy, Option.some.injEq, exists_eq_left', List.cons.injEq, D.int.injEq, and_true, true_and, exists_and_left, and_self, okd_int, eqD_int, zComp, zwipe, zIx_fr0, zIx_fr1, Bool.true_and, Bool.and_true, decide_eq_true_eq, and_assoc, zIx_pt0, zIx_pt1, zIx_lk0, zIx_lk1, FR_inj, PT_inj, lookD_inj, PA_inj, PAs_inj, okd_FR, eqD_FR, okd_PT, eqD_PT, zSl_tup, cutD_1, cutD_to1, D.tup.injEq, D.lst.injEq, D.ref.injEq, ne_eq, zSeq_asg, zSeq_iff, zSeq_ret, zSeq_retN, zSeq_expr, zSeq_next, zSeq_seq, zSeq_never, kSeq_whl, kSeq_for, zSeq_aug, zNext_nx, zEnds_nx, zEnds_rt]
  refine ⟨bx.mono (by decide), bt.mono (by decide), (bx.mul bt).mono (by decide), (gl.p0.x.sub (bx.mul b0)).mono (by decide), by decide, gl, .inr ?_⟩
  simp only [zGTup_tup, zMeth, isMuL_m, zAppD_m, zTup1_m, kont, rdCs, rdC, rd, rds, rdc, rdo, rdg, rdgs, rdi, rdAV, rdAT, rdOV, rdOT, ofV, mkT, testV, zVar, slot, zCst, zBin, zUn, zChain, zAndV, zOrV, zAndT, zOrT, zNotV, zNotT, zIte, zIteT, zTup, zTupS, zANil, zACons, zAStar, zCall, zCallK, zONone, zOSome, zSlice, zBitsD, zGName, zGTup_tup, zGTup_lst, zGTup_FR, zGsNil, zGsCons,  zSetD, zGItem, zISeq, zIRng, zIZip, zIEnum, zYes, zAugD, zstart, zOp, zAdd, zSub, zMul, zFdiv, zMod, zPow, zShl, zCo, zEq, zNe, zIntC, zIs, zIsn, Zz.isNon, zBi, zLen, zAbs, zNegD, zTru, zBl, zRgL, zInt1, zMax2, zMin2, itemsOf, Zz.listOfD, Tgs.len, List.map_cons, List.map_nil, List.length_cons, List.length_nil, List.replicate_succ, List.replicate_zero, List.cons_append, List.nil_append, List.append_nil, List.set_cons_zero, List.set_cons_succ, Nat.sub_self, Nat.reduceSub, Nat.reduceAdd, reduceIte, Bool.false_eq_true, zIx_t0, zIx_t1, zIx_t2, zIx_t3, Bool.not_true, Bool.not_false, G, ctr, cst, zIsi_int, zIsi_tup, zIsi_lst, zIsi_bl, isTy, Option.some.injEq, exists_eq_left', List.cons.injEq, D.int.injEq, and_true, true_and, exists_and_left, and_self, okd_int, eqD_int, zComp, zwipe, zIx_fr0, zIx_fr1, Bool.true_and, Bool.and_true, decide_eq_true_eq, and_assoc, zIx_pt0, zIx_pt1, zIx_lk0, zIx_lk1, FR_inj, PT_inj, lookD_inj, PA_inj, PAs_inj, okd_FR, eqD_FR, okd_PT, eqD_PT, zSl_tup, cutD_1, cutD_to1, D.tup.injEq, D.lst.injEq, D.ref.injEq, ne_eq, zSeq_asg, zSeq_iff, zSeq_ret, zSeq_retN, zSeq_expr, zSeq_next, zSeq_seq, zSeq_never, kSeq_whl, kSeq_for, zSeq_aug, zNext_nx, zEnds_nx, zEnds_rt]
  refine ⟨bY.mono (by decide), bt.mono (by decide), (bY.mul bt).mono (by decide), (gl.p0.y.sub (bY.mul b0)).mono (by decide), by decide, M, sub_mup hp, ?_⟩
  rw [hx, hy]
  exact hw
theorem p_speeds : ∀ ds M q, c_speeds ds M q → rdCs G ir_speeds (zEnds q) (zstart N_speeds ds) M := by
  rintro ds M q ⟨w, rfl, g, hw⟩
  simp only [ir_speeds, N_speeds, c_check_way, c_legs_of, wayD_inj, zLst, rdCs, rdC, rd, rds, rdc, rdo, rdg, rdgs, rdi, rdAV, rdAT, rdOV, rdOT, ofV, mkT, testV, zVar, slot, zCst, zBin, zUn, zChain, zAndV, zOrV, zAndT, zOrT, zNotV, zNotT, zIte, zIteT, zTup, zTupS, zANil, zACons, zAStar, zCall, zCallK, zONone, zOSome, zSlice, zBitsD, zGName, zGTup_tup, zGTup_lst, zGTup_FR, zGsNil, zGsCons,  zSetD, zGItem, zISeq, zIRng, zIZip, zIEnum, zYes, zAugD, zstart, zOp, zAdd, zSub, zMul, zFdiv, zMod, zPow, zShl, zCo, zEq, zNe, zIntC, zIs, zIsn, Zz.isNon, zBi, zLen, zAbs, zNegD, zTru, zBl, zRgL, zInt1, zMax2, zMin2, itemsOf, Zz.listOfD, Tgs.len, List.map_cons, List.map_nil, List.length_cons, List.length_nil, List.replicate_succ, List.replicate_zero, List.cons_append, List.nil_append, List.append_nil, List.set_cons_zero, List.set_cons_succ, Nat.sub_self, Nat.reduceSub, Nat.reduceAdd, reduceIte, Bool.false_eq_true, zIx_t0, zIx_t1, zIx_t2, zIx_t3, Bool.not_true, Bool.not_false, G, ctr, cst, zIsi_int, zIsi_tup, zIsi_lst, zIsi_bl, isTy, Option.some.injEq, exists_eq_left', List.cons.injEq, D.int.injEq, and_true, true_and, exists_and_left, and_self, okd_int, eqD_int, zComp, zwipe, zIx_fr0, zIx_fr1, Bool.true_and, Bool.and_true, decide_eq_true_eq, and_assoc, zIx_pt0, zIx_pt1, zIx_lk0, zIx_lk1, FR_inj, PT_inj, lookD_inj, PA_inj, PAs_inj, okd_FR, eqD_FR, okd_PT, eqD_PT, zSl_tup, cutD_1, cutD_to1, D.tup.injEq, D.lst.injEq, D.ref.injEq, ne_eq, zSeq_asg, zSeq_iff, zSeq_ret, zSeq_retN, zSeq_expr, zSeq_next, zSeq_seq, zSeq_never, kSeq_whl, kSeq_for, zSeq_aug, zNext_nx, zEnds_nx, zEnds_rt]
  refine ⟨g, fun p hp => ⟨g.l4, ?_⟩⟩
  show zLoop _ _ ((legs w).map legD) _ _ _
  refine zLoop_gen legD (fun r s M' => ∃ done, done ++ r = legs w ∧ M' = mup M p (.lst (done.map fun l => FR (spSq l))) ∧ ∃ x2 x3 x4 x5, s = [some (wayD w), some (.ref p), x2, x3, x4, x5]) ?_ ?_ (legs w) _ _ ⟨[], rfl, rfl, _, _, _, _, rfl⟩
  · rintro a r s M' k ⟨done, hd, rfl, x2, x3, x4, x5, rfl⟩ hk
    have ga := g.leg a (by rw [← hd]; simp)
    have ne := ga.ne
    have bx : B 9 (slopeX a) := (ga.p1.x.sub ga.p0.x).div ne ga.b
    have bY : B 9 (slopeY a) := (ga.p1.y.sub ga.p0.y).div ne ga.b
    simp only [zGTup_leg, zLst, zMeth, c_run_of, c2, rdCs, rdC, rd, rds, rdc, rdo, rdg, rdgs, rdi, rdAV, rdAT, rdOV, rdOT, ofV, mkT, testV, zVar, slot, zCst, zBin, zUn, zChain, zAndV, zOrV, zAndT, zOrT, zNotV, zNotT, zIte, zIteT, zTup, zTupS, zANil, zACons, zAStar, zCall, zCallK, zONone, zOSome, zSlice, zBitsD, zGName, zGTup_tup, zGTup_lst, zGTup_FR, zGsNil, zGsCons,  zSetD, zGItem, zISeq, zIRng, zIZip, zIEnum, zYes, zAugD, zstart, zOp, zAdd, zSub, zMul, zFdiv, zMod, zPow, zShl, zCo, zEq, zNe, zIntC, zIs, zIsn, Zz.isNon, zBi, zLen, zAbs, zNegD, zTru, zBl, zRgL, zInt1, zMax2, zMin2, itemsOf, Zz.listOfD, Tgs.len, List.map_cons, List.map_nil, List.length_cons, List.length_nil, List.replicate_succ, List.replicate_zero, List.cons_append, List.nil_append, List.append_nil, List.set_cons_zero, List.set_cons_succ, Nat.sub_self, Nat.reduceSub, Nat.reduceAdd, reduceIte, Bool.false_eq_true, zIx_t0, zIx_t1, zIx_t2, zIx_t3, Bool.not_true, Bool.not_false, G, ctr, cst, zIsi_int, zIsi_tup, zIsi_lst, zIsi_bl, isTy, Option.some.injEq, exists_eq_left', List.cons.injEq, D.int.injEq, and_true, true_and, exists_and_left, and_self, okd_int, eqD_int, zComp, zwipe, zIx_fr0, zIx_fr1, Bool.true_and, Bool.and_true, decide_eq_true_eq, and_assoc, zIx_pt0, zIx_pt1, zIx_lk0, zIx_lk1, FR_inj, PT_inj, lookD_inj, PA_inj, PAs_inj, okd_FR, eqD_FR, okd_PT, eqD_PT, zSl_tup, cutD_1, cutD_to1, D.tup.injEq, D.lst.injEq, D.ref.injEq, ne_eq, zSeq_asg, zSeq_iff, zSeq_ret, zSeq_retN, zSeq_expr, zSeq_next, zSeq_seq, zSeq_never, zSeq_whl, zSeq_for, zSeq_aug, zNext_nx, zEnds_nx, zEnds_rt]
    refine ⟨ga, .inl ⟨ga, .inr ?_⟩⟩
    simp only [isMuL_m, zAppD_m, rdCs, rdC, rd, rds, rdc, rdo, rdg, rdgs, rdi, rdAV, rdAT, rdOV, rdOT, ofV, mkT, testV, zVar, slot, zCst, zBin, zUn, zChain, zAndV, zOrV, zAndT, zOrT, zNotV, zNotT, zIte, zIteT, zTup, zTupS, zANil, zACons, zAStar, zCall, zCallK, zONone, zOSome, zSlice, zBitsD, zGName, zGTup_tup, zGTup_lst, zGTup_FR, zGsNil, zGsCons,  zSetD, zGItem, zISeq, zIRng, zIZip, zIEnum, zYes, zAugD, zstart, zOp, zAdd, zSub, zMul, zFdiv, zMod, zPow, zShl, zCo, zEq, zNe, zIntC, zIs, zIsn, Zz.isNon, zBi, zLen, zAbs, zNegD, zTru, zBl, zRgL, zInt1, zMax2, zMin2, itemsOf, Zz.listOfD, Tgs.len, List.map_cons, List.map_nil, List.length_cons, List.length_nil, List.replicate_succ, List.replicate_zero, List.cons_append, List.nil_append, List.append_nil, List.set_cons_zero, List.set_cons_succ, Nat.sub_self, Nat.reduceSub, Nat.reduceAdd, reduceIte, Bool.false_eq_true, zIx_t0, zIx_t1, zIx_t2, zIx_t3, Bool.not_true, Bool.not_false, G, ctr, cst, zIsi_int, zIsi_tup, zIsi_lst, zIsi_bl, isTy, Option.some.injEq, exists_eq_left', List.cons.injEq, D.int.injEq, and_true, true_and, exists_and_left, and_self, okd_int, eqD_int, zComp, zwipe, zIx_fr0, zIx_fr1, Bool.true_and, Bool.and_true, decide_eq_true_eq, and_assoc, zIx_pt0, zIx_pt1, zIx_lk0, zIx_lk1, FR_inj, PT_inj, lookD_inj, PA_inj, PAs_inj, okd_FR, eqD_FR, okd_PT, eqD_PT, zSl_tup, cutD_1, cutD_to1, D.tup.injEq, D.lst.injEq, D.ref.injEq, ne_eq, zSeq_asg, zSeq_iff, zSeq_ret, zSeq_retN, zSeq_expr, zSeq_next, zSeq_seq, zSeq_never, zSeq_whl, zSeq_for, zSeq_aug, zNext_nx, zEnds_nx, zEnds_rt]
    refine ⟨bx.mono (by decide), bx.mono (by decide), bY.mono (by decide), bY.mono (by decide), (bx.mul bx).mono (by decide), (bY.mul bY).mono (by decide), ?_, ?_⟩
    · have h := legs_len (w := w)
      have := g.l4
      rw [← hd, List.length_append] at h
      rw [List.length_map]
      have : (4 : Nat) < sizeLine := by decide
      omega
    · refine hk _ _ ⟨done ++ [a], by rw [← hd]; simp, ?_, _, _, _, _, rfl⟩
      rw [List.map_append]; rfl
  · rintro s M' ⟨done, hd, rfl, x2, x3, x4, x5, rfl⟩
    rw [List.append_nil] at hd
    subst hd
    simp only [kont, zTup1_m, rdCs, rdC, rd, rds, rdc, rdo, rdg, rdgs, rdi, rdAV, rdAT, rdOV, rdOT, ofV, mkT, testV, zVar, slot, zCst, zBin, zUn, zChain, zAndV, zOrV, zAndT, zOrT, zNotV, zNotT, zIte, zIteT, zTup, zTupS, zANil, zACons, zAStar, zCall, zCallK, zONone, zOSome, zSlice, zBitsD, zGName, zGTup_tup, zGTup_lst, zGTup_FR, zGsNil, zGsCons,  zSetD, zGItem, zISeq, zIRng, zIZip, zIEnum, zYes, zAugD, zstart, zOp, zAdd, zSub, zMul, zFdiv, zMod, zPow, zShl, zCo, zEq, zNe, zIntC, zIs, zIsn, Zz.isNon, zBi, zLen, zAbs, zNegD, zTru, zBl, zRgL, zInt1, zMax2, zMin2, itemsOf, Zz.listOfD, Tgs.len, List.map_cons, List.map_nil, List.length_cons, List.length_nil, List.replicate_succ, List.replicate_zero, List.cons_append, List.nil_append, List.append_nil, List.set_cons_zero, List.set_cons_succ, Nat.sub_self, Nat.reduceSub, Nat.reduceAdd, reduceIte, Bool.false_eq_true, zIx_t0, zIx_t1, zIx_t2, zIx_t3, Bool.not_true, Bool.not_false, G, ctr, cst, zIsi_int, zIsi_tup, zIsi_lst, zIsi_bl, isTy, Option.some.injEq, exists_eq_left', List.cons.injEq, D.int.injEq, and_true, true_and, exists_and_left, and_self, okd_int, eqD_int, zComp, zwipe, zIx_fr0, zIx_fr1, Bool.true_and, Bool.and_true, decide_eq_true_eq, and_assoc, zIx_pt0, zIx_pt1, zIx_lk0, zIx_lk1, FR_inj, PT_inj, lookD_inj, PA_inj, PAs_inj, okd_FR, eqD_FR, okd_PT, eqD_PT, zSl_tup, cutD_1, cutD_to1, D.tup.injEq, D.lst.injEq, D.ref.injEq, ne_eq, zSeq_asg, zSeq_iff, zSeq_ret, zSeq_retN, zSeq_expr, zSeq_next, zSeq_seq, zSeq_never, kSeq_whl, kSeq_for, zSeq_aug, zNext_nx, zEnds_nx, zEnds_rt]
    exact ⟨M, sub_mup hp, hw⟩
theorem spSq_le {l : Rep × Rep} {v : Rat} (g : GoodLeg l) (h : slowLeg v l) : spSq l ≤ v * v := by
  have lt := g.lt
  have d0 : 0 < l.2.1 - l.1.1 := by grind
  have dd : 0 < (l.2.1 - l.1.1) * (l.2.1 - l.1.1) := Rat.mul_pos d0 d0
  have h : sqd l.1.2 l.2.2 ≤ (v * (l.2.1 - l.1.1)) * (v * (l.2.1 - l.1.1)) := h
  have e1 : (l.2.2.1 - l.1.2.1) / (l.2.1 - l.1.1) * (l.2.1 - l.1.1) = l.2.2.1 - l.1.2.1 := Rat.div_mul_cancel g.ne
  have e2 : (l.2.2.2 - l.1.2.2) / (l.2.1 - l.1.1) * (l.2.1 - l.1.1) = l.2.2.2 - l.1.2.2 := Rat.div_mul_cancel g.ne
  refine div_pos_le dd ?_
  unfold spSq slopeX slopeY
  rw [sqd_eq] at h
  generalize (l.2.2.1 - l.1.2.1) / (l.2.1 - l.1.1) = a at *
  generalize (l.2.2.2 - l.1.2.2) / (l.2.1 - l.1.1) = b at *
  generalize l.2.1 - l.1.1 = d at *
  have f1 : (a * a + b * b) * (d * d) = (l.1.2.1 - l.2.2.1) * (l.1.2.1 - l.2.2.1) + (l.1.2.2 - l.2.2.2) * (l.1.2.2 - l.2.2.2) := by
    have g1 : l.1.2.1 - l.2.2.1 = -(a * d) := by rw [e1]; grind
    have g2 : l.1.2.2 - l.2.2.2 = -(b * d) := by rw [e2]; grind
    rw [g1, g2]; grind
  have f2 : v * v * (d * d) = v * d * (v * d) := by grind
  rw [f1, f2]
  exact h
theorem B_spSq {l : Rep × Rep} (ga : GoodLeg l) : B 40 (spSq l) := by
  have ne := ga.ne
  have bx : B 9 (slopeX l) := (ga.p1.x.sub ga.p0.x).div ne ga.b
  have bY : B 9 (slopeY l) := (ga.p1.y.sub ga.p0.y).div ne ga.b
  exact ((bx.mul bx).add (bY.mul bY)).mono (by decide)
theorem B_st {st : Rat} (h : ∃ c : Nat, st = (c : Rat) / 12 ∧ 0 < c ∧ c ≤ 24) : B 5 st := by
  obtain ⟨c, rfl, _, hc⟩ := h
  have e : (c : Rat) / 12 = Rat.divInt (c : Int) 12 := by rw [Rat.divInt_eq_div, Rat.intCast_natCast]; rfl
  rw [e]
  refine B_divInt (by decide) (intBits_le_iff.mpr ?_) (by decide)
  have : (2 : Nat) ^ 5 = 32 := by decide
  rw [Int.natAbs_natCast]
  omega
end K46
end
section
/-! K46s: the plan. -/
namespace K46
variable {w : List Rep} {v : Rat} {l : List (List P2)} {x st : Rat}
open PySem PySem.Spec PyProof.Rows L2 Zz
open PySem.Builtin.Int (intBits)

theorem zIx_way0 {w : List Rep} {M : Mh} {q : KD} (h : w ≠ []) : zIx (wayD w) (.int 0) M q = q (lookD (w.headD (0, (0, 0))).1 (w.headD (0, (0, 0))).2) M := by
  cases w with
  | nil => exact absurd rfl h
  | cons r w => exact zIx_t0
theorem zIx_wayl {w : List Rep} {M : Mh} {q : KD} (h : w ≠ []) : zIx (wayD w) (.int (-1)) M q = q (lookD (w.getLastD (0, (0, 0))).1 (w.getLastD (0, (0, 0))).2) M := by
  obtain ⟨pre, r, rfl⟩ : ∃ pre r, w = pre ++ [r] := ⟨w.dropLast, w.getLast h, (List.dropLast_concat_getLast h).symm⟩
  have e : (pre ++ [r]).getLastD (0, (0, 0)) = r := by rw [List.getLastD_eq_getLast?, List.getLast?_append]; rfl
  rw [e]
  unfold wayD
  rw [List.map_append]
  refine propext ⟨fun ⟨xs, e1, u, h1, w⟩ => ?_, fun w => ⟨_, rfl, _, at_last, w⟩⟩
  have e1 := Option.some.inj e1
  subst e1
  rw [show List.map (fun r : Rep => lookD r.1 r.2) [r] = [lookD r.1 r.2] from rfl, at_last] at h1
  cases h1; exact w
theorem GoodWay.ne {w : List Rep} (g : GoodWay w) : w ≠ [] := by
  intro e
  have := g.l2
  rw [e] at this
  simp at this
theorem GoodWay.bf {w : List Rep} (g : GoodWay w) : B 3 (firstT w) := by
  obtain ⟨i, e, hi⟩ := g.first
  show B 3 (w.headD (0, (0, 0))).1
  rw [e]
  refine B_int (intBits_le_iff.mpr ?_) (by decide)
  have : (2 : Nat) ^ 3 = 8 := by decide
  omega
theorem zIx_f {w : List Rep} (g : GoodWay w) {M : Mh} {q : KD} : (zIx (wayD w) (.int 0) M fun x M1 => zIx x (.int 0) M1 q) = q (FR (firstT w)) M := by
  rw [zIx_way0 g.ne, zIx_lk0]; rfl
theorem zIx_l {w : List Rep} (g : GoodWay w) {M : Mh} {q : KD} : (zIx (wayD w) (.int (-1)) M fun x M1 => zIx x (.int 0) M1 q) = q (FR (lastT w)) M := by
  rw [zIx_wayl g.ne, zIx_lk0]; rfl
theorem p_check_plan : ∀ ds M q, c_check_plan ds M q → rdCs G ir_check_plan (zEnds q) (zstart N_check_plan ds) M := by
  rintro ds M q ⟨w, v, l, x, st, rfl, h, hw⟩
  simp only [ir_check_plan, N_check_plan, c_check_way, c_check_speed, c_speeds, wayD_inj, rdCs, rdC, rd, rds, rdc, rdo, rdg, rdgs, rdi, rdAV, rdAT, rdOV, rdOT, ofV, mkT, testV, zVar, slot, zCst, zBin, zUn, zChain, zAndV, zOrV, zAndT, zOrT, zNotV, zNotT, zIte, zIteT, zTup, zTupS, zANil, zACons, zAStar, zCall, zCallK, zONone, zOSome, zSlice, zBitsD, zGName, zGTup_tup, zGTup_lst, zGTup_FR, zGsNil, zGsCons,  zSetD, zGItem, zISeq, zIRng, zIZip, zIEnum, zYes, zAugD, zstart, zOp, zAdd, zSub, zMul, zFdiv, zMod, zPow, zShl, zCo, zEq, zNe, zIntC, zIs, zIsn, Zz.isNon, zBi, zLen, zAbs, zNegD, zTru, zBl, zRgL, zInt1, zMax2, zMin2, itemsOf, Zz.listOfD, Tgs.len, List.map_cons, List.map_nil, List.length_cons, List.length_nil, List.replicate_succ, List.replicate_zero, List.cons_append, List.nil_append, List.append_nil, List.set_cons_zero, List.set_cons_succ, Nat.sub_self, Nat.reduceSub, Nat.reduceAdd, reduceIte, Bool.false_eq_true, zIx_t0, zIx_t1, zIx_t2, zIx_t3, Bool.not_true, Bool.not_false, G, ctr, cst, zIsi_int, zIsi_tup, zIsi_lst, zIsi_bl, isTy, Option.some.injEq, exists_eq_left', List.cons.injEq, D.int.injEq, and_true, true_and, exists_and_left, and_self, okd_int, eqD_int, zComp, zwipe, zIx_fr0, zIx_fr1, Bool.true_and, Bool.and_true, decide_eq_true_eq, and_assoc, zIx_pt0, zIx_pt1, zIx_lk0, zIx_lk1, FR_inj, PT_inj, lookD_inj, PA_inj, PAs_inj, okd_FR, eqD_FR, okd_PT, eqD_PT, zSl_tup, cutD_1, cutD_to1, D.tup.injEq, D.lst.injEq, D.ref.injEq, ne_eq, zSeq_asg, zSeq_iff, zSeq_ret, zSeq_retN, zSeq_expr, zSeq_next, zSeq_seq, zSeq_never, kSeq_whl, kSeq_for, zSeq_aug, zNext_nx, zEnds_nx, zEnds_rt]
  refine ⟨h.gw, h.vp, h.gw, ?_⟩
  show zLoop _ _ (enumD 0 ((legs w).map fun l => FR (spSq l))) _ _ M
  rw [enumD_map]
  refine zLoop_gen (fun p : (Rep × Rep) × Nat => D.tup [.int (p.2 : Nat), FR (spSq p.1)]) (fun r s M' => M' = M ∧ (∀ a ∈ r, a.1 ∈ legs w) ∧ ∃ x5 x6, s = [some (wayD w), some (FR v), some (PAs l), some (FR x), some (FR st), x5, x6]) ?_ ?_ ((legs w).zipIdx 0) _ M ⟨rfl, fun a ha => ?_, _, _, rfl⟩
  · rintro a r s M' k ⟨rfl, hm, x5, x6, rfl⟩ hk
    have ha := hm a List.mem_cons_self
    have ga := h.gw.leg _ ha
    simp only [c2, c_is_below, rdCs, rdC, rd, rds, rdc, rdo, rdg, rdgs, rdi, rdAV, rdAT, rdOV, rdOT, ofV, mkT, testV, zVar, slot, zCst, zBin, zUn, zChain, zAndV, zOrV, zAndT, zOrT, zNotV, zNotT, zIte, zIteT, zTup, zTupS, zANil, zACons, zAStar, zCall, zCallK, zONone, zOSome, zSlice, zBitsD, zGName, zGTup_tup, zGTup_lst, zGTup_FR, zGsNil, zGsCons,  zSetD, zGItem, zISeq, zIRng, zIZip, zIEnum, zYes, zAugD, zstart, zOp, zAdd, zSub, zMul, zFdiv, zMod, zPow, zShl, zCo, zEq, zNe, zIntC, zIs, zIsn, Zz.isNon, zBi, zLen, zAbs, zNegD, zTru, zBl, zRgL, zInt1, zMax2, zMin2, itemsOf, Zz.listOfD, Tgs.len, List.map_cons, List.map_nil, List.length_cons, List.length_nil, List.replicate_succ, List.replicate_zero, List.cons_append, List.nil_append, List.append_nil, List.set_cons_zero, List.set_cons_succ, Nat.sub_self, Nat.reduceSub, Nat.reduceAdd, reduceIte, Bool.false_eq_true, zIx_t0, zIx_t1, zIx_t2, zIx_t3, Bool.not_true, Bool.not_false, G, ctr, cst, zIsi_int, zIsi_tup, zIsi_lst, zIsi_bl, isTy, Option.some.injEq, exists_eq_left', List.cons.injEq, D.int.injEq, and_true, true_and, exists_and_left, and_self, okd_int, eqD_int, zComp, zwipe, zIx_fr0, zIx_fr1, Bool.true_and, Bool.and_true, decide_eq_true_eq, and_assoc, zIx_pt0, zIx_pt1, zIx_lk0, zIx_lk1, FR_inj, PT_inj, lookD_inj, PA_inj, PAs_inj, okd_FR, eqD_FR, okd_PT, eqD_PT, zSl_tup, cutD_1, cutD_to1, D.tup.injEq, D.lst.injEq, D.ref.injEq, ne_eq, zSeq_asg, zSeq_iff, zSeq_ret, zSeq_retN, zSeq_expr, zSeq_next, zSeq_seq, zSeq_never, zSeq_whl, zSeq_for, zSeq_aug, zNext_nx, zEnds_nx, zEnds_rt]
    refine ⟨h.bv.mono (by decide), h.bv.mono (by decide), (h.bv.mul h.bv).mono (by decide), (B_spSq ga).mono (by decide), ?_⟩
    rw [if_neg (Rat.not_lt.mpr (spSq_le ga (h.slow _ ha)))]
    exact hk _ _ ⟨rfl, fun b hb => hm b (List.mem_cons_of_mem _ hb), _, _, rfl⟩
  · rintro s M' ⟨rfl, _, x5, x6, rfl⟩
    have e200 : ((200 : Int) : Rat) * st = 200 * st := rfl
    have st0 := h.st0
    have nst : ¬ st.num ≤ 0 := by
      have := num_pos.mpr st0
      omega
    have bst := B_st h.sc
    simp only [kont, c_check_patches, c_check_length, c_is_fraction, c_is_below, c_whole, c2, zIx_f h.gw, zIx_l h.gw, rdCs, rdC, rd, rds, rdc, rdo, rdg, rdgs, rdi, rdAV, rdAT, rdOV, rdOT, ofV, mkT, testV, zVar, slot, zCst, zBin, zUn, zChain, zAndV, zOrV, zAndT, zOrT, zNotV, zNotT, zIte, zIteT, zTup, zTupS, zANil, zACons, zAStar, zCall, zCallK, zONone, zOSome, zSlice, zBitsD, zGName, zGTup_tup, zGTup_lst, zGTup_FR, zGsNil, zGsCons,  zSetD, zGItem, zISeq, zIRng, zIZip, zIEnum, zYes, zAugD, zstart, zOp, zAdd, zSub, zMul, zFdiv, zMod, zPow, zShl, zCo, zEq, zNe, zIntC, zIs, zIsn, Zz.isNon, zBi, zLen, zAbs, zNegD, zTru, zBl, zRgL, zInt1, zMax2, zMin2, itemsOf, Zz.listOfD, Tgs.len, List.map_cons, List.map_nil, List.length_cons, List.length_nil, List.replicate_succ, List.replicate_zero, List.cons_append, List.nil_append, List.append_nil, List.set_cons_zero, List.set_cons_succ, Nat.sub_self, Nat.reduceSub, Nat.reduceAdd, reduceIte, Bool.false_eq_true, zIx_t0, zIx_t1, zIx_t2, zIx_t3, Bool.not_true, Bool.not_false, G, ctr, cst, zIsi_int, zIsi_tup, zIsi_lst, zIsi_bl, isTy, Option.some.injEq, exists_eq_left', List.cons.injEq, D.int.injEq, and_true, true_and, exists_and_left, and_self, okd_int, eqD_int, zComp, zwipe, zIx_fr0, zIx_fr1, Bool.true_and, Bool.and_true, decide_eq_true_eq, and_assoc, zIx_pt0, zIx_pt1, zIx_lk0, zIx_lk1, FR_inj, PT_inj, lookD_inj, PA_inj, PAs_inj, okd_FR, eqD_FR, okd_PT, eqD_PT, zSl_tup, cutD_1, cutD_to1, D.tup.injEq, D.lst.injEq, D.ref.injEq, ne_eq, zSeq_asg, zSeq_iff, zSeq_ret, zSeq_retN, zSeq_expr, zSeq_next, zSeq_seq, zSeq_never, kSeq_whl, kSeq_for, zSeq_aug, zNext_nx, zEnds_nx, zEnds_rt]
    refine ⟨h.gl, Rat.le_of_lt h.xp, ?_⟩
    have sp := h.span
    have b3 := h.gw.bf
    have bl := h.gw.twl.b
    have b200 : B 8 ((200 : Int) : Rat) := B_int (by decide) (by decide)
    rw [if_neg nst]
    refine ⟨h.bx.mono (by decide), bst.mono (by decide), ?_⟩
    rw [if_neg (Rat.not_lt.mpr h.sx)]
    refine ⟨b200.mono (by decide), bst.mono (by decide), bl.mono (by decide), b3.mono (by decide), (b200.mul bst).mono (by decide), (bl.sub b3).mono (by decide), ?_⟩
    rw [if_neg (by rw [e200]; grind)]
    exact ⟨M', sub_refl, hw⟩
  · exact List.fst_mem_of_mem_zipIdx ha
theorem FR_inv {y : Rat} (h : 0 < y) : FR y⁻¹ = .tup [.int y.den, .int y.num] := by
  have hn := num_pos.mpr h
  unfold FR
  rw [Rat.num_inv, Rat.den_inv, if_neg (by omega), Int.sign_eq_one_of_pos hn, Int.one_mul]
  have : ((y.num.natAbs : Nat) : Int) = y.num := by omega
  rw [this]
theorem p_on_steps : ∀ ds M q, c_on_steps ds M q → rdCs G ir_on_steps (zEnds q) (zstart N_on_steps ds) M := by
  rintro ds M Q ⟨d, f, st, rfl, m, s, hm, ⟨bm, bs, s0, ⟨i, rfl, hi⟩, hst, hf⟩, w⟩
  have st0 : 0 < st := by
    obtain ⟨c, rfl, c0, _⟩ := hst
    have : (0 : Rat) < (c : Rat) := Rat.natCast_pos.mpr c0
    generalize (c : Rat) = y at *
    grind
  have bst := B_st hst
  have e1 : D.tup [.int (-(i : Rat).num), .int ((i : Rat).den : Nat)] = FR ((-i : Int) : Rat) := rfl
  have e2 := (FR_inv st0).symm
  have y1 : st⁻¹ * st = 1 := Rat.inv_mul_cancel _ (Rat.ne_of_gt st0)
  have y0 : 0 < st⁻¹ := Rat.inv_pos.mpr st0
  have bi : intBits (-i) ≤ 8 := intBits_le_iff.mpr (by
    have : (2 : Nat) ^ 8 = 256 := by decide
    omega)
  have bY : B 8 st⁻¹ := (bst.inv (Rat.ne_of_gt st0)).mono (by decide)
  have bm2 : B 26 (m + ((-i : Int) : Rat)) := bm.add (B_int bi (by decide))
  have bm3 : B 34 ((m + ((-i : Int) : Rat)) * st⁻¹) := bm2.mul bY
  have bs3 : B 1189 (s * (st⁻¹ * st⁻¹)) := bs.mul (bY.mul bY)
  have ss0 : 0 ≤ s * (st⁻¹ * st⁻¹) := Rat.mul_nonneg s0 (sq_nonneg _)
  simp only [ir_on_steps, N_on_steps, c_shifted_by, c_scaled_by, c_rounded_by, c2, e1, e2, rdCs, rdC, rd, rds, rdc, rdo, rdg, rdgs, rdi, rdAV, rdAT, rdOV, rdOT, ofV, mkT, testV, zVar, slot, zCst, zBin, zUn, zChain, zAndV, zOrV, zAndT, zOrT, zNotV, zNotT, zIte, zIteT, zTup, zTupS, zANil, zACons, zAStar, zCall, zCallK, zONone, zOSome, zSlice, zBitsD, zGName, zGTup_tup, zGTup_lst, zGTup_FR, zGsNil, zGsCons,  zSetD, zGItem, zISeq, zIRng, zIZip, zIEnum, zYes, zAugD, zstart, zOp, zAdd, zSub, zMul, zFdiv, zMod, zPow, zShl, zCo, zEq, zNe, zIntC, zIs, zIsn, Zz.isNon, zBi, zLen, zAbs, zNegD, zTru, zBl, zRgL, zInt1, zMax2, zMin2, itemsOf, Zz.listOfD, Tgs.len, List.map_cons, List.map_nil, List.length_cons, List.length_nil, List.replicate_succ, List.replicate_zero, List.cons_append, List.nil_append, List.append_nil, List.set_cons_zero, List.set_cons_succ, Nat.sub_self, Nat.reduceSub, Nat.reduceAdd, reduceIte, Bool.false_eq_true, zIx_t0, zIx_t1, zIx_t2, zIx_t3, Bool.not_true, Bool.not_false, G, ctr, cst, zIsi_int, zIsi_tup, zIsi_lst, zIsi_bl, isTy, Option.some.injEq, exists_eq_left', List.cons.injEq, D.int.injEq, and_true, true_and, exists_and_left, and_self, okd_int, eqD_int, zComp, zwipe, zIx_fr0, zIx_fr1, Bool.true_and, Bool.and_true, decide_eq_true_eq, and_assoc, zIx_pt0, zIx_pt1, zIx_lk0, zIx_lk1, FR_inj, PT_inj, lookD_inj, PA_inj, PAs_inj, okd_FR, eqD_FR, okd_PT, eqD_PT, zSl_tup, cutD_1, cutD_to1, D.tup.injEq, D.lst.injEq, D.ref.injEq, ne_eq, zSeq_asg, zSeq_iff, zSeq_ret, zSeq_retN, zSeq_expr, zSeq_next, zSeq_seq, zSeq_never, zSeq_whl, zSeq_for, zSeq_aug, zNext_nx, zEnds_nx, zEnds_rt]
  refine ⟨-i, rfl, m, s, hm, bm.mono (by decide), bs.mono (by decide), bi, s0, fun d1 h1 => ⟨_, _, h1, bm2.mono (by decide), bs.mono (by decide), bY, y0, s0, fun d2 h2 => ⟨_, _, h2, bm3.mono (by decide), bs3.mono (by decide), ss0, fun k k1 k2 => ?_⟩⟩⟩
  have bk := floor_bits (bm3.mono (by decide)) (bs3.mono (by decide)) ss0 k1 k2
  have af : ∀ z : Rat, LeM z ((m + ((-i : Int) : Rat)) * st⁻¹) (s * (st⁻¹ * st⁻¹)) ↔ LeM ((i : Rat) + z * st) m s := fun z => by
    rw [Rat.intCast_neg]; exact LeM_aff st0 y1
  rw [af] at k1 k2
  have k0 : 0 ≤ k := by
    by_cases c : 0 ≤ k
    · exact c
    · exfalso
      refine k2 (LeM_mono ?_ hf)
      have : ((k + 1 : Int) : Rat) ≤ ((0 : Int) : Rat) := Rat.intCast_le_intCast.mpr (by omega)
      have : ((k + 1 : Int) : Rat) ≤ 0 := this
      have := Rat.mul_nonneg (show 0 ≤ -((k + 1 : Int) : Rat) by grind) (Rat.le_of_lt st0)
      generalize ((k + 1 : Int) : Rat) = z at *
      grind
  obtain ⟨n, rfl⟩ := Int.eq_ofNat_of_zero_le k0
  have bF : B 8 (i : Rat) := B_int (intBits_le_iff.mpr (by
    have : (2 : Nat) ^ 8 = 256 := by decide
    omega)) (by decide)
  have bK : B 1300 (((n : Int)) : Rat) := B_int bk (by decide)
  refine ⟨bK.mono (by decide), bst.mono (by decide), bF.mono (by decide), (bK.mul bst).mono (by decide), M, sub_refl, ?_⟩
  have key := w n ⟨by rw [← Rat.intCast_natCast]; exact k1, by rw [← Rat.intCast_natCast]; exact k2⟩
  rw [Rat.intCast_natCast]
  exact key
theorem Task.asked (h : Task w v l x st) {t : Rat} (o : OnWay w t) : Asked t (place w t) v l x := ⟨o.tw.b, BP_place h.gw o, h.bv, h.vp, h.gl, h.bx, Rat.le_of_lt h.xp⟩
theorem B_nat {k n : Nat} (h : n < 2 ^ k) (hk : 1 ≤ k) : B k (n : Rat) := by
  rw [← Rat.intCast_natCast]
  exact B_int (intBits_le_iff.mpr (by rw [Int.natAbs_natCast]; exact h)) hk
theorem B_due (h : Task w v l x st) {t : Rat} (o : OnWay w t) : B 1510 (due w v l x st t) :=
  (h.gw.bf.add ((B_nat (dueK_lt h o) (by decide)).mul (B_st h.sc))).mono (by decide)
theorem fact_sx (h : Task w v l x st) : LeM (firstT w) (firstT w + x) 0 := by
  left
  have := h.xp
  grind
theorem zLoop_d {g : ZG} {body : ZS} {Z : ZEnds} (P : List D → Sl → Mh → Prop)
    (hs : ∀ a r s M (k : Sl → Mh → Prop), P (a :: r) s M → (∀ s' M', P r s' M' → k s' M') → g a s M fun s1 M1 => body { Z with nx := k, ct := k, bk := Z.nx } s1 M1)
    (he : ∀ s M, P [] s M → Z.nx s M) : ∀ items s M, P items s M → zLoop g body items Z s M
  | [], s, M, h => he s M h
  | a :: r, s, M, h => hs a r s M (zLoop g body r Z) h fun s' M' h' => zLoop_d P hs he r s' M' h'
theorem last_ge : ∀ (r0 : Rep) (rest : List Rep), (∀ l ∈ legs (r0 :: rest), GoodLeg l) → r0.1 ≤ lastT (r0 :: rest)
  | r0, [], _ => Rat.le_refl
  | r0, r1 :: rest, hl => by
    have h1 := (hl (r0, r1) (by rw [legs_cons]; exact List.mem_cons_self)).lt
    have h2 := last_ge r1 rest (fun l h => hl l (by rw [legs_cons]; exact List.mem_cons_of_mem _ h))
    exact Rat.le_trans (Rat.le_of_lt h1) h2
theorem GoodWay.fl {w : List Rep} (g : GoodWay w) : firstT w ≤ lastT w := by
  have l2 := g.l2
  have hl := g.leg
  match w, l2, hl with
  | r0 :: rest, _, hl => exact last_ge r0 rest hl
theorem grid0 {f st : Rat} : f + ((0 : Nat) : Rat) * st = f := by
  show f + 0 * st = f
  grind
/-- what is found so far, up to the j-th step -/
structure Sofar (w : List Rep) (v : Rat) (l : List (List P2)) (x st : Rat) (pre : List Rat) (j : Nat) : Prop where
  le : firstT w + (j : Rat) * st ≤ lastT w
  len : pre.length ≤ j
  on : ∀ ys, IsPlan (due w v l x st) (lastT w) (firstT w + (j : Rat) * st) ys → IsPlan (due w v l x st) (lastT w) (firstT w) (pre ++ ys)
theorem sofar0 (h : Task w v l x st) : Sofar w v l x st [] 0 := by
  refine ⟨?_, Nat.le_refl _, fun ys p => ?_⟩
  · rw [grid0]; exact h.gw.fl
  · rw [grid0] at p; exact p
theorem Sofar.next (h : Task w v l x st) {pre : List Rat} {j : Nat} (s : Sofar w v l x st pre j) (le : due w v l x st (firstT w + (j : Rat) * st) ≤ lastT w) :
    Sofar w v l x st (pre ++ [firstT w + (j : Rat) * st]) (dueK w v l x st (firstT w + (j : Rat) * st)) ∧ j + 1 ≤ dueK w v l x st (firstT w + (j : Rat) * st) := by
  have o := onWay_grid h s.le
  have ge := dueK_ge h o rfl
  refine ⟨⟨le, ?_, fun ys p => ?_⟩, ge⟩
  · have := s.len
    rw [List.length_append, List.length_singleton]; omega
  · rw [List.append_assoc]
    refine s.on _ ?_
    obtain ⟨r, rfl⟩ := plan_head p
    exact ⟨rfl, le, p⟩
theorem Sofar.done {pre : List Rat} {j : Nat} (s : Sofar w v l x st pre j) (lt : lastT w < due w v l x st (firstT w + (j : Rat) * st)) : IsPlan (due w v l x st) (lastT w) (firstT w) (pre ++ [firstT w + (j : Rat) * st]) :=
  s.on _ ⟨rfl, lt⟩
theorem p_plan : ∀ ds M q, c_plan ds M q → rdCs G ir_plan (zEnds q) (zstart N_plan ds) M := by
  rintro ds M Q ⟨w, v, l, x, st, rfl, h, hw⟩
  have b3 := h.gw.bf
  have bl := h.gw.twl.b
  have bst := B_st h.sc
  simp only [ir_plan, N_plan, c_check_plan, wayD_inj, zLst, zIx_f h.gw, zIx_l h.gw, rdCs, rdC, rd, rds, rdc, rdo, rdg, rdgs, rdi, rdAV, rdAT, rdOV, rdOT, ofV, mkT, testV, zVar, slot, zCst, zBin, zUn, zChain, zAndV, zOrV, zAndT, zOrT, zNotV, zNotT, zIte, zIteT, zTup, zTupS, zANil, zACons, zAStar, zCall, zCallK, zONone, zOSome, zSlice, zBitsD, zGName, zGTup_tup, zGTup_lst, zGTup_FR, zGsNil, zGsCons,  zSetD, zGItem, zISeq, zIRng, zIZip, zIEnum, zYes, zAugD, zstart, zOp, zAdd, zSub, zMul, zFdiv, zMod, zPow, zShl, zCo, zEq, zNe, zIntC, zIs, zIsn, Zz.isNon, zBi, zLen, zAbs, zNegD, zTru, zBl, zRgL, zInt1, zMax2, zMin2, itemsOf, Zz.listOfD, Tgs.len, List.map_cons, List.map_nil, List.length_cons, List.length_nil, List.replicate_succ, List.replicate_zero, List.cons_append, List.nil_append, List.append_nil, List.set_cons_zero, List.set_cons_succ, Nat.sub_self, Nat.reduceSub, Nat.reduceAdd, reduceIte, Bool.false_eq_true, zIx_t0, zIx_t1, zIx_t2, zIx_t3, Bool.not_true, Bool.not_false, G, ctr, cst, zIsi_int, zIsi_tup, zIsi_lst, zIsi_bl, isTy, Option.some.injEq, exists_eq_left', List.cons.injEq, D.int.injEq, and_true, true_and, exists_and_left, and_self, okd_int, eqD_int, zComp, zwipe, zIx_fr0, zIx_fr1, Bool.true_and, Bool.and_true, decide_eq_true_eq, and_assoc, zIx_pt0, zIx_pt1, zIx_lk0, zIx_lk1, FR_inj, PT_inj, lookD_inj, PA_inj, PAs_inj, okd_FR, eqD_FR, okd_PT, eqD_PT, zSl_tup, cutD_1, cutD_to1, D.tup.injEq, D.lst.injEq, D.ref.injEq, ne_eq, zSeq_asg, zSeq_iff, zSeq_ret, zSeq_retN, zSeq_expr, zSeq_next, zSeq_seq, zSeq_never, kSeq_whl, kSeq_for, zSeq_aug, zNext_nx, zEnds_nx, zEnds_rt]
  refine ⟨h, fun p hp => ⟨RgOk.of_le (by decide) (by decide) (by decide) (by decide), ?_⟩⟩
  refine zLoop_d (fun r s M' => ∃ pre j, Sofar w v l x st pre j ∧ 200 ≤ j + r.length ∧ M' = mup M p (.lst ((pre ++ [firstT w + (j : Rat) * st]).map FR)) ∧
    ∃ x8 x9 x10, s = [some (wayD w), some (FR v), some (PAs l), some (FR x), some (FR st), some (FR (firstT w)), some (FR (lastT w)), some (.ref p), x8, x9, x10]) ?_ ?_ (rgD 0 200) _ _ ⟨[], 0, sofar0 h, by decide, by rw [grid0]; rfl, _, _, _, rfl⟩
  · rintro a r s M' k ⟨pre, j, sf, hj, rfl, x8, x9, x10, rfl⟩ hk
    have o := onWay_grid h sf.le
    have hd := h.asked o
    have fin := fun lt => hw _ (sf.done lt)
    have nx := sf.next h
    rw [List.map_append, show List.map FR [firstT w + (j : Rat) * st] = [FR (firstT w + (j : Rat) * st)] from rfl]
    simp only [zIx_ml, c_at_of, c_next_of, c_on_steps, c_compared, zMeth, isMuL_m, zAppD_m, zTup1_m, wayD_inj, rdCs, rdC, rd, rds, rdc, rdo, rdg, rdgs, rdi, rdAV, rdAT, rdOV, rdOT, ofV, mkT, testV, zVar, slot, zCst, zBin, zUn, zChain, zAndV, zOrV, zAndT, zOrT, zNotV, zNotT, zIte, zIteT, zTup, zTupS, zANil, zACons, zAStar, zCall, zCallK, zONone, zOSome, zSlice, zBitsD, zGName, zGTup_tup, zGTup_lst, zGTup_FR, zGsNil, zGsCons,  zSetD, zGItem, zISeq, zIRng, zIZip, zIEnum, zYes, zAugD, zstart, zOp, zAdd, zSub, zMul, zFdiv, zMod, zPow, zShl, zCo, zEq, zNe, zIntC, zIs, zIsn, Zz.isNon, zBi, zLen, zAbs, zNegD, zTru, zBl, zRgL, zInt1, zMax2, zMin2, itemsOf, Zz.listOfD, Tgs.len, List.map_cons, List.map_nil, List.length_cons, List.length_nil, List.replicate_succ, List.replicate_zero, List.cons_append, List.nil_append, List.append_nil, List.set_cons_zero, List.set_cons_succ, Nat.sub_self, Nat.reduceSub, Nat.reduceAdd, reduceIte, Bool.false_eq_true, zIx_t0, zIx_t1, zIx_t2, zIx_t3, Bool.not_true, Bool.not_false, G, ctr, cst, zIsi_int, zIsi_tup, zIsi_lst, zIsi_bl, isTy, Option.some.injEq, exists_eq_left', List.cons.injEq, D.int.injEq, and_true, true_and, exists_and_left, and_self, okd_int, eqD_int, zComp, zwipe, zIx_fr0, zIx_fr1, Bool.true_and, Bool.and_true, decide_eq_true_eq, and_assoc, zIx_pt0, zIx_pt1, zIx_lk0, zIx_lk1, FR_inj, PT_inj, lookD_inj, PA_inj, PAs_inj, okd_FR, eqD_FR, okd_PT, eqD_PT, zSl_tup, cutD_1, cutD_to1, D.tup.injEq, D.lst.injEq, D.ref.injEq, ne_eq, zSeq_asg, zSeq_iff, zSeq_ret, zSeq_retN, zSeq_expr, zSeq_next, zSeq_seq, zSeq_never, zSeq_whl, zSeq_for, zSeq_aug, zNext_nx, zEnds_nx, zEnds_rt]
    refine ⟨h.gw, o, _, _, rfl, hd, fun d hdm => ⟨_, _, hdm, o.tw.b.add h.bx, B_wSq h o, wSq_nonneg h _, h.first, h.sc, first_LeM h o, fun i hi => ?_⟩⟩
    have ei := dueK_eq h o hi
    have bd := B_due h o
    subst ei
    have ed : firstT w + (dueK w v l x st (firstT w + (j : Rat) * st) : Rat) * st = due w v l x st (firstT w + (j : Rat) * st) := rfl
    rw [ed]
    refine ⟨bd.mono (by decide), bl.mono (by decide), fun c hc => ?_⟩
    by_cases cc : lastT w < due w v l x st (firstT w + (j : Rat) * st)
    · rw [if_pos (hc.mpr cc)]
      refine ⟨M, sub_mup hp, ?_⟩
      have := fin cc
      rw [List.map_append] at this
      exact this
    · rw [if_neg (fun z => cc (hc.mp z))]
      obtain ⟨n1, n2⟩ := nx (Rat.not_lt.mp cc)
      have jl := grid_le h sf.le
      refine ⟨?_, hk _ _ ⟨_, _, n1, ?_, ?_, _, _, _, rfl⟩⟩
      · have := sf.len
        rw [List.length_append, List.length_map, List.length_singleton]
        have : (102 : Nat) < sizeLine := by decide
        omega
      · rw [List.length_cons] at hj
        omega
      · rw [List.map_append, List.map_append, ed]; rfl
  · rintro s M' ⟨pre, j, sf, hj, _⟩
    have := grid_le h sf.le
    rw [List.length_nil] at hj
    omega
end K46
end
section
/-! K46t: the law's own signs and steps. -/
namespace Zz
open PySem PySem.Spec PyProof.Rows L2
theorem zWhl_gen {c : ZT} {b : ZS} {Z : ZEnds} (P : Nat → Sl → Mh → Prop)
    (hs : ∀ n s M (X : Sl → Mh → Prop), P n s M → (∀ n' s' M', n' < n → P n' s' M' → X s' M') → c s M fun k M1 => if k = true then b { Z with nx := X, ct := X, bk := Z.nx } s M1 else Z.nx s M1) : ∀ n s M, P n s M → zWhl c b Z s M := by
  have key : ∀ m n s M, n < m → P n s M → zWh c b m Z s M := by
    intro m
    induction m with
    | zero => intro n s M h; omega
    | succ m ih =>
      intro n s M h p
      exact hs n s M (zWh c b m Z) p fun n' s' M' h' p' => ih n' s' M' (by omega) p'
  exact fun n s M p => ⟨n + 1, key (n + 1) n s M (Nat.lt_succ_self n) p⟩
end Zz
namespace K46
open PySem PySem.Spec PyProof.Rows L2 Zz
open PySem.Builtin.Int (intBits)

theorem p_law_sign_one : ∀ ds M q, c_law_sign_one ds M q → rdCs G ir__law_sign_one (zEnds q) (zstart N__law_sign_one ds) M := by
  rintro ds M q ⟨a, b, d, rfl, ⟨hb, hd, b1, b2, b3⟩, w⟩
  simp only [ir__law_sign_one, N__law_sign_one, c_law_sign, rdCs, rdC, rd, rds, rdc, rdo, rdg, rdgs, rdi, rdAV, rdAT, rdOV, rdOT, ofV, mkT, testV, zVar, slot, zCst, zBin, zUn, zChain, zAndV, zOrV, zAndT, zOrT, zNotV, zNotT, zIte, zIteT, zTup, zTupS, zANil, zACons, zAStar, zCall, zCallK, zONone, zOSome, zSlice, zBitsD, zGName, zGTup_tup, zGTup_lst, zGTup_FR, zGsNil, zGsCons,  zSetD, zGItem, zISeq, zIRng, zIZip, zIEnum, zYes, zAugD, zstart, zOp, zAdd, zSub, zMul, zFdiv, zMod, zPow, zShl, zCo, zEq, zNe, zIntC, zIs, zIsn, Zz.isNon, zBi, zLen, zAbs, zNegD, zTru, zBl, zRgL, zInt1, zMax2, zMin2, itemsOf, Zz.listOfD, Tgs.len, List.map_cons, List.map_nil, List.length_cons, List.length_nil, List.replicate_succ, List.replicate_zero, List.cons_append, List.nil_append, List.append_nil, List.set_cons_zero, List.set_cons_succ, Nat.sub_self, Nat.reduceSub, Nat.reduceAdd, reduceIte, Bool.false_eq_true, zIx_t0, zIx_t1, zIx_t2, zIx_t3, Bool.not_true, Bool.not_false, G, ctr, cst, zIsi_int, zIsi_tup, zIsi_lst, zIsi_bl, isTy, Option.some.injEq, exists_eq_left', List.cons.injEq, D.int.injEq, and_true, true_and, exists_and_left, and_self, okd_int, eqD_int, zComp, zwipe, zIx_fr0, zIx_fr1, Bool.true_and, Bool.and_true, decide_eq_true_eq, and_assoc, zIx_pt0, zIx_pt1, zIx_lk0, zIx_lk1, FR_inj, PT_inj, lookD_inj, PA_inj, PAs_inj, okd_FR, eqD_FR, okd_PT, eqD_PT, zSl_tup, cutD_1, cutD_to1, D.tup.injEq, D.lst.injEq, D.ref.injEq, ne_eq, zSeq_asg, zSeq_iff, zSeq_ret, zSeq_retN, zSeq_expr, zSeq_next, zSeq_seq, zSeq_never, zSeq_whl, zSeq_for, zSeq_aug, zNext_nx, zEnds_nx, zEnds_rt]
  have k1 : ∀ i j : Int, (i = 1 ∨ i = 0 ∨ i = -1) → (j = 1 ∨ j = 0 ∨ j = -1) → IntMulOk i j := fun i j h1 h2 => by
    have e1 : intBits i ≤ 1 := by rcases h1 with rfl | rfl | rfl <;> decide
    have e2 : intBits j ≤ 1 := by rcases h2 with rfl | rfl | rfl <;> decide
    exact mulOk e1 e2 (by decide)
  have lsg : ∀ i : Int, ((if 0 < i then (1 : Int) else 0) - if i < 0 then 1 else 0) = 1 ∧ 0 < i ∨ ((if 0 < i then (1 : Int) else 0) - if i < 0 then 1 else 0) = 0 ∧ i = 0 ∨ ((if 0 < i then (1 : Int) else 0) - if i < 0 then 1 else 0) = -1 ∧ i < 0 := fun i => by
    rcases Int.lt_trichotomy i 0 with c | c | c
    · right; right; rw [if_neg (by omega), if_pos c]; exact ⟨rfl, c⟩
    · right; left; subst c; exact ⟨rfl, rfl⟩
    · left; rw [if_pos c, if_neg (by omega)]; exact ⟨rfl, c⟩
  have ha := lsg a
  have hbs := lsg b
  have hc := lsg (a * a - b * b * d)
  generalize ((if 0 < a then (1 : Int) else 0) - if a < 0 then 1 else 0) = A at *
  generalize ((if 0 < b then (1 : Int) else 0) - if b < 0 then 1 else 0) = B at *
  generalize ((if 0 < a * a - b * b * d then (1 : Int) else 0) - if a * a - b * b * d < 0 then 1 else 0) = C at *
  have m1 : IntMulOk a a := mulOk b1 b1 (by decide)
  have m2 : IntMulOk b b := mulOk b2 b2 (by decide)
  have m3 : IntMulOk (b * b) d := mulOk (bmul b2 b2 (Nat.le_refl _)) b3 (by decide)
  have aa : 0 < a → 0 < a * a := fun h => Int.mul_pos h h
  have tail : ∀ o : Int, (o = 0 ∧ b * b * d = 0 ∨ o = -1) → IntMulOk A o ∧ if 0 ≤ A * o then (if (!decide (A = 0)) = true then ∃ M3, Zz.Sub M3 M ∧ q (.int A) M3 else ∃ M3, Zz.Sub M3 M ∧ q (.int o) M3) else
      IntMulOk a a ∧ IntMulOk b b ∧ IntMulOk (b * b) d ∧ IntMulOk A C ∧ ∃ M3, Zz.Sub M3 M ∧ q (.int (A * C)) M3 := fun o ho => by
    refine ⟨k1 _ _ (by omega) (by omega), ?_⟩
    rcases ha with ⟨rfl, h⟩ | ⟨rfl, h⟩ | ⟨rfl, h⟩
    · rcases ho with ⟨rfl, h0⟩ | rfl
      · rw [if_pos (by decide), if_pos (by decide)]
        refine ⟨M, sub_refl, w _ ?_⟩
        have := aa h
        omega
      · rw [if_neg (by decide)]
        refine ⟨m1, m2, m3, k1 _ _ (by omega) (by omega), M, sub_refl, w _ ?_⟩
        rw [Int.one_mul]
        omega
    · rw [if_pos (by rw [Int.zero_mul]; decide), if_neg (by decide)]
      exact ⟨M, sub_refl, w _ (by omega)⟩
    · rw [if_pos (by rcases ho with ⟨rfl, _⟩ | rfl <;> decide), if_pos (by decide)]
      exact ⟨M, sub_refl, w _ (by omega)⟩
  by_cases c : 0 < d
  · rw [if_pos c]
    refine tail B ?_
    rcases hbs with ⟨_, h⟩ | ⟨rfl, rfl⟩ | ⟨rfl, _⟩
    · omega
    · exact .inl ⟨rfl, by rw [Int.zero_mul, Int.zero_mul]⟩
    · exact .inr rfl
  · rw [if_neg c]
    obtain rfl : d = 0 := by omega
    exact tail 0 (.inl ⟨rfl, Int.mul_zero _⟩)
theorem p_law_sign_two : ∀ ds M q, c_law_sign_two ds M q → rdCs G ir__law_sign_two (zEnds q) (zstart N__law_sign_two ds) M := by
  rintro ds M q ⟨a, b, d, rfl, ⟨hb, hd, b1, b2, b3⟩, w⟩
  simp only [ir__law_sign_two, N__law_sign_two, c_law_sign, c_law_sign_one, rdCs, rdC, rd, rds, rdc, rdo, rdg, rdgs, rdi, rdAV, rdAT, rdOV, rdOT, ofV, mkT, testV, zVar, slot, zCst, zBin, zUn, zChain, zAndV, zOrV, zAndT, zOrT, zNotV, zNotT, zIte, zIteT, zTup, zTupS, zANil, zACons, zAStar, zCall, zCallK, zONone, zOSome, zSlice, zBitsD, zGName, zGTup_tup, zGTup_lst, zGTup_FR, zGsNil, zGsCons,  zSetD, zGItem, zISeq, zIRng, zIZip, zIEnum, zYes, zAugD, zstart, zOp, zAdd, zSub, zMul, zFdiv, zMod, zPow, zShl, zCo, zEq, zNe, zIntC, zIs, zIsn, Zz.isNon, zBi, zLen, zAbs, zNegD, zTru, zBl, zRgL, zInt1, zMax2, zMin2, itemsOf, Zz.listOfD, Tgs.len, List.map_cons, List.map_nil, List.length_cons, List.length_nil, List.replicate_succ, List.replicate_zero, List.cons_append, List.nil_append, List.append_nil, List.set_cons_zero, List.set_cons_succ, Nat.sub_self, Nat.reduceSub, Nat.reduceAdd, reduceIte, Bool.false_eq_true, zIx_t0, zIx_t1, zIx_t2, zIx_t3, Bool.not_true, Bool.not_false, G, ctr, cst, zIsi_int, zIsi_tup, zIsi_lst, zIsi_bl, isTy, Option.some.injEq, exists_eq_left', List.cons.injEq, D.int.injEq, and_true, true_and, exists_and_left, and_self, okd_int, eqD_int, zComp, zwipe, zIx_fr0, zIx_fr1, Bool.true_and, Bool.and_true, decide_eq_true_eq, and_assoc, zIx_pt0, zIx_pt1, zIx_lk0, zIx_lk1, FR_inj, PT_inj, lookD_inj, PA_inj, PAs_inj, okd_FR, eqD_FR, okd_PT, eqD_PT, zSl_tup, cutD_1, cutD_to1, D.tup.injEq, D.lst.injEq, D.ref.injEq, ne_eq, zSeq_asg, zSeq_iff, zSeq_ret, zSeq_retN, zSeq_expr, zSeq_next, zSeq_seq, zSeq_never, zSeq_whl, zSeq_for, zSeq_aug, zNext_nx, zEnds_nx, zEnds_rt]
  have z0 : intBits 0 ≤ 6000 := by decide
  have fin : ∀ o : Int, (o = 0 → b * b * d = 0) → (if o = 0 then (0 : Int) ≤ 0 ∧ (0 : Int) ≤ 0 ∧ intBits a ≤ 6000 ∧ intBits 0 ≤ 6000 ∧ intBits 0 ≤ 6000 ∧ ∀ i : Int, (i ≤ 0 ↔ a ≤ 0 ∨ a * a ≤ 0 * 0 * 0) → ∃ M3, Zz.Sub M3 M ∧ q (.int i) M3 else
      b ≤ 0 ∧ 0 ≤ d ∧ intBits a ≤ 6000 ∧ intBits b ≤ 6000 ∧ intBits d ≤ 6000 ∧ ∀ i : Int, (i ≤ 0 ↔ a ≤ 0 ∨ a * a ≤ b * b * d) → ∃ M3, Zz.Sub M3 M ∧ q (.int i) M3) := fun o ho => by
    by_cases c : o = 0
    · rw [if_pos c]
      refine ⟨by decide, by decide, b1, z0, z0, fun i hi => ⟨M, sub_refl, w i ?_⟩⟩
      rw [hi, ho c]
      exact Iff.rfl
    · rw [if_neg c]
      exact ⟨hb, hd, b1, b2, b3, fun i hi => ⟨M, sub_refl, w i hi⟩⟩
  rw [if_neg (show ¬ (0 : Int) < 0 by decide)]
  by_cases c : 0 < d
  · rw [if_pos c]
    have f := fin ((if 0 < b then (1 : Int) else 0) - if b < 0 then 1 else 0) fun e => by
      have : b = 0 := by
        by_cases h : b < 0
        · rw [if_neg (by omega), if_pos h] at e; cases e
        · omega
      rw [this, Int.zero_mul, Int.zero_mul]
    by_cases h0 : ((if 0 < b then (1 : Int) else 0) - if b < 0 then 1 else 0) = 0
    · rw [if_pos h0] at f ⊢
      exact f
    · rw [if_neg h0] at f ⊢
      exact f
  · rw [if_neg c]
    obtain rfl : d = 0 := by omega
    have f := fin 0 fun _ => Int.mul_zero _
    rw [if_pos rfl] at f
    exact f
theorem num_fr {y : Rat} {k : Nat} (b : B k y) (hk : k ≤ 2600) : Num y.num 0 0 (y.den : Int) :=
  ⟨Int.le_refl _, Int.le_refl _, by exact_mod_cast y.den_pos, Nat.le_trans b.n hk, by decide, by decide, Nat.le_trans b.d hk⟩
theorem numM_fr {y : Rat} : numM y.num (y.den : Int) = y := by
  unfold numM
  rw [Rat.intCast_natCast, ← Rat.mkRat_eq_div, Rat.mkRat_self]
theorem numS_0 {r : Int} : numS 0 0 r = 0 := by
  unfold numS
  show (0 : Rat) * 0 * 0 / _ = 0
  rw [Rat.mul_zero, Rat.div_def, Rat.zero_mul]
theorem p_law_number : ∀ ds M q, c_law_number ds M q → rdCs G ir__law_number (zEnds q) (zstart N__law_number ds) M := by
  rintro ds M Q ⟨d, rfl, m, s, hm, ⟨bm, bs, s0⟩, w⟩
  rcases hm with ⟨u, u0, hu, rfl⟩ | ⟨n, p, q, r, p0, g, e1, e2, rfl⟩
  · simp only [ir__law_number, N__law_number, rdCs, rdC, rd, rds, rdc, rdo, rdg, rdgs, rdi, rdAV, rdAT, rdOV, rdOT, ofV, mkT, testV, zVar, slot, zCst, zBin, zUn, zChain, zAndV, zOrV, zAndT, zOrT, zNotV, zNotT, zIte, zIteT, zTup, zTupS, zANil, zACons, zAStar, zCall, zCallK, zONone, zOSome, zSlice, zBitsD, zGName, zGTup_tup, zGTup_lst, zGTup_FR, zGsNil, zGsCons,  zSetD, zGItem, zISeq, zIRng, zIZip, zIEnum, zYes, zAugD, zstart, zOp, zAdd, zSub, zMul, zFdiv, zMod, zPow, zShl, zCo, zEq, zNe, zIntC, zIs, zIsn, Zz.isNon, zBi, zLen, zAbs, zNegD, zTru, zBl, zRgL, zInt1, zMax2, zMin2, itemsOf, Zz.listOfD, Tgs.len, List.map_cons, List.map_nil, List.length_cons, List.length_nil, List.replicate_succ, List.replicate_zero, List.cons_append, List.nil_append, List.append_nil, List.set_cons_zero, List.set_cons_succ, Nat.sub_self, Nat.reduceSub, Nat.reduceAdd, reduceIte, Bool.false_eq_true, zIx_t0, zIx_t1, zIx_t2, zIx_t3, Bool.not_true, Bool.not_false, G, ctr, cst, zIsi_int, zIsi_tup, zIsi_lst, zIsi_bl, isTy, Option.some.injEq, exists_eq_left', List.cons.injEq, D.int.injEq, and_true, true_and, exists_and_left, and_self, okd_int, eqD_int, zComp, zwipe, zIx_fr0, zIx_fr1, Bool.true_and, Bool.and_true, decide_eq_true_eq, and_assoc, zIx_pt0, zIx_pt1, zIx_lk0, zIx_lk1, FR_inj, PT_inj, lookD_inj, PA_inj, PAs_inj, okd_FR, eqD_FR, okd_PT, eqD_PT, zSl_tup, cutD_1, cutD_to1, D.tup.injEq, D.lst.injEq, D.ref.injEq, ne_eq, zSeq_asg, zSeq_iff, zSeq_ret, zSeq_retN, zSeq_expr, zSeq_next, zSeq_seq, zSeq_never, zSeq_whl, zSeq_for, zSeq_aug, zNext_nx, zEnds_nx, zEnds_rt, -zLen, zLen_FR]
    have bu := bm.add (B_root hu bs)
    refine ⟨M, sub_refl, w _ _ _ _ (num_fr bu (by decide)) fun x => ?_⟩
    rw [numM_fr, numS_0, LeM_root u0 hu, LeM_root Rat.le_refl (Rat.mul_zero 0), Rat.add_zero]
  · obtain ⟨bp, bq, br⟩ := mom_bits p0 g e1 e2 bm bs (k := 1209) (by decide)
    simp only [ir__law_number, N__law_number, rdCs, rdC, rd, rds, rdc, rdo, rdg, rdgs, rdi, rdAV, rdAT, rdOV, rdOT, ofV, mkT, testV, zVar, slot, zCst, zBin, zUn, zChain, zAndV, zOrV, zAndT, zOrT, zNotV, zNotT, zIte, zIteT, zTup, zTupS, zANil, zACons, zAStar, zCall, zCallK, zONone, zOSome, zSlice, zBitsD, zGName, zGTup_tup, zGTup_lst, zGTup_FR, zGsNil, zGsCons,  zSetD, zGItem, zISeq, zIRng, zIZip, zIEnum, zYes, zAugD, zstart, zOp, zAdd, zSub, zMul, zFdiv, zMod, zPow, zShl, zCo, zEq, zNe, zIntC, zIs, zIsn, Zz.isNon, zBi, zLen, zAbs, zNegD, zTru, zBl, zRgL, zInt1, zMax2, zMin2, itemsOf, Zz.listOfD, Tgs.len, List.map_cons, List.map_nil, List.length_cons, List.length_nil, List.replicate_succ, List.replicate_zero, List.cons_append, List.nil_append, List.append_nil, List.set_cons_zero, List.set_cons_succ, Nat.sub_self, Nat.reduceSub, Nat.reduceAdd, reduceIte, Bool.false_eq_true, zIx_t0, zIx_t1, zIx_t2, zIx_t3, Bool.not_true, Bool.not_false, G, ctr, cst, zIsi_int, zIsi_tup, zIsi_lst, zIsi_bl, isTy, Option.some.injEq, exists_eq_left', List.cons.injEq, D.int.injEq, and_true, true_and, exists_and_left, and_self, okd_int, eqD_int, zComp, zwipe, zIx_fr0, zIx_fr1, Bool.true_and, Bool.and_true, decide_eq_true_eq, and_assoc, zIx_pt0, zIx_pt1, zIx_lk0, zIx_lk1, FR_inj, PT_inj, lookD_inj, PA_inj, PAs_inj, okd_FR, eqD_FR, okd_PT, eqD_PT, zSl_tup, cutD_1, cutD_to1, D.tup.injEq, D.lst.injEq, D.ref.injEq, ne_eq, zSeq_asg, zSeq_iff, zSeq_ret, zSeq_retN, zSeq_expr, zSeq_next, zSeq_seq, zSeq_never, zSeq_whl, zSeq_for, zSeq_aug, zNext_nx, zEnds_nx, zEnds_rt]
    have eD : ((q * q - 4 * p * r : Int) : Rat) = s * ((2 * p : Rat) * (2 * p)) := by
      rw [Rat.intCast_sub, Rat.intCast_mul, Rat.intCast_mul, Rat.intCast_mul, e1, e2]
      have : ((4 : Int) : Rat) = 4 := rfl
      rw [this]
      generalize (p : Rat) = a
      grind
    have D0 : 0 ≤ q * q - 4 * p * r := by
      refine Rat.intCast_nonneg.mp ?_
      rw [eD]
      exact Rat.mul_nonneg s0 (sq_nonneg _)
    have pr : (p : Rat) ≠ 0 := Rat.ne_of_gt (Rat.intCast_pos.mpr p0)
    rw [if_neg (by decide)]
    refine ⟨mulOk bq bq (by decide), mulOk (by decide : intBits 4 ≤ 3) bp (by decide), mulOk (bmul (by decide : intBits 4 ≤ 3) bp (Nat.le_refl _)) br (by decide), mulOk (by decide : intBits 2 ≤ 2) bp (by decide), M, sub_refl, w _ _ _ _ ⟨by decide, D0, by omega, Nat.le_trans (intBits_neg_le bq) (by decide), by decide, bsub (bmul bq bq (Nat.le_refl _)) (bmul (bmul (by decide : intBits 4 ≤ 3) bp (Nat.le_refl _)) br (Nat.le_refl _)) (by decide), bmul (by decide : intBits 2 ≤ 2) bp (by decide)⟩ fun x => ?_⟩
    have em : numM (-q) (2 * p) = m := by
      unfold numM
      rw [Rat.intCast_neg, Rat.intCast_mul, e1, two_cast]
      have h2 : 2 * (p : Rat) ≠ 0 := Rat.ne_of_gt (Rat.mul_pos (by decide) (Rat.intCast_pos.mpr p0))
      rw [show -(-2 * m * (p : Rat)) = m * (2 * (p : Rat)) by grind, Rat.mul_div_cancel h2]
    have es : numS 1 (q * q - 4 * p * r) (2 * p) = s := by
      unfold numS
      rw [eD, Rat.intCast_mul, two_cast]
      have h2 : 2 * (p : Rat) * (2 * (p : Rat)) ≠ 0 := Rat.ne_of_gt (Rat.mul_pos (Rat.mul_pos (by decide) (Rat.intCast_pos.mpr p0)) (Rat.mul_pos (by decide) (Rat.intCast_pos.mpr p0)))
      show (1 : Rat) * 1 * (s * (2 * (p : Rat) * (2 * (p : Rat)))) / (2 * (p : Rat) * (2 * (p : Rat))) = s
      rw [Rat.mul_one, Rat.one_mul, Rat.mul_div_cancel h2]
    rw [em, es]
theorem p_law_compare : ∀ ds M q, c_law_compare ds M q → rdCs G ir__law_compare (zEnds q) (zstart N__law_compare ds) M := by
  rintro ds M Q ⟨x, a, b, c, r, rfl, ⟨n, bx⟩, w⟩
  simp only [ir__law_compare, N__law_compare, numD, c_law_sign_two, rdCs, rdC, rd, rds, rdc, rdo, rdg, rdgs, rdi, rdAV, rdAT, rdOV, rdOT, ofV, mkT, testV, zVar, slot, zCst, zBin, zUn, zChain, zAndV, zOrV, zAndT, zOrT, zNotV, zNotT, zIte, zIteT, zTup, zTupS, zANil, zACons, zAStar, zCall, zCallK, zONone, zOSome, zSlice, zBitsD, zGName, zGTup_tup, zGTup_lst, zGTup_FR, zGsNil, zGsCons,  zSetD, zGItem, zISeq, zIRng, zIZip, zIEnum, zYes, zAugD, zstart, zOp, zAdd, zSub, zMul, zFdiv, zMod, zPow, zShl, zCo, zEq, zNe, zIntC, zIs, zIsn, Zz.isNon, zBi, zLen, zAbs, zNegD, zTru, zBl, zRgL, zInt1, zMax2, zMin2, itemsOf, Zz.listOfD, Tgs.len, List.map_cons, List.map_nil, List.length_cons, List.length_nil, List.replicate_succ, List.replicate_zero, List.cons_append, List.nil_append, List.append_nil, List.set_cons_zero, List.set_cons_succ, Nat.sub_self, Nat.reduceSub, Nat.reduceAdd, reduceIte, Bool.false_eq_true, zIx_t0, zIx_t1, zIx_t2, zIx_t3, Bool.not_true, Bool.not_false, G, ctr, cst, zIsi_int, zIsi_tup, zIsi_lst, zIsi_bl, isTy, Option.some.injEq, exists_eq_left', List.cons.injEq, D.int.injEq, and_true, true_and, exists_and_left, and_self, okd_int, eqD_int, zComp, zwipe, zIx_fr0, zIx_fr1, Bool.true_and, Bool.and_true, decide_eq_true_eq, and_assoc, zIx_pt0, zIx_pt1, zIx_lk0, zIx_lk1, FR_inj, PT_inj, lookD_inj, PA_inj, PAs_inj, okd_FR, eqD_FR, okd_PT, eqD_PT, zSl_tup, cutD_1, cutD_to1, D.tup.injEq, D.lst.injEq, D.ref.injEq, ne_eq, zSeq_asg, zSeq_iff, zSeq_ret, zSeq_retN, zSeq_expr, zSeq_next, zSeq_seq, zSeq_never, zSeq_whl, zSeq_for, zSeq_aug, zNext_nx, zEnds_nx, zEnds_rt]
  have xd : (0 : Int) < x.den := by exact_mod_cast x.den_pos
  have z0 : intBits 0 ≤ 0 := by decide
  refine ⟨mulOk bx.n n.br (by decide), mulOk n.bp bx.d (by decide), mulOk z0 n.br (by decide), mulOk (intBits_neg_le n.bq) bx.d (by decide), Int.zero_mul _, ?_, n.d0, bsub (bmul bx.n n.br (Nat.le_refl _)) (bmul n.bp bx.d (Nat.le_refl _)) (by decide), bmul (intBits_neg_le n.bq) bx.d (by decide), Nat.le_trans n.bd (by decide), fun i hi => ⟨M, sub_refl, w i ?_⟩⟩
  · have := Int.mul_nonneg n.q0 (Int.le_of_lt xd)
    rw [Int.neg_mul]; omega
  · have rr : (0 : Rat) < (r : Rat) := Rat.intCast_pos.mpr n.r0
    have dr : (0 : Rat) < (x.den : Rat) := Rat.natCast_pos.mpr x.den_pos
    have hn := mul_den x
    rw [hi, LeM_num (r := (r : Rat) * x.den) (A := ((a * x.den : Int) : Rat)) (S := ((-b * x.den * (-b * x.den) * c : Int) : Rat)) (Rat.mul_pos rr dr)]
    · have e : x * ((r : Rat) * x.den) - ((a * x.den : Int) : Rat) = ((x.num * r - a * x.den : Int) : Rat) := by
        rw [Rat.intCast_sub, Rat.intCast_mul x.num, ← hn]
        grind
      rw [e, ← Rat.intCast_mul (x.num * r - a * x.den), Rat.intCast_le_intCast, show (0 : Rat) = ((0 : Int) : Rat) from rfl, Rat.intCast_le_intCast]
    · unfold numM
      rw [Rat.intCast_mul, Rat.intCast_natCast]
      have : (r : Rat) ≠ 0 := Rat.ne_of_gt rr
      generalize (r : Rat) = y at *
      grind
    · unfold numS
      rw [Rat.intCast_mul, Rat.intCast_mul, Rat.intCast_mul, Rat.intCast_neg, Rat.intCast_natCast]
      have : (r : Rat) ≠ 0 := Rat.ne_of_gt rr
      generalize (r : Rat) = y at *
      grind
theorem p_law_step_number : ∀ ds M q, c_law_step_number ds M q → rdCs G ir__law_step_number (zEnds q) (zstart N__law_step_number ds) M := by
  rintro ds M Q ⟨f, st, n, rfl, ⟨bf, bs, hn⟩, w⟩
  have e : D.tup [.int (n : Nat), .int 1] = FR (n : Rat) := rfl
  simp only [ir__law_step_number, N__law_step_number, c2, e, rdCs, rdC, rd, rds, rdc, rdo, rdg, rdgs, rdi, rdAV, rdAT, rdOV, rdOT, ofV, mkT, testV, zVar, slot, zCst, zBin, zUn, zChain, zAndV, zOrV, zAndT, zOrT, zNotV, zNotT, zIte, zIteT, zTup, zTupS, zANil, zACons, zAStar, zCall, zCallK, zONone, zOSome, zSlice, zBitsD, zGName, zGTup_tup, zGTup_lst, zGTup_FR, zGsNil, zGsCons,  zSetD, zGItem, zISeq, zIRng, zIZip, zIEnum, zYes, zAugD, zstart, zOp, zAdd, zSub, zMul, zFdiv, zMod, zPow, zShl, zCo, zEq, zNe, zIntC, zIs, zIsn, Zz.isNon, zBi, zLen, zAbs, zNegD, zTru, zBl, zRgL, zInt1, zMax2, zMin2, itemsOf, Zz.listOfD, Tgs.len, List.map_cons, List.map_nil, List.length_cons, List.length_nil, List.replicate_succ, List.replicate_zero, List.cons_append, List.nil_append, List.append_nil, List.set_cons_zero, List.set_cons_succ, Nat.sub_self, Nat.reduceSub, Nat.reduceAdd, reduceIte, Bool.false_eq_true, zIx_t0, zIx_t1, zIx_t2, zIx_t3, Bool.not_true, Bool.not_false, G, ctr, cst, zIsi_int, zIsi_tup, zIsi_lst, zIsi_bl, isTy, Option.some.injEq, exists_eq_left', List.cons.injEq, D.int.injEq, and_true, true_and, exists_and_left, and_self, okd_int, eqD_int, zComp, zwipe, zIx_fr0, zIx_fr1, Bool.true_and, Bool.and_true, decide_eq_true_eq, and_assoc, zIx_pt0, zIx_pt1, zIx_lk0, zIx_lk1, FR_inj, PT_inj, lookD_inj, PA_inj, PAs_inj, okd_FR, eqD_FR, okd_PT, eqD_PT, zSl_tup, cutD_1, cutD_to1, D.tup.injEq, D.lst.injEq, D.ref.injEq, ne_eq, zSeq_asg, zSeq_iff, zSeq_ret, zSeq_retN, zSeq_expr, zSeq_next, zSeq_seq, zSeq_never, zSeq_whl, zSeq_for, zSeq_aug, zNext_nx, zEnds_nx, zEnds_rt]
  have bn := B_nat hn (by decide)
  exact ⟨bs.mono (by decide), bn.mono (by decide), bf.mono (by decide), (bs.mul bn).mono (by decide), M, sub_refl, by rw [Rat.mul_comm st]; exact w⟩
theorem pow_half {e : Nat} : (((2 ^ (e + 1) : Nat) : Int)).fdiv 2 = ((2 ^ e : Nat) : Int) := by
  rw [Nat.pow_succ]
  have := fdiv_nat (2 ^ e * 2) 2
  rw [Nat.mul_div_cancel _ (by decide)] at this
  exact this
theorem p_law_steps_to : ∀ ds M q, c_law_steps_to ds M q → rdCs G ir__law_steps_to (zEnds q) (zstart N__law_steps_to ds) M := by
  rintro ds M Q ⟨f, st, a, b, c, r, rfl, ⟨bf, bs, nm, hf, st0, N, hN, far⟩, w⟩
  simp only [ir__law_steps_to, N__law_steps_to, c_law_compare, c_law_step_number, numD, rdCs, rdC, rd, rds, rdc, rdo, rdg, rdgs, rdi, rdAV, rdAT, rdOV, rdOT, ofV, mkT, testV, zVar, slot, zCst, zBin, zUn, zChain, zAndV, zOrV, zAndT, zOrT, zNotV, zNotT, zIte, zIteT, zTup, zTupS, zANil, zACons, zAStar, zCall, zCallK, zONone, zOSome, zSlice, zBitsD, zGName, zGTup_tup, zGTup_lst, zGTup_FR, zGsNil, zGsCons,  zSetD, zGItem, zISeq, zIRng, zIZip, zIEnum, zYes, zAugD, zstart, zOp, zAdd, zSub, zMul, zFdiv, zMod, zPow, zShl, zCo, zEq, zNe, zIntC, zIs, zIsn, Zz.isNon, zBi, zLen, zAbs, zNegD, zTru, zBl, zRgL, zInt1, zMax2, zMin2, itemsOf, Zz.listOfD, Tgs.len, List.map_cons, List.map_nil, List.length_cons, List.length_nil, List.replicate_succ, List.replicate_zero, List.cons_append, List.nil_append, List.append_nil, List.set_cons_zero, List.set_cons_succ, Nat.sub_self, Nat.reduceSub, Nat.reduceAdd, reduceIte, Bool.false_eq_true, zIx_t0, zIx_t1, zIx_t2, zIx_t3, Bool.not_true, Bool.not_false, G, ctr, cst, zIsi_int, zIsi_tup, zIsi_lst, zIsi_bl, isTy, Option.some.injEq, exists_eq_left', List.cons.injEq, D.int.injEq, and_true, true_and, exists_and_left, and_self, okd_int, eqD_int, zComp, zwipe, zIx_fr0, zIx_fr1, Bool.true_and, Bool.and_true, decide_eq_true_eq, and_assoc, zIx_pt0, zIx_pt1, zIx_lk0, zIx_lk1, FR_inj, PT_inj, lookD_inj, PA_inj, PAs_inj, okd_FR, eqD_FR, okd_PT, eqD_PT, zSl_tup, cutD_1, cutD_to1, D.tup.injEq, D.lst.injEq, D.ref.injEq, ne_eq, zSeq_asg, zSeq_iff, zSeq_ret, zSeq_retN, zSeq_expr, zSeq_next, zSeq_seq, zSeq_never, kSeq_whl, kSeq_for, zSeq_aug, zNext_nx, zEnds_nx, zEnds_rt]
  have s0 : 0 ≤ st := Rat.le_of_lt st0
  have N1 : 1 ≤ N := by
    by_cases h : 1 ≤ N
    · exact h
    · obtain rfl : N = 0 := by omega
      rw [grid0] at far
      exact absurd hf far
  have lt : ∀ p : Nat, LeM (f + (p : Rat) * st) (numM a r) (numS b c r) → p < N := fun p hp => by
    by_cases h : p < N
    · exact h
    · exact absurd (LeM_mono (step_le s0 (show N ≤ p by omega)) hp) far
  have sz : ∀ p : Nat, p ≤ 8 * N → p < 2 ^ 1600 := fun p hp => by
    have : 8 * (2 : Nat) ^ 1500 < 2 ^ 1600 := by decide +kernel
    generalize (2 : Nat) ^ 1500 = A at *
    generalize (2 : Nat) ^ 1600 = B at *
    omega
  have bx : ∀ p : Nat, p ≤ 8 * N → B 2600 (f + (p : Rat) * st) := fun p hp => (bf.add ((B_nat (sz p hp) (by decide)).mul bs)).mono (by decide)
  refine zWhl_gen (fun n s M' => M' = M ∧ ∃ e : Nat, n + 2 ^ e = N + N ∧ s = [some (FR f), some (FR st), some (D.tup [.int a, .int b, .int c, .int r]), some (.int (0 : Nat)), some (.int (2 ^ e : Nat))]) ?_ (N + N - 1) _ M ⟨rfl, 0, by show N + N - 1 + 1 = N + N; omega, rfl⟩
  rintro n s M' X ⟨rfl, e, hn, rfl⟩ hX
  simp only [c_law_compare, c_law_step_number, rdCs, rdC, rd, rds, rdc, rdo, rdg, rdgs, rdi, rdAV, rdAT, rdOV, rdOT, ofV, mkT, testV, zVar, slot, zCst, zBin, zUn, zChain, zAndV, zOrV, zAndT, zOrT, zNotV, zNotT, zIte, zIteT, zTup, zTupS, zANil, zACons, zAStar, zCall, zCallK, zONone, zOSome, zSlice, zBitsD, zGName, zGTup_tup, zGTup_lst, zGTup_FR, zGsNil, zGsCons,  zSetD, zGItem, zISeq, zIRng, zIZip, zIEnum, zYes, zAugD, zstart, zOp, zAdd, zSub, zMul, zFdiv, zMod, zPow, zShl, zCo, zEq, zNe, zIntC, zIs, zIsn, Zz.isNon, zBi, zLen, zAbs, zNegD, zTru, zBl, zRgL, zInt1, zMax2, zMin2, itemsOf, Zz.listOfD, Tgs.len, List.map_cons, List.map_nil, List.length_cons, List.length_nil, List.replicate_succ, List.replicate_zero, List.cons_append, List.nil_append, List.append_nil, List.set_cons_zero, List.set_cons_succ, Nat.sub_self, Nat.reduceSub, Nat.reduceAdd, reduceIte, Bool.false_eq_true, zIx_t0, zIx_t1, zIx_t2, zIx_t3, Bool.not_true, Bool.not_false, G, ctr, cst, zIsi_int, zIsi_tup, zIsi_lst, zIsi_bl, isTy, Option.some.injEq, exists_eq_left', List.cons.injEq, D.int.injEq, and_true, true_and, exists_and_left, and_self, okd_int, eqD_int, zComp, zwipe, zIx_fr0, zIx_fr1, Bool.true_and, Bool.and_true, decide_eq_true_eq, and_assoc, zIx_pt0, zIx_pt1, zIx_lk0, zIx_lk1, FR_inj, PT_inj, lookD_inj, PA_inj, PAs_inj, okd_FR, eqD_FR, okd_PT, eqD_PT, zSl_tup, cutD_1, cutD_to1, D.tup.injEq, D.lst.injEq, D.ref.injEq, ne_eq, zSeq_asg, zSeq_iff, zSeq_ret, zSeq_retN, zSeq_expr, zSeq_next, zSeq_seq, zSeq_never, zSeq_whl, zSeq_for, zSeq_aug, zNext_nx, zEnds_nx, zEnds_rt]
  refine ⟨2 ^ e, rfl, bf, bs, sz _ (by omega), _, rfl, rfl, a, b, c, r, rfl, nm, bx _ (by omega), fun i hi => ?_⟩
  by_cases h : LeM (f + ((2 ^ e : Nat) : Rat) * st) (numM a r) (numS b c r)
  · rw [if_pos (hi.mpr h)]
    have l := lt _ h
    refine ⟨mulOk (by decide : intBits 2 ≤ 2) (intBits_le_iff.mpr (by rw [Int.natAbs_natCast]; exact sz _ (by omega))) (by decide), ?_⟩
    have e2 : (2 : Int) * ((2 ^ e : Nat) : Int) = ((2 ^ (e + 1) : Nat) : Int) := by rw [Nat.pow_succ, Nat.mul_comm]; rfl
    rw [e2]
    have p0 : 0 < 2 ^ e := Nat.two_pow_pos e
    refine hX (N + N - 2 ^ (e + 1)) _ _ ?_ ⟨rfl, e + 1, ?_, rfl⟩
    · rw [Nat.pow_succ]; omega
    · rw [Nat.pow_succ]; omega
  · rw [if_neg (fun z => h (hi.mp z))]
    simp only [kont, rdCs, rdC, rd, rds, rdc, rdo, rdg, rdgs, rdi, rdAV, rdAT, rdOV, rdOT, ofV, mkT, testV, zVar, slot, zCst, zBin, zUn, zChain, zAndV, zOrV, zAndT, zOrT, zNotV, zNotT, zIte, zIteT, zTup, zTupS, zANil, zACons, zAStar, zCall, zCallK, zONone, zOSome, zSlice, zBitsD, zGName, zGTup_tup, zGTup_lst, zGTup_FR, zGsNil, zGsCons,  zSetD, zGItem, zISeq, zIRng, zIZip, zIEnum, zYes, zAugD, zstart, zOp, zAdd, zSub, zMul, zFdiv, zMod, zPow, zShl, zCo, zEq, zNe, zIntC, zIs, zIsn, Zz.isNon, zBi, zLen, zAbs, zNegD, zTru, zBl, zRgL, zInt1, zMax2, zMin2, itemsOf, Zz.listOfD, Tgs.len, List.map_cons, List.map_nil, List.length_cons, List.length_nil, List.replicate_succ, List.replicate_zero, List.cons_append, List.nil_append, List.append_nil, List.set_cons_zero, List.set_cons_succ, Nat.sub_self, Nat.reduceSub, Nat.reduceAdd, reduceIte, Bool.false_eq_true, zIx_t0, zIx_t1, zIx_t2, zIx_t3, Bool.not_true, Bool.not_false, G, ctr, cst, zIsi_int, zIsi_tup, zIsi_lst, zIsi_bl, isTy, Option.some.injEq, exists_eq_left', List.cons.injEq, D.int.injEq, and_true, true_and, exists_and_left, and_self, okd_int, eqD_int, zComp, zwipe, zIx_fr0, zIx_fr1, Bool.true_and, Bool.and_true, decide_eq_true_eq, and_assoc, zIx_pt0, zIx_pt1, zIx_lk0, zIx_lk1, FR_inj, PT_inj, lookD_inj, PA_inj, PAs_inj, okd_FR, eqD_FR, okd_PT, eqD_PT, zSl_tup, cutD_1, cutD_to1, D.tup.injEq, D.lst.injEq, D.ref.injEq, ne_eq, zSeq_asg, zSeq_iff, zSeq_ret, zSeq_retN, zSeq_expr, zSeq_next, zSeq_seq, zSeq_never, kSeq_whl, kSeq_for, zSeq_aug, zNext_nx, zEnds_nx, zEnds_rt]
    refine zWhl_gen (fun n s M'' => M'' = M' ∧ ∃ k : Nat, k < N ∧ LeM (f + (k : Rat) * st) (numM a r) (numS b c r) ∧ (n = 0 ∧ ¬ LeM (f + ((k + 1 : Nat) : Rat) * st) (numM a r) (numS b c r) ∨ ∃ e : Nat, n = 2 ^ e ∧ n ≤ N + N ∧ ¬ LeM (f + ((k + 2 * n : Nat) : Rat) * st) (numM a r) (numS b c r)) ∧
      s = [some (FR f), some (FR st), some (D.tup [.int a, .int b, .int c, .int r]), some (.int (k : Nat)), some (.int (n : Nat))]) ?_ (2 ^ e) _ M' ⟨rfl, 0, N1, ?_, .inr ⟨e, rfl, by omega, fun z => h (LeM_mono (step_le s0 (by omega)) z)⟩, rfl⟩
    · rintro n s M'' X ⟨rfl, k, kN, hk, hc, rfl⟩ hX
      rcases hc with ⟨rfl, hc⟩ | ⟨e, rfl, hl, hc⟩
      · simp only [kont, rdCs, rdC, rd, rds, rdc, rdo, rdg, rdgs, rdi, rdAV, rdAT, rdOV, rdOT, ofV, mkT, testV, zVar, slot, zCst, zBin, zUn, zChain, zAndV, zOrV, zAndT, zOrT, zNotV, zNotT, zIte, zIteT, zTup, zTupS, zANil, zACons, zAStar, zCall, zCallK, zONone, zOSome, zSlice, zBitsD, zGName, zGTup_tup, zGTup_lst, zGTup_FR, zGsNil, zGsCons,  zSetD, zGItem, zISeq, zIRng, zIZip, zIEnum, zYes, zAugD, zstart, zOp, zAdd, zSub, zMul, zFdiv, zMod, zPow, zShl, zCo, zEq, zNe, zIntC, zIs, zIsn, Zz.isNon, zBi, zLen, zAbs, zNegD, zTru, zBl, zRgL, zInt1, zMax2, zMin2, itemsOf, Zz.listOfD, Tgs.len, List.map_cons, List.map_nil, List.length_cons, List.length_nil, List.replicate_succ, List.replicate_zero, List.cons_append, List.nil_append, List.append_nil, List.set_cons_zero, List.set_cons_succ, Nat.sub_self, Nat.reduceSub, Nat.reduceAdd, reduceIte, Bool.false_eq_true, zIx_t0, zIx_t1, zIx_t2, zIx_t3, Bool.not_true, Bool.not_false, G, ctr, cst, zIsi_int, zIsi_tup, zIsi_lst, zIsi_bl, isTy, Option.some.injEq, exists_eq_left', List.cons.injEq, D.int.injEq, and_true, true_and, exists_and_left, and_self, okd_int, eqD_int, zComp, zwipe, zIx_fr0, zIx_fr1, Bool.true_and, Bool.and_true, decide_eq_true_eq, and_assoc, zIx_pt0, zIx_pt1, zIx_lk0, zIx_lk1, FR_inj, PT_inj, lookD_inj, PA_inj, PAs_inj, okd_FR, eqD_FR, okd_PT, eqD_PT, zSl_tup, cutD_1, cutD_to1, D.tup.injEq, D.lst.injEq, D.ref.injEq, ne_eq, zSeq_asg, zSeq_iff, zSeq_ret, zSeq_retN, zSeq_expr, zSeq_next, zSeq_seq, zSeq_never, zSeq_whl, zSeq_for, zSeq_aug, zNext_nx, zEnds_nx, zEnds_rt]
        rw [if_neg (by decide)]
        exact ⟨M'', sub_refl, w k ⟨hk, hc⟩⟩
      · simp only [c_law_compare, c_law_step_number, rdCs, rdC, rd, rds, rdc, rdo, rdg, rdgs, rdi, rdAV, rdAT, rdOV, rdOT, ofV, mkT, testV, zVar, slot, zCst, zBin, zUn, zChain, zAndV, zOrV, zAndT, zOrT, zNotV, zNotT, zIte, zIteT, zTup, zTupS, zANil, zACons, zAStar, zCall, zCallK, zONone, zOSome, zSlice, zBitsD, zGName, zGTup_tup, zGTup_lst, zGTup_FR, zGsNil, zGsCons,  zSetD, zGItem, zISeq, zIRng, zIZip, zIEnum, zYes, zAugD, zstart, zOp, zAdd, zSub, zMul, zFdiv, zMod, zPow, zShl, zCo, zEq, zNe, zIntC, zIs, zIsn, Zz.isNon, zBi, zLen, zAbs, zNegD, zTru, zBl, zRgL, zInt1, zMax2, zMin2, itemsOf, Zz.listOfD, Tgs.len, List.map_cons, List.map_nil, List.length_cons, List.length_nil, List.replicate_succ, List.replicate_zero, List.cons_append, List.nil_append, List.append_nil, List.set_cons_zero, List.set_cons_succ, Nat.sub_self, Nat.reduceSub, Nat.reduceAdd, reduceIte, Bool.false_eq_true, zIx_t0, zIx_t1, zIx_t2, zIx_t3, Bool.not_true, Bool.not_false, G, ctr, cst, zIsi_int, zIsi_tup, zIsi_lst, zIsi_bl, isTy, Option.some.injEq, exists_eq_left', List.cons.injEq, D.int.injEq, and_true, true_and, exists_and_left, and_self, okd_int, eqD_int, zComp, zwipe, zIx_fr0, zIx_fr1, Bool.true_and, Bool.and_true, decide_eq_true_eq, and_assoc, zIx_pt0, zIx_pt1, zIx_lk0, zIx_lk1, FR_inj, PT_inj, lookD_inj, PA_inj, PAs_inj, okd_FR, eqD_FR, okd_PT, eqD_PT, zSl_tup, cutD_1, cutD_to1, D.tup.injEq, D.lst.injEq, D.ref.injEq, ne_eq, zSeq_asg, zSeq_iff, zSeq_ret, zSeq_retN, zSeq_expr, zSeq_next, zSeq_seq, zSeq_never, zSeq_whl, zSeq_for, zSeq_aug, zNext_nx, zEnds_nx, zEnds_rt]
        have p0 : 0 < 2 ^ e := Nat.two_pow_pos e
        rw [if_pos (by exact_mod_cast p0)]
        have half : ∃ h : Nat, (((2 ^ e : Nat) : Int)).fdiv 2 = (h : Int) ∧ h < 2 ^ e ∧ (h = 0 ∧ 2 ^ e = 1 ∨ ∃ e', h = 2 ^ e' ∧ 2 * h = 2 ^ e) := by
          cases e with
          | zero => exact ⟨0, rfl, by decide, .inl ⟨rfl, rfl⟩⟩
          | succ e => exact ⟨2 ^ e, pow_half, by rw [Nat.pow_succ]; have := Nat.two_pow_pos e; omega, .inr ⟨e, rfl, by rw [Nat.pow_succ]; omega⟩⟩
        generalize 2 ^ e = p at *
        obtain ⟨h, eh, hlt, hh⟩ := half
        rw [eh, ← Int.natCast_add]
        refine ⟨k + p, rfl, bf, bs, sz _ (by omega), _, rfl, rfl, a, b, c, r, rfl, nm, bx _ (by omega), fun i hi => ?_⟩
        by_cases g : LeM (f + ((k + p : Nat) : Rat) * st) (numM a r) (numS b c r)
        · rw [if_pos (hi.mpr g)]
          refine ⟨divOk_of (by decide) (by decide), hX h _ _ hlt ⟨rfl, k + p, lt _ g, g, ?_, rfl⟩⟩
          rcases hh with ⟨rfl, e1⟩ | ⟨e', e1, e2⟩
          · exact .inl ⟨rfl, fun z => hc (LeM_mono (step_le s0 (by omega)) z)⟩
          · exact .inr ⟨e', e1, by omega, fun z => hc (LeM_mono (step_le s0 (by omega)) z)⟩
        · rw [if_neg (fun z => g (hi.mp z))]
          refine ⟨divOk_of (by decide) (by decide), hX h _ _ hlt ⟨rfl, k, kN, hk, ?_, rfl⟩⟩
          rcases hh with ⟨rfl, e1⟩ | ⟨e', e1, e2⟩
          · exact .inl ⟨rfl, fun z => g (LeM_mono (step_le s0 (by omega)) z)⟩
          · exact .inr ⟨e', e1, by omega, fun z => g (LeM_mono (step_le s0 (by omega)) z)⟩
    · rw [grid0]; exact hf
end K46
end
section
/-! K46u: the law's own places, speeds, ways. -/
namespace K46
open PySem PySem.Spec PyProof.Rows L2 Zz
open PySem.Builtin.Int (intBits)

theorem zSl_way {w : List Rep} {M : Mh} {q : KD} : zSl (wayD w) (some 1) none M q = q (.tup ((w.map fun r => lookD r.1 r.2).drop 1)) M := by
  unfold wayD
  rw [zSl_tup, cutD_1]
theorem BP450 {p : P2} (h : BP 3 p) : BP 450 p := ⟨h.x.mono (by decide), h.y.mono (by decide)⟩
theorem p_law_is_slow : ∀ ds M q, c_law_is_slow ds M q → rdCs G ir__law_is_slow (zEnds q) (zstart N__law_is_slow ds) M := by
  rintro ds M q ⟨w, v, rfl, ⟨g, bv⟩, hw⟩
  simp only [ir__law_is_slow, N__law_is_slow, zSl_way, rdCs, rdC, rd, rds, rdc, rdo, rdg, rdgs, rdi, rdAV, rdAT, rdOV, rdOT, ofV, mkT, testV, zVar, slot, zCst, zBin, zUn, zChain, zAndV, zOrV, zAndT, zOrT, zNotV, zNotT, zIte, zIteT, zTup, zTupS, zANil, zACons, zAStar, zCall, zCallK, zONone, zOSome, zSlice, zBitsD, zGName, zGTup_tup, zGTup_lst, zGTup_FR, zGsNil, zGsCons,  zSetD, zGItem, zISeq, zIRng, zIZip, zIEnum, zYes, zAugD, zstart, zOp, zAdd, zSub, zMul, zFdiv, zMod, zPow, zShl, zCo, zEq, zNe, zIntC, zIs, zIsn, Zz.isNon, zBi, zLen, zAbs, zNegD, zTru, zBl, zRgL, zInt1, zMax2, zMin2, itemsOf, Zz.listOfD, Tgs.len, List.map_cons, List.map_nil, List.length_cons, List.length_nil, List.replicate_succ, List.replicate_zero, List.cons_append, List.nil_append, List.append_nil, List.set_cons_zero, List.set_cons_succ, Nat.sub_self, Nat.reduceSub, Nat.reduceAdd, reduceIte, Bool.false_eq_true, zIx_t0, zIx_t1, zIx_t2, zIx_t3, Bool.not_true, Bool.not_false, G, ctr, cst, zIsi_int, zIsi_tup, zIsi_lst, zIsi_bl, isTy, Option.some.injEq, exists_eq_left', List.cons.injEq, D.int.injEq, and_true, true_and, exists_and_left, and_self, okd_int, eqD_int, zComp, zwipe, zIx_fr0, zIx_fr1, Bool.true_and, Bool.and_true, decide_eq_true_eq, and_assoc, zIx_pt0, zIx_pt1, zIx_lk0, zIx_lk1, FR_inj, PT_inj, lookD_inj, PA_inj, PAs_inj, okd_FR, eqD_FR, okd_PT, eqD_PT, zSl_tup, cutD_1, cutD_to1, D.tup.injEq, D.lst.injEq, D.ref.injEq, ne_eq, zSeq_asg, zSeq_iff, zSeq_ret, zSeq_retN, zSeq_expr, zSeq_next, zSeq_seq, zSeq_never, kSeq_whl, kSeq_for, zSeq_aug, zNext_nx, zEnds_nx, zEnds_rt]
  show zLoop _ _ (zipD (w.map fun r => lookD r.1 r.2) ((w.map fun r => lookD r.1 r.2).drop 1)) _ _ M
  rw [legs_zip]
  refine zLoop_gen legD (fun r s M' => M' = M ∧ (∃ done, done ++ r = legs w ∧ ∀ a ∈ done, slowLeg v a) ∧ ∃ x2 x3 x4 x5 x6 x7, s = [some (wayD w), some (FR v), x2, x3, x4, x5, x6, x7]) ?_ ?_ (legs w) _ M ⟨rfl, ⟨[], rfl, fun a h => by cases h⟩, _, _, _, _, _, _, rfl⟩
  · rintro a r s M' k ⟨rfl, ⟨done, hd, hs⟩, x2, x3, x4, x5, x6, x7, rfl⟩ hk
    have ma : a ∈ legs w := by rw [← hd]; simp
    have ga := g.leg a ma
    simp only [zGTup_leg, zGTup_lk, c2, c_law_at_most, c_square_of, rdCs, rdC, rd, rds, rdc, rdo, rdg, rdgs, rdi, rdAV, rdAT, rdOV, rdOT, ofV, mkT, testV, zVar, slot, zCst, zBin, zUn, zChain, zAndV, zOrV, zAndT, zOrT, zNotV, zNotT, zIte, zIteT, zTup, zTupS, zANil, zACons, zAStar, zCall, zCallK, zONone, zOSome, zSlice, zBitsD, zGName, zGTup_tup, zGTup_lst, zGTup_FR, zGsNil, zGsCons,  zSetD, zGItem, zISeq, zIRng, zIZip, zIEnum, zYes, zAugD, zstart, zOp, zAdd, zSub, zMul, zFdiv, zMod, zPow, zShl, zCo, zEq, zNe, zIntC, zIs, zIsn, Zz.isNon, zBi, zLen, zAbs, zNegD, zTru, zBl, zRgL, zInt1, zMax2, zMin2, itemsOf, Zz.listOfD, Tgs.len, List.map_cons, List.map_nil, List.length_cons, List.length_nil, List.replicate_succ, List.replicate_zero, List.cons_append, List.nil_append, List.append_nil, List.set_cons_zero, List.set_cons_succ, Nat.sub_self, Nat.reduceSub, Nat.reduceAdd, reduceIte, Bool.false_eq_true, zIx_t0, zIx_t1, zIx_t2, zIx_t3, Bool.not_true, Bool.not_false, G, ctr, cst, zIsi_int, zIsi_tup, zIsi_lst, zIsi_bl, isTy, Option.some.injEq, exists_eq_left', List.cons.injEq, D.int.injEq, and_true, true_and, exists_and_left, and_self, okd_int, eqD_int, zComp, zwipe, zIx_fr0, zIx_fr1, Bool.true_and, Bool.and_true, decide_eq_true_eq, and_assoc, zIx_pt0, zIx_pt1, zIx_lk0, zIx_lk1, FR_inj, PT_inj, lookD_inj, PA_inj, PAs_inj, okd_FR, eqD_FR, okd_PT, eqD_PT, zSl_tup, cutD_1, cutD_to1, D.tup.injEq, D.lst.injEq, D.ref.injEq, ne_eq, zSeq_asg, zSeq_iff, zSeq_ret, zSeq_retN, zSeq_expr, zSeq_next, zSeq_seq, zSeq_never, zSeq_whl, zSeq_for, zSeq_aug, zNext_nx, zEnds_nx, zEnds_rt]
    have bd := ga.b
    have bm := bv.mul bd
    have bq : B 65 (sqd a.1.2 a.2.2) := by
      have x := ga.p0.x.sub ga.p1.x
      have y := ga.p0.y.sub ga.p1.y
      exact ((x.mul x).add (y.mul y)).mono (by decide)
    refine ⟨ga.t1.b.mono (by decide), ga.t0.b.mono (by decide), bv.mono (by decide), bd.mono (by decide), BP450 ga.p0, BP450 ga.p1, bm.mono (by decide), bm.mono (by decide), bq.mono (by decide), (bm.mul bm).mono (by decide), ?_⟩
    by_cases c : slowLeg v a
    · rw [if_neg (by rw [decide_eq_true (show sqd a.1.2 a.2.2 ≤ _ from c)]; decide)]
      refine hk _ _ ⟨rfl, ⟨done ++ [a], by rw [← hd]; simp, fun b hb => ?_⟩, _, _, _, _, _, _, rfl⟩
      rcases List.mem_append.mp hb with hb | hb
      · exact hs b hb
      · obtain rfl : b = a := by simpa using hb
        exact c
    · rw [if_pos (by rw [decide_eq_false (show ¬ sqd a.1.2 a.2.2 ≤ _ from c)]; rfl)]
      have : decide (∀ l ∈ legs w, slowLeg v l) = false := decide_eq_false fun z => c (z a ma)
      rw [this] at hw
      exact ⟨M', sub_refl, hw⟩
  · rintro s M' ⟨rfl, ⟨done, hd, hs⟩, x2, x3, x4, x5, x6, x7, rfl⟩
    rw [List.append_nil] at hd
    subst hd
    rw [decide_eq_true hs] at hw
    simp only [kont, rdCs, rdC, rd, rds, rdc, rdo, rdg, rdgs, rdi, rdAV, rdAT, rdOV, rdOT, ofV, mkT, testV, zVar, slot, zCst, zBin, zUn, zChain, zAndV, zOrV, zAndT, zOrT, zNotV, zNotT, zIte, zIteT, zTup, zTupS, zANil, zACons, zAStar, zCall, zCallK, zONone, zOSome, zSlice, zBitsD, zGName, zGTup_tup, zGTup_lst, zGTup_FR, zGsNil, zGsCons,  zSetD, zGItem, zISeq, zIRng, zIZip, zIEnum, zYes, zAugD, zstart, zOp, zAdd, zSub, zMul, zFdiv, zMod, zPow, zShl, zCo, zEq, zNe, zIntC, zIs, zIsn, Zz.isNon, zBi, zLen, zAbs, zNegD, zTru, zBl, zRgL, zInt1, zMax2, zMin2, itemsOf, Zz.listOfD, Tgs.len, List.map_cons, List.map_nil, List.length_cons, List.length_nil, List.replicate_succ, List.replicate_zero, List.cons_append, List.nil_append, List.append_nil, List.set_cons_zero, List.set_cons_succ, Nat.sub_self, Nat.reduceSub, Nat.reduceAdd, reduceIte, Bool.false_eq_true, zIx_t0, zIx_t1, zIx_t2, zIx_t3, Bool.not_true, Bool.not_false, G, ctr, cst, zIsi_int, zIsi_tup, zIsi_lst, zIsi_bl, isTy, Option.some.injEq, exists_eq_left', List.cons.injEq, D.int.injEq, and_true, true_and, exists_and_left, and_self, okd_int, eqD_int, zComp, zwipe, zIx_fr0, zIx_fr1, Bool.true_and, Bool.and_true, decide_eq_true_eq, and_assoc, zIx_pt0, zIx_pt1, zIx_lk0, zIx_lk1, FR_inj, PT_inj, lookD_inj, PA_inj, PAs_inj, okd_FR, eqD_FR, okd_PT, eqD_PT, zSl_tup, cutD_1, cutD_to1, D.tup.injEq, D.lst.injEq, D.ref.injEq, ne_eq, zSeq_asg, zSeq_iff, zSeq_ret, zSeq_retN, zSeq_expr, zSeq_next, zSeq_seq, zSeq_never, zSeq_whl, zSeq_for, zSeq_aug, zNext_nx, zEnds_nx, zEnds_rt]
    exact ⟨M', sub_refl, hw⟩
theorem p_law_place : ∀ ds M q, c_at_of ds M q → rdCs G ir__law_place (zEnds q) (zstart N__law_place ds) M := by
  rintro ds M q ⟨w, t, rfl, ⟨g, o⟩, hw⟩
  obtain ⟨l, h1, h2, h3, h4⟩ := way_legOf g o
  rw [place_of h2] at hw
  simp only [ir__law_place, N__law_place, zSl_way, rdCs, rdC, rd, rds, rdc, rdo, rdg, rdgs, rdi, rdAV, rdAT, rdOV, rdOT, ofV, mkT, testV, zVar, slot, zCst, zBin, zUn, zChain, zAndV, zOrV, zAndT, zOrT, zNotV, zNotT, zIte, zIteT, zTup, zTupS, zANil, zACons, zAStar, zCall, zCallK, zONone, zOSome, zSlice, zBitsD, zGName, zGTup_tup, zGTup_lst, zGTup_FR, zGsNil, zGsCons,  zSetD, zGItem, zISeq, zIRng, zIZip, zIEnum, zYes, zAugD, zstart, zOp, zAdd, zSub, zMul, zFdiv, zMod, zPow, zShl, zCo, zEq, zNe, zIntC, zIs, zIsn, Zz.isNon, zBi, zLen, zAbs, zNegD, zTru, zBl, zRgL, zInt1, zMax2, zMin2, itemsOf, Zz.listOfD, Tgs.len, List.map_cons, List.map_nil, List.length_cons, List.length_nil, List.replicate_succ, List.replicate_zero, List.cons_append, List.nil_append, List.append_nil, List.set_cons_zero, List.set_cons_succ, Nat.sub_self, Nat.reduceSub, Nat.reduceAdd, reduceIte, Bool.false_eq_true, zIx_t0, zIx_t1, zIx_t2, zIx_t3, Bool.not_true, Bool.not_false, G, ctr, cst, zIsi_int, zIsi_tup, zIsi_lst, zIsi_bl, isTy, Option.some.injEq, exists_eq_left', List.cons.injEq, D.int.injEq, and_true, true_and, exists_and_left, and_self, okd_int, eqD_int, zComp, zwipe, zIx_fr0, zIx_fr1, Bool.true_and, Bool.and_true, decide_eq_true_eq, and_assoc, zIx_pt0, zIx_pt1, zIx_lk0, zIx_lk1, FR_inj, PT_inj, lookD_inj, PA_inj, PAs_inj, okd_FR, eqD_FR, okd_PT, eqD_PT, zSl_tup, cutD_1, cutD_to1, D.tup.injEq, D.lst.injEq, D.ref.injEq, ne_eq, zSeq_asg, zSeq_iff, zSeq_ret, zSeq_retN, zSeq_expr, zSeq_next, zSeq_seq, zSeq_never, kSeq_whl, kSeq_for, zSeq_aug, zNext_nx, zEnds_nx, zEnds_rt]
  show zLoop _ _ (zipD (w.map fun r => lookD r.1 r.2) ((w.map fun r => lookD r.1 r.2).drop 1)) _ _ M
  rw [legs_zip]
  refine zLoop_gen legD (fun r s M' => M' = M ∧ (∀ a ∈ r, GoodLeg a) ∧ r.find? (fun l => decide (t ≤ l.2.1)) = some l ∧ ∃ x2 x3 x4 x5 x6 x7 x8, s = [some (wayD w), some (FR t), x2, x3, x4, x5, x6, x7, x8, none, none]) ?_ ?_ (legs w) _ M ⟨rfl, g.leg, h2, _, _, _, _, _, _, _, rfl⟩
  · rintro a r s M' k ⟨rfl, gr, hf, x2, x3, x4, x5, x6, x7, x8, rfl⟩ hk
    have ga := gr a List.mem_cons_self
    simp only [zGTup_leg, zGTup_lk, c_law_at_most, rdCs, rdC, rd, rds, rdc, rdo, rdg, rdgs, rdi, rdAV, rdAT, rdOV, rdOT, ofV, mkT, testV, zVar, slot, zCst, zBin, zUn, zChain, zAndV, zOrV, zAndT, zOrT, zNotV, zNotT, zIte, zIteT, zTup, zTupS, zANil, zACons, zAStar, zCall, zCallK, zONone, zOSome, zSlice, zBitsD, zGName, zGTup_tup, zGTup_lst, zGTup_FR, zGsNil, zGsCons,  zSetD, zGItem, zISeq, zIRng, zIZip, zIEnum, zYes, zAugD, zstart, zOp, zAdd, zSub, zMul, zFdiv, zMod, zPow, zShl, zCo, zEq, zNe, zIntC, zIs, zIsn, Zz.isNon, zBi, zLen, zAbs, zNegD, zTru, zBl, zRgL, zInt1, zMax2, zMin2, itemsOf, Zz.listOfD, Tgs.len, List.map_cons, List.map_nil, List.length_cons, List.length_nil, List.replicate_succ, List.replicate_zero, List.cons_append, List.nil_append, List.append_nil, List.set_cons_zero, List.set_cons_succ, Nat.sub_self, Nat.reduceSub, Nat.reduceAdd, reduceIte, Bool.false_eq_true, zIx_t0, zIx_t1, zIx_t2, zIx_t3, Bool.not_true, Bool.not_false, G, ctr, cst, zIsi_int, zIsi_tup, zIsi_lst, zIsi_bl, isTy, Option.some.injEq, exists_eq_left', List.cons.injEq, D.int.injEq, and_true, true_and, exists_and_left, and_self, okd_int, eqD_int, zComp, zwipe, zIx_fr0, zIx_fr1, Bool.true_and, Bool.and_true, decide_eq_true_eq, and_assoc, zIx_pt0, zIx_pt1, zIx_lk0, zIx_lk1, FR_inj, PT_inj, lookD_inj, PA_inj, PAs_inj, okd_FR, eqD_FR, okd_PT, eqD_PT, zSl_tup, cutD_1, cutD_to1, D.tup.injEq, D.lst.injEq, D.ref.injEq, ne_eq, zSeq_asg, zSeq_iff, zSeq_ret, zSeq_retN, zSeq_expr, zSeq_next, zSeq_seq, zSeq_never, zSeq_whl, zSeq_for, zSeq_aug, zNext_nx, zEnds_nx, zEnds_rt]
    have bt := o.tw.b
    refine ⟨ga.t0.b.mono (by decide), bt.mono (by decide), ?_⟩
    rw [List.find?_cons] at hf
    have skip : (t ≤ a.2.1 → False) → ∀ s', (∃ x2 x3 x4 x5 x6 x7 x8, s' = [some (wayD w), some (FR t), x2, x3, x4, x5, x6, x7, x8, none, none]) → k s' M' := fun c s' hs' => by
      rw [decide_eq_false c] at hf
      exact hk _ _ ⟨rfl, fun l hl => gr l (List.mem_cons_of_mem _ hl), hf, hs'⟩
    by_cases c1 : a.1.1 ≤ t
    · rw [if_pos c1]
      refine ⟨bt.mono (by decide), ga.t1.b.mono (by decide), ?_⟩
      by_cases c : t ≤ a.2.1
      · rw [if_pos c]
        rw [decide_eq_true c] at hf
        obtain rfl : a = l := Option.some.inj hf
        have bs := B_share ga o.tw h3 h4
        have bd := ga.b
        have ne := ga.ne
        have b2 := bs.div ne bd
        simp only [c2, c_fraction, zTuple1, rdCs, rdC, rd, rds, rdc, rdo, rdg, rdgs, rdi, rdAV, rdAT, rdOV, rdOT, ofV, mkT, testV, zVar, slot, zCst, zBin, zUn, zChain, zAndV, zOrV, zAndT, zOrT, zNotV, zNotT, zIte, zIteT, zTup, zTupS, zANil, zACons, zAStar, zCall, zCallK, zONone, zOSome, zSlice, zBitsD, zGName, zGTup_tup, zGTup_lst, zGTup_FR, zGsNil, zGsCons,  zSetD, zGItem, zISeq, zIRng, zIZip, zIEnum, zYes, zAugD, zstart, zOp, zAdd, zSub, zMul, zFdiv, zMod, zPow, zShl, zCo, zEq, zNe, zIntC, zIs, zIsn, Zz.isNon, zBi, zLen, zAbs, zNegD, zTru, zBl, zRgL, zInt1, zMax2, zMin2, itemsOf, Zz.listOfD, Tgs.len, List.map_cons, List.map_nil, List.length_cons, List.length_nil, List.replicate_succ, List.replicate_zero, List.cons_append, List.nil_append, List.append_nil, List.set_cons_zero, List.set_cons_succ, Nat.sub_self, Nat.reduceSub, Nat.reduceAdd, reduceIte, Bool.false_eq_true, zIx_t0, zIx_t1, zIx_t2, zIx_t3, Bool.not_true, Bool.not_false, G, ctr, cst, zIsi_int, zIsi_tup, zIsi_lst, zIsi_bl, isTy, Option.some.injEq, exists_eq_left', List.cons.injEq, D.int.injEq, and_true, true_and, exists_and_left, and_self, okd_int, eqD_int, zComp, zwipe, zIx_fr0, zIx_fr1, Bool.true_and, Bool.and_true, decide_eq_true_eq, and_assoc, zIx_pt0, zIx_pt1, zIx_lk0, zIx_lk1, FR_inj, PT_inj, lookD_inj, PA_inj, PAs_inj, okd_FR, eqD_FR, okd_PT, eqD_PT, zSl_tup, cutD_1, cutD_to1, D.tup.injEq, D.lst.injEq, D.ref.injEq, ne_eq, zSeq_asg, zSeq_iff, zSeq_ret, zSeq_retN, zSeq_expr, zSeq_next, zSeq_seq, zSeq_never, zSeq_whl, zSeq_for, zSeq_aug, zNext_nx, zEnds_nx, zEnds_rt]
        refine ⟨bt.mono (by decide), ga.t0.b.mono (by decide), ga.t1.b.mono (by decide), ga.t0.b.mono (by decide), mulOk bs.n bd.d (by decide), mulOk bs.d bd.n (by decide), ?_, bmul bs.n bd.d (by decide), bmul bs.d bd.n (by decide), ?_⟩
        · intro e
          rcases Int.mul_eq_zero.mp e with e | e
          · exact (t - a.1.1).den_nz (by exact_mod_cast e)
          · exact ne (Rat.num_eq_zero.mp e)
        rw [fr_div _ _ ne]
        show ∀ b, _ = none → zTurns b _ _ _ _ ([(a.1.2.1, a.2.2.1), (a.1.2.2, a.2.2.2)].map fun x : Rat × Rat => .tup [FR x.1, FR x.2]) _ _ _
        intro b hb
        have hbits : ∀ x ∈ [(a.1.2.1, a.2.2.1), (a.1.2.2, a.2.2.2)], B 3 x.1 ∧ B 3 x.2 := fun x hx => by
          have e : x = (a.1.2.1, a.2.2.1) ∨ x = (a.1.2.2, a.2.2.2) := by simpa using hx
          rcases e with e | e
          · rw [e]; exact ⟨ga.p0.x, ga.p1.x⟩
          · rw [e]; exact ⟨ga.p0.y, ga.p1.y⟩
        refine turns_mapA (fun x : Rat × Rat => FR (x.1 + (t - a.1.1) / (a.2.1 - a.1.1) * (x.2 - x.1))) hb (by show 2 ≤ sizeLine; decide) (fun x hx M' K hK => ?_) ?_
        · obtain ⟨b3, b4⟩ := hbits x hx
          simp only [c2, rdCs, rdC, rd, rds, rdc, rdo, rdg, rdgs, rdi, rdAV, rdAT, rdOV, rdOT, ofV, mkT, testV, zVar, slot, zCst, zBin, zUn, zChain, zAndV, zOrV, zAndT, zOrT, zNotV, zNotT, zIte, zIteT, zTup, zTupS, zANil, zACons, zAStar, zCall, zCallK, zONone, zOSome, zSlice, zBitsD, zGName, zGTup_tup, zGTup_lst, zGTup_FR, zGsNil, zGsCons,  zSetD, zGItem, zISeq, zIRng, zIZip, zIEnum, zYes, zAugD, zstart, zOp, zAdd, zSub, zMul, zFdiv, zMod, zPow, zShl, zCo, zEq, zNe, zIntC, zIs, zIsn, Zz.isNon, zBi, zLen, zAbs, zNegD, zTru, zBl, zRgL, zInt1, zMax2, zMin2, itemsOf, Zz.listOfD, Tgs.len, List.map_cons, List.map_nil, List.length_cons, List.length_nil, List.replicate_succ, List.replicate_zero, List.cons_append, List.nil_append, List.append_nil, List.set_cons_zero, List.set_cons_succ, Nat.sub_self, Nat.reduceSub, Nat.reduceAdd, reduceIte, Bool.false_eq_true, zIx_t0, zIx_t1, zIx_t2, zIx_t3, Bool.not_true, Bool.not_false, G, ctr, cst, zIsi_int, zIsi_tup, zIsi_lst, zIsi_bl, isTy, Option.some.injEq, exists_eq_left', List.cons.injEq, D.int.injEq, and_true, true_and, exists_and_left, and_self, okd_int, eqD_int, zComp, zwipe, zIx_fr0, zIx_fr1, Bool.true_and, Bool.and_true, decide_eq_true_eq, and_assoc, zIx_pt0, zIx_pt1, zIx_lk0, zIx_lk1, FR_inj, PT_inj, lookD_inj, PA_inj, PAs_inj, okd_FR, eqD_FR, okd_PT, eqD_PT, zSl_tup, cutD_1, cutD_to1, D.tup.injEq, D.lst.injEq, D.ref.injEq, ne_eq, zSeq_asg, zSeq_iff, zSeq_ret, zSeq_retN, zSeq_expr, zSeq_next, zSeq_seq, zSeq_never, zSeq_whl, zSeq_for, zSeq_aug, zNext_nx, zEnds_nx, zEnds_rt]
          have bb := b4.sub b3
          exact ⟨b4.mono (by decide), b3.mono (by decide), b2.mono (by decide), bb.mono (by decide), b3.mono (by decide), (b2.mul bb).mono (by decide), hK⟩
        · exact ⟨_, rfl, M', sub_refl, hw⟩
      · rw [if_neg c]
        exact skip c _ ⟨_, _, _, _, _, _, _, rfl⟩
    · rw [if_neg c1]
      have lt := ga.lt
      refine skip (fun z => ?_) _ ⟨_, _, _, _, _, _, _, rfl⟩
      rw [decide_eq_true z] at hf
      cases hf
      exact c1 h3
  · rintro s M' ⟨rfl, _, hf, _⟩
    cases hf
theorem slow100 {l : Rep × Rep} (g : GoodLeg l) : slowLeg ((100 : Nat) : Rat) l := by
  show sqd l.1.2 l.2.2 ≤ _
  have bd := g.b
  have lt := g.lt
  have d0 : 0 < l.2.1 - l.1.1 := by grind
  have hd : (1 : Rat) / 4 ≤ l.2.1 - l.1.1 := by
    have e := mul_den (l.2.1 - l.1.1)
    have n1 : (1 : Rat) ≤ ((l.2.1 - l.1.1).num : Rat) := by
      have := num_pos.mpr d0
      have : ((1 : Int) : Rat) ≤ ((l.2.1 - l.1.1).num : Rat) := Rat.intCast_le_intCast.mpr (by omega)
      exact this
    have n2 : ((l.2.1 - l.1.1).den : Rat) ≤ 4 := by
      have := intBits_le_iff.mp bd.d
      rw [Int.natAbs_natCast] at this
      have : (((l.2.1 - l.1.1).den : Nat) : Rat) ≤ ((4 : Nat) : Rat) := Rat.natCast_le_natCast.mpr (by omega)
      exact this
    generalize l.2.1 - l.1.1 = d at *
    have := Rat.mul_nonneg (Rat.le_of_lt d0) (show (0 : Rat) ≤ 4 - (d.den : Rat) by grind)
    grind
  have m : ∀ r s : Rat, B 3 r → B 3 s → (r - s) * (r - s) ≤ 16 * 16 := fun r s hr hs => by
    have h1 := B_le hr
    have h2 := B_le hs
    have h3 := B_le hr.neg
    have h4 := B_le hs.neg
    have e8 : ((2 ^ 3 : Nat) : Rat) = 8 := by decide +kernel
    rw [e8] at h1 h2 h3 h4
    have := Rat.mul_nonneg (show 0 ≤ 16 - (r - s) by grind) (show 0 ≤ 16 + (r - s) by grind)
    grind
  have x := m _ _ g.p0.x g.p1.x
  have y := m _ _ g.p0.y g.p1.y
  have e100 : ((100 : Nat) : Rat) = 100 := rfl
  rw [sqd_eq, e100]
  have k : (25 : Rat) * 25 ≤ 100 * (l.2.1 - l.1.1) * (100 * (l.2.1 - l.1.1)) := sq_le (by decide) (by grind)
  generalize 100 * (l.2.1 - l.1.1) * (100 * (l.2.1 - l.1.1)) = z at *
  generalize (l.1.2.1 - l.2.2.1) * (l.1.2.1 - l.2.2.1) = z1 at *
  generalize (l.1.2.2 - l.2.2.2) * (l.1.2.2 - l.2.2.2) = z2 at *
  grind
theorem p_law_kept_speed : ∀ ds M q, c_law_kept_speed ds M q → rdCs G ir__law_kept_speed (zEnds q) (zstart N__law_kept_speed ds) M := by
  rintro ds M q ⟨w, rfl, g, hw⟩
  simp only [ir__law_kept_speed, N__law_kept_speed, c_law_is_slow, rdCs, rdC, rd, rds, rdc, rdo, rdg, rdgs, rdi, rdAV, rdAT, rdOV, rdOT, ofV, mkT, testV, zVar, slot, zCst, zBin, zUn, zChain, zAndV, zOrV, zAndT, zOrT, zNotV, zNotT, zIte, zIteT, zTup, zTupS, zANil, zACons, zAStar, zCall, zCallK, zONone, zOSome, zSlice, zBitsD, zGName, zGTup_tup, zGTup_lst, zGTup_FR, zGsNil, zGsCons,  zSetD, zGItem, zISeq, zIRng, zIZip, zIEnum, zYes, zAugD, zstart, zOp, zAdd, zSub, zMul, zFdiv, zMod, zPow, zShl, zCo, zEq, zNe, zIntC, zIs, zIsn, Zz.isNon, zBi, zLen, zAbs, zNegD, zTru, zBl, zRgL, zInt1, zMax2, zMin2, itemsOf, Zz.listOfD, Tgs.len, List.map_cons, List.map_nil, List.length_cons, List.length_nil, List.replicate_succ, List.replicate_zero, List.cons_append, List.nil_append, List.append_nil, List.set_cons_zero, List.set_cons_succ, Nat.sub_self, Nat.reduceSub, Nat.reduceAdd, reduceIte, Bool.false_eq_true, zIx_t0, zIx_t1, zIx_t2, zIx_t3, Bool.not_true, Bool.not_false, G, ctr, cst, zIsi_int, zIsi_tup, zIsi_lst, zIsi_bl, isTy, Option.some.injEq, exists_eq_left', List.cons.injEq, D.int.injEq, and_true, true_and, exists_and_left, and_self, okd_int, eqD_int, zComp, zwipe, zIx_fr0, zIx_fr1, Bool.true_and, Bool.and_true, decide_eq_true_eq, and_assoc, zIx_pt0, zIx_pt1, zIx_lk0, zIx_lk1, FR_inj, PT_inj, lookD_inj, PA_inj, PAs_inj, okd_FR, eqD_FR, okd_PT, eqD_PT, zSl_tup, cutD_1, cutD_to1, D.tup.injEq, D.lst.injEq, D.ref.injEq, ne_eq, zSeq_asg, zSeq_iff, zSeq_ret, zSeq_retN, zSeq_expr, zSeq_next, zSeq_seq, zSeq_never, kSeq_whl, kSeq_for, zSeq_aug, zNext_nx, zEnds_nx, zEnds_rt]
  refine zWhl_gen (fun n s M' => M' = M ∧ ∃ k : Nat, 1 ≤ k ∧ n + k = 100 ∧ s = [some (wayD w), some (.int (k : Nat))]) ?_ 99 _ M ⟨rfl, 1, by decide, rfl, rfl⟩
  rintro n s M' X ⟨rfl, k, k1, hn, rfl⟩ hX
  have e : D.tup [.int (k : Nat), .int 1] = FR (k : Rat) := rfl
  have bk : B 8 (k : Rat) := B_nat (by have : (2 : Nat) ^ 8 = 256 := by decide
                                       omega) (by decide)
  simp only [c_law_is_slow, wayD_inj, e, rdCs, rdC, rd, rds, rdc, rdo, rdg, rdgs, rdi, rdAV, rdAT, rdOV, rdOT, ofV, mkT, testV, zVar, slot, zCst, zBin, zUn, zChain, zAndV, zOrV, zAndT, zOrT, zNotV, zNotT, zIte, zIteT, zTup, zTupS, zANil, zACons, zAStar, zCall, zCallK, zONone, zOSome, zSlice, zBitsD, zGName, zGTup_tup, zGTup_lst, zGTup_FR, zGsNil, zGsCons,  zSetD, zGItem, zISeq, zIRng, zIZip, zIEnum, zYes, zAugD, zstart, zOp, zAdd, zSub, zMul, zFdiv, zMod, zPow, zShl, zCo, zEq, zNe, zIntC, zIs, zIsn, Zz.isNon, zBi, zLen, zAbs, zNegD, zTru, zBl, zRgL, zInt1, zMax2, zMin2, itemsOf, Zz.listOfD, Tgs.len, List.map_cons, List.map_nil, List.length_cons, List.length_nil, List.replicate_succ, List.replicate_zero, List.cons_append, List.nil_append, List.append_nil, List.set_cons_zero, List.set_cons_succ, Nat.sub_self, Nat.reduceSub, Nat.reduceAdd, reduceIte, Bool.false_eq_true, zIx_t0, zIx_t1, zIx_t2, zIx_t3, Bool.not_true, Bool.not_false, G, ctr, cst, zIsi_int, zIsi_tup, zIsi_lst, zIsi_bl, isTy, Option.some.injEq, exists_eq_left', List.cons.injEq, D.int.injEq, and_true, true_and, exists_and_left, and_self, okd_int, eqD_int, zComp, zwipe, zIx_fr0, zIx_fr1, Bool.true_and, Bool.and_true, decide_eq_true_eq, and_assoc, zIx_pt0, zIx_pt1, zIx_lk0, zIx_lk1, FR_inj, PT_inj, lookD_inj, PA_inj, PAs_inj, okd_FR, eqD_FR, okd_PT, eqD_PT, zSl_tup, cutD_1, cutD_to1, D.tup.injEq, D.lst.injEq, D.ref.injEq, ne_eq, zSeq_asg, zSeq_iff, zSeq_ret, zSeq_retN, zSeq_expr, zSeq_next, zSeq_seq, zSeq_never, zSeq_whl, zSeq_for, zSeq_aug, zNext_nx, zEnds_nx, zEnds_rt]
  refine ⟨g, bk, ?_⟩
  by_cases c : ∀ l ∈ legs w, slowLeg (k : Rat) l
  · rw [if_neg (by rw [decide_eq_true c]; decide)]
    simp only [kont, e, rdCs, rdC, rd, rds, rdc, rdo, rdg, rdgs, rdi, rdAV, rdAT, rdOV, rdOT, ofV, mkT, testV, zVar, slot, zCst, zBin, zUn, zChain, zAndV, zOrV, zAndT, zOrT, zNotV, zNotT, zIte, zIteT, zTup, zTupS, zANil, zACons, zAStar, zCall, zCallK, zONone, zOSome, zSlice, zBitsD, zGName, zGTup_tup, zGTup_lst, zGTup_FR, zGsNil, zGsCons,  zSetD, zGItem, zISeq, zIRng, zIZip, zIEnum, zYes, zAugD, zstart, zOp, zAdd, zSub, zMul, zFdiv, zMod, zPow, zShl, zCo, zEq, zNe, zIntC, zIs, zIsn, Zz.isNon, zBi, zLen, zAbs, zNegD, zTru, zBl, zRgL, zInt1, zMax2, zMin2, itemsOf, Zz.listOfD, Tgs.len, List.map_cons, List.map_nil, List.length_cons, List.length_nil, List.replicate_succ, List.replicate_zero, List.cons_append, List.nil_append, List.append_nil, List.set_cons_zero, List.set_cons_succ, Nat.sub_self, Nat.reduceSub, Nat.reduceAdd, reduceIte, Bool.false_eq_true, zIx_t0, zIx_t1, zIx_t2, zIx_t3, Bool.not_true, Bool.not_false, G, ctr, cst, zIsi_int, zIsi_tup, zIsi_lst, zIsi_bl, isTy, Option.some.injEq, exists_eq_left', List.cons.injEq, D.int.injEq, and_true, true_and, exists_and_left, and_self, okd_int, eqD_int, zComp, zwipe, zIx_fr0, zIx_fr1, Bool.true_and, Bool.and_true, decide_eq_true_eq, and_assoc, zIx_pt0, zIx_pt1, zIx_lk0, zIx_lk1, FR_inj, PT_inj, lookD_inj, PA_inj, PAs_inj, okd_FR, eqD_FR, okd_PT, eqD_PT, zSl_tup, cutD_1, cutD_to1, D.tup.injEq, D.lst.injEq, D.ref.injEq, ne_eq, zSeq_asg, zSeq_iff, zSeq_ret, zSeq_retN, zSeq_expr, zSeq_next, zSeq_seq, zSeq_never, zSeq_whl, zSeq_for, zSeq_aug, zNext_nx, zEnds_nx, zEnds_rt]
    exact ⟨M', sub_refl, hw _ (Rat.natCast_pos.mpr (by omega)) bk c⟩
  · rw [if_pos (by rw [decide_eq_false c]; rfl)]
    have : k ≠ 100 := by
      intro e
      subst e
      exact c fun l hl => slow100 (g.leg l hl)
    exact hX (n - 1) _ _ (by omega) ⟨rfl, k + 1, by omega, by omega, rfl⟩
end K46
end
section
/-! K46v: the law draws ways; its own plan. -/
namespace K46
open PySem PySem.Spec PyProof.Rows L2 Zz
open PySem.Builtin.Int (intBits)

theorem legs_snoc : ∀ (d : List Rep) (y x : Rep), legs (d ++ [y] ++ [x]) = legs (d ++ [y]) ++ [(y, x)]
  | [], y, x => rfl
  | [z], y, x => rfl
  | z :: z2 :: d, y, x => by
    have := legs_snoc (z2 :: d) y x
    show legs (z :: z2 :: (d ++ [y] ++ [x])) = legs (z :: z2 :: (d ++ [y])) ++ [(y, x)]
    rw [legs_cons, legs_cons, List.cons_append]
    congr 1
/-- a way that grows: what is there, and the moment that comes next -/
def Chain (done : List Rep) (t : Rat) : Prop := (done = [] ∧ ∃ i : Int, t = (i : Rat) ∧ i.natAbs ≤ 2) ∨
  ∃ d y, done = d ++ [y] ∧ (∃ i : Int, (done.headD (0, (0, 0))).1 = (i : Rat) ∧ i.natAbs ≤ 2) ∧ (∀ l ∈ legs done, GoodLeg l) ∧ ∀ pt, BP 3 pt → GoodLeg (y, (t, pt))
def TwB (t : Rat) (k : Nat) : Prop := ∃ z : Int, t = (z : Rat) / 12 ∧ z.natAbs ≤ 24 + 36 * k
theorem TwB.tw {t : Rat} {k : Nat} (h : TwB t k) (hk : k ≤ 5) : Tw t := by
  obtain ⟨z, e, hz⟩ := h
  exact ⟨z, e, by omega⟩
theorem chain_next {done : List Rep} {t st : Rat} {pt : P2} (c : Chain done t) (h : TwB t done.length) (hl : done.length ≤ 3) (bp : BP 3 pt) (hs : ∃ n : Nat, st = (n : Rat) / 12 ∧ 0 < n ∧ n ≤ 36) (bs : B 2 st) :
    Chain (done ++ [(t, pt)]) (t + st) ∧ TwB (t + st) (done ++ [(t, pt)]).length := by
  obtain ⟨n, en, n0, n1⟩ := hs
  have h2 : TwB (t + st) (done ++ [(t, pt)]).length := by
    obtain ⟨z, e, hz⟩ := h
    refine ⟨z + n, ?_, ?_⟩
    · rw [e, en, Rat.intCast_add, Rat.intCast_natCast]
      generalize (z : Rat) = a
      generalize (n : Rat) = b
      grind
    · rw [List.length_append, List.length_singleton]; omega
  refine ⟨.inr ⟨done, (t, pt), rfl, ?_, ?_, fun p2 b2 => ⟨h.tw (by omega), h2.tw (by rw [List.length_append, List.length_singleton]; omega), bp, b2, ?_, ?_, ?_⟩⟩, h2⟩
  · rcases c with ⟨rfl, i, e, hi⟩ | ⟨d, y, rfl, hh, _⟩
    · exact ⟨i, e, hi⟩
    · cases d with
      | nil => exact hh
      | cons a d => exact hh
  · rcases c with ⟨rfl, _⟩ | ⟨d, y, rfl, _, hg, hy⟩
    · intro l hl'
      cases hl'
    · intro l hl'
      rw [legs_snoc] at hl'
      rcases List.mem_append.mp hl' with hl' | hl'
      · exact hg l hl'
      · obtain rfl : l = (y, (t, pt)) := by simpa using hl'
        exact hy pt bp
  · show t < t + st
    have : (0 : Rat) < (n : Rat) := Rat.natCast_pos.mpr n0
    rw [en]
    generalize (n : Rat) = b at *
    grind
  · show B 2 (t + st - t)
    have : t + st - t = st := by grind
    rw [this]; exact bs
  · show t + st - t ≤ 3
    have : (n : Rat) ≤ ((36 : Nat) : Rat) := Rat.natCast_le_natCast.mpr n1
    have : (n : Rat) ≤ 36 := this
    rw [en]
    generalize (n : Rat) = b at *
    grind
theorem pot_mono {k n : Nat} {zs : List D} (hk : k ≤ n) (h : Pot k zs) : Pot n zs := by
  obtain ⟨x, y, z, e1, e2, e3, e4, e5⟩ := h
  exact ⟨x, y, z, e1, e2, e3, e4, Nat.le_trans e5 hk⟩
theorem p_law_drawn_way : ∀ ds M q, c_law_drawn_way ds M q → rdCs G ir__law_drawn_way (zEnds q) (zstart N__law_drawn_way ds) M := by
  rintro ds M q ⟨p, m, n, rfl, ⟨h1, m1, m3, n1⟩, w⟩
  simp only [ir__law_drawn_way, N__law_drawn_way, c_law_take, zLst, rdCs, rdC, rd, rds, rdc, rdo, rdg, rdgs, rdi, rdAV, rdAT, rdOV, rdOT, ofV, mkT, testV, zVar, slot, zCst, zBin, zUn, zChain, zAndV, zOrV, zAndT, zOrT, zNotV, zNotT, zIte, zIteT, zTup, zTupS, zANil, zACons, zAStar, zCall, zCallK, zONone, zOSome, zSlice, zBitsD, zGName, zGTup_tup, zGTup_lst, zGTup_FR, zGsNil, zGsCons,  zSetD, zGItem, zISeq, zIRng, zIZip, zIEnum, zYes, zAugD, zstart, zOp, zAdd, zSub, zMul, zFdiv, zMod, zPow, zShl, zCo, zEq, zNe, zIntC, zIs, zIsn, Zz.isNon, zBi, zLen, zAbs, zNegD, zTru, zBl, zRgL, zInt1, zMax2, zMin2, itemsOf, Zz.listOfD, Tgs.len, List.map_cons, List.map_nil, List.length_cons, List.length_nil, List.replicate_succ, List.replicate_zero, List.cons_append, List.nil_append, List.append_nil, List.set_cons_zero, List.set_cons_succ, Nat.sub_self, Nat.reduceSub, Nat.reduceAdd, reduceIte, Bool.false_eq_true, zIx_t0, zIx_t1, zIx_t2, zIx_t3, Bool.not_true, Bool.not_false, G, ctr, cst, zIsi_int, zIsi_tup, zIsi_lst, zIsi_bl, isTy, Option.some.injEq, exists_eq_left', List.cons.injEq, D.int.injEq, and_true, true_and, exists_and_left, and_self, okd_int, eqD_int, zComp, zwipe, zIx_fr0, zIx_fr1, Bool.true_and, Bool.and_true, decide_eq_true_eq, and_assoc, zIx_pt0, zIx_pt1, zIx_lk0, zIx_lk1, FR_inj, PT_inj, lookD_inj, PA_inj, PAs_inj, okd_FR, eqD_FR, okd_PT, eqD_PT, zSl_tup, cutD_1, cutD_to1, D.tup.injEq, D.lst.injEq, D.ref.injEq, ne_eq, zSeq_asg, zSeq_iff, zSeq_ret, zSeq_retN, zSeq_expr, zSeq_next, zSeq_seq, zSeq_never, kSeq_whl, kSeq_for, zSeq_aug, zNext_nx, zEnds_nx, zEnds_rt]
  refine ⟨5, rfl, n, h1, by decide, by decide, by omega, fun d hd ys hy a ha => ⟨by omega, by omega, ?_⟩⟩
  have hap : a ≠ p := fun e => by rw [e, mup_same] at ha; cases ha
  have han : M a = none := by rw [mup_ne hap] at ha; exact ha
  have hpa : p ≠ a := fun e => hap e.symm
  refine zLoop_d (fun r s M' => ∃ (done : List Rep) (t : Rat) (ys : List D) (k : Nat) (x4 x5 : Option D), s = [some (.ref p), some (.int m), some (FR t), some (.ref a), x4, x5] ∧ M' = mup (mup M p (.lst ys)) a (.lst (done.map fun r => lookD r.1 r.2)) ∧ Pot k ys ∧ k + 5 * r.length ≤ n + 21 ∧
    done.length + r.length = m + 1 ∧ TwB t done.length ∧ Chain done t) ?_ ?_ (rgD 0 (m + 1)) _ _ ⟨[], (((d : Int) - 2 : Int) : Rat), ys, n + 1, _, _, rfl, rfl, hy, ?_, ?_, ?_, .inl ⟨rfl, _, rfl, by omega⟩⟩
  · rintro b r s M' K ⟨done, t, ys, k, x4, x5, rfl, rfl, hp, hk, hl, ht, hc⟩ hK
    have M'p : mup (mup M p (.lst ys)) a (.lst (done.map fun r => lookD r.1 r.2)) p = some (.lst ys) := by rw [mup_ne hpa, mup_same]
    rw [List.length_cons] at hk hl
    have e4 : (4 : Int) = ((4 : Nat) : Int) := rfl
    simp only [zMeth, isMuL_m, c_law_drawn_point, c_law_of, zLst, rdCs, rdC, rd, rds, rdc, rdo, rdg, rdgs, rdi, rdAV, rdAT, rdOV, rdOT, ofV, mkT, testV, zVar, slot, zCst, zBin, zUn, zChain, zAndV, zOrV, zAndT, zOrT, zNotV, zNotT, zIte, zIteT, zTup, zTupS, zANil, zACons, zAStar, zCall, zCallK, zONone, zOSome, zSlice, zBitsD, zGName, zGTup_tup, zGTup_lst, zGTup_FR, zGsNil, zGsCons,  zSetD, zGItem, zISeq, zIRng, zIZip, zIEnum, zYes, zAugD, zstart, zOp, zAdd, zSub, zMul, zFdiv, zMod, zPow, zShl, zCo, zEq, zNe, zIntC, zIs, zIsn, Zz.isNon, zBi, zLen, zAbs, zNegD, zTru, zBl, zRgL, zInt1, zMax2, zMin2, itemsOf, Zz.listOfD, Tgs.len, List.map_cons, List.map_nil, List.length_cons, List.length_nil, List.replicate_succ, List.replicate_zero, List.cons_append, List.nil_append, List.append_nil, List.set_cons_zero, List.set_cons_succ, Nat.sub_self, Nat.reduceSub, Nat.reduceAdd, reduceIte, Bool.false_eq_true, zIx_t0, zIx_t1, zIx_t2, zIx_t3, Bool.not_true, Bool.not_false, G, ctr, cst, zIsi_int, zIsi_tup, zIsi_lst, zIsi_bl, isTy, Option.some.injEq, exists_eq_left', List.cons.injEq, D.int.injEq, and_true, true_and, exists_and_left, and_self, okd_int, eqD_int, zComp, zwipe, zIx_fr0, zIx_fr1, Bool.true_and, Bool.and_true, decide_eq_true_eq, and_assoc, zIx_pt0, zIx_pt1, zIx_lk0, zIx_lk1, FR_inj, PT_inj, lookD_inj, PA_inj, PAs_inj, okd_FR, eqD_FR, okd_PT, eqD_PT, zSl_tup, cutD_1, cutD_to1, D.tup.injEq, D.lst.injEq, D.ref.injEq, ne_eq, zSeq_asg, zSeq_iff, zSeq_ret, zSeq_retN, zSeq_expr, zSeq_next, zSeq_seq, zSeq_never, zSeq_whl, zSeq_for, zSeq_aug, zNext_nx, zEnds_nx, zEnds_rt]
    refine ⟨4, rfl, k, ⟨ys, M'p, hp⟩, by decide, by omega, fun pt bpt ys2 hy2 => ?_⟩
    rw [mup_swap hap]
    simp only [zAppD_m, rdCs, rdC, rd, rds, rdc, rdo, rdg, rdgs, rdi, rdAV, rdAT, rdOV, rdOT, ofV, mkT, testV, zVar, slot, zCst, zBin, zUn, zChain, zAndV, zOrV, zAndT, zOrT, zNotV, zNotT, zIte, zIteT, zTup, zTupS, zANil, zACons, zAStar, zCall, zCallK, zONone, zOSome, zSlice, zBitsD, zGName, zGTup_tup, zGTup_lst, zGTup_FR, zGsNil, zGsCons,  zSetD, zGItem, zISeq, zIRng, zIZip, zIEnum, zYes, zAugD, zstart, zOp, zAdd, zSub, zMul, zFdiv, zMod, zPow, zShl, zCo, zEq, zNe, zIntC, zIs, zIsn, Zz.isNon, zBi, zLen, zAbs, zNegD, zTru, zBl, zRgL, zInt1, zMax2, zMin2, itemsOf, Zz.listOfD, Tgs.len, List.map_cons, List.map_nil, List.length_cons, List.length_nil, List.replicate_succ, List.replicate_zero, List.cons_append, List.nil_append, List.append_nil, List.set_cons_zero, List.set_cons_succ, Nat.sub_self, Nat.reduceSub, Nat.reduceAdd, reduceIte, Bool.false_eq_true, zIx_t0, zIx_t1, zIx_t2, zIx_t3, Bool.not_true, Bool.not_false, G, ctr, cst, zIsi_int, zIsi_tup, zIsi_lst, zIsi_bl, isTy, Option.some.injEq, exists_eq_left', List.cons.injEq, D.int.injEq, and_true, true_and, exists_and_left, and_self, okd_int, eqD_int, zComp, zwipe, zIx_fr0, zIx_fr1, Bool.true_and, Bool.and_true, decide_eq_true_eq, and_assoc, zIx_pt0, zIx_pt1, zIx_lk0, zIx_lk1, FR_inj, PT_inj, lookD_inj, PA_inj, PAs_inj, okd_FR, eqD_FR, okd_PT, eqD_PT, zSl_tup, cutD_1, cutD_to1, D.tup.injEq, D.lst.injEq, D.ref.injEq, ne_eq, zSeq_asg, zSeq_iff, zSeq_ret, zSeq_retN, zSeq_expr, zSeq_next, zSeq_seq, zSeq_never, zSeq_whl, zSeq_for, zSeq_aug, zNext_nx, zEnds_nx, zEnds_rt]
    refine ⟨?_, k + 4, ⟨ys2, by rw [mup_ne hpa, mup_same], hy2⟩, by decide, by decide, by omega, fun sv hsv ys3 hy3 => ?_⟩
    · rw [List.length_map]
      have : (4 : Nat) < sizeLine := by decide
      omega
    rw [mup_swap hap]
    obtain ⟨st, rfl, hst, bst⟩ : ∃ st : Rat, sv = FR st ∧ (∃ n : Nat, st = (n : Rat) / 12 ∧ 0 < n ∧ n ≤ 36) ∧ B 2 st := by
      simp only [List.mem_cons, List.not_mem_nil, or_false] at hsv
      rcases hsv with e | e | e | e
      · exact ⟨1, e, ⟨12, by decide +kernel, by decide, by decide⟩, ⟨by decide, by decide⟩⟩
      · exact ⟨2, e, ⟨24, by decide +kernel, by decide, by decide⟩, ⟨by decide, by decide⟩⟩
      · exact ⟨⟨1, 2, by decide, by decide⟩, e, ⟨6, by decide +kernel, by decide, by decide⟩, ⟨by decide, by decide⟩⟩
      · exact ⟨3, e, ⟨36, by decide +kernel, by decide, by decide⟩, ⟨by decide, by decide⟩⟩
    have bt := (ht.tw (by omega)).b
    simp only [c_fraction, rdCs, rdC, rd, rds, rdc, rdo, rdg, rdgs, rdi, rdAV, rdAT, rdOV, rdOT, ofV, mkT, testV, zVar, slot, zCst, zBin, zUn, zChain, zAndV, zOrV, zAndT, zOrT, zNotV, zNotT, zIte, zIteT, zTup, zTupS, zANil, zACons, zAStar, zCall, zCallK, zONone, zOSome, zSlice, zBitsD, zGName, zGTup_tup, zGTup_lst, zGTup_FR, zGsNil, zGsCons,  zSetD, zGItem, zISeq, zIRng, zIZip, zIEnum, zYes, zAugD, zstart, zOp, zAdd, zSub, zMul, zFdiv, zMod, zPow, zShl, zCo, zEq, zNe, zIntC, zIs, zIsn, Zz.isNon, zBi, zLen, zAbs, zNegD, zTru, zBl, zRgL, zInt1, zMax2, zMin2, itemsOf, Zz.listOfD, Tgs.len, List.map_cons, List.map_nil, List.length_cons, List.length_nil, List.replicate_succ, List.replicate_zero, List.cons_append, List.nil_append, List.append_nil, List.set_cons_zero, List.set_cons_succ, Nat.sub_self, Nat.reduceSub, Nat.reduceAdd, reduceIte, Bool.false_eq_true, zIx_t0, zIx_t1, zIx_t2, zIx_t3, Bool.not_true, Bool.not_false, G, ctr, cst, zIsi_int, zIsi_tup, zIsi_lst, zIsi_bl, isTy, Option.some.injEq, exists_eq_left', List.cons.injEq, D.int.injEq, and_true, true_and, exists_and_left, and_self, okd_int, eqD_int, zComp, zwipe, zIx_fr0, zIx_fr1, Bool.true_and, Bool.and_true, decide_eq_true_eq, and_assoc, zIx_pt0, zIx_pt1, zIx_lk0, zIx_lk1, FR_inj, PT_inj, lookD_inj, PA_inj, PAs_inj, okd_FR, eqD_FR, okd_PT, eqD_PT, zSl_tup, cutD_1, cutD_to1, D.tup.injEq, D.lst.injEq, D.ref.injEq, ne_eq, zSeq_asg, zSeq_iff, zSeq_ret, zSeq_retN, zSeq_expr, zSeq_next, zSeq_seq, zSeq_never, zSeq_whl, zSeq_for, zSeq_aug, zNext_nx, zEnds_nx, zEnds_rt]
    refine ⟨mulOk bt.n bst.d (by decide), mulOk bst.n bt.d (by decide), mulOk bt.d bst.d (by decide), den_mul t st, badd (bmul bt.n bst.d (Nat.le_refl _)) (bmul bst.n bt.d (Nat.le_refl _)) (by decide), bmul bt.d bst.d (by decide), ?_⟩
    rw [fr_add]
    obtain ⟨c1, c2⟩ := chain_next hc ht (by omega) bpt hst bst
    refine hK _ _ ⟨done ++ [(t, pt)], t + st, ys3, k + 4 + 1, _, _, rfl, ?_, hy3, by omega, ?_, c2, c1⟩
    · rw [List.map_append]; rfl
    · rw [List.length_append, List.length_singleton]; omega
  · rintro s M' ⟨done, t, ys, k, x4, x5, rfl, rfl, hp, hk, hl, ht, hc⟩
    simp only [kont, zTup1_m, rdCs, rdC, rd, rds, rdc, rdo, rdg, rdgs, rdi, rdAV, rdAT, rdOV, rdOT, ofV, mkT, testV, zVar, slot, zCst, zBin, zUn, zChain, zAndV, zOrV, zAndT, zOrT, zNotV, zNotT, zIte, zIteT, zTup, zTupS, zANil, zACons, zAStar, zCall, zCallK, zONone, zOSome, zSlice, zBitsD, zGName, zGTup_tup, zGTup_lst, zGTup_FR, zGsNil, zGsCons,  zSetD, zGItem, zISeq, zIRng, zIZip, zIEnum, zYes, zAugD, zstart, zOp, zAdd, zSub, zMul, zFdiv, zMod, zPow, zShl, zCo, zEq, zNe, zIntC, zIs, zIsn, Zz.isNon, zBi, zLen, zAbs, zNegD, zTru, zBl, zRgL, zInt1, zMax2, zMin2, itemsOf, Zz.listOfD, Tgs.len, List.map_cons, List.map_nil, List.length_cons, List.length_nil, List.replicate_succ, List.replicate_zero, List.cons_append, List.nil_append, List.append_nil, List.set_cons_zero, List.set_cons_succ, Nat.sub_self, Nat.reduceSub, Nat.reduceAdd, reduceIte, Bool.false_eq_true, zIx_t0, zIx_t1, zIx_t2, zIx_t3, Bool.not_true, Bool.not_false, G, ctr, cst, zIsi_int, zIsi_tup, zIsi_lst, zIsi_bl, isTy, Option.some.injEq, exists_eq_left', List.cons.injEq, D.int.injEq, and_true, true_and, exists_and_left, and_self, okd_int, eqD_int, zComp, zwipe, zIx_fr0, zIx_fr1, Bool.true_and, Bool.and_true, decide_eq_true_eq, and_assoc, zIx_pt0, zIx_pt1, zIx_lk0, zIx_lk1, FR_inj, PT_inj, lookD_inj, PA_inj, PAs_inj, okd_FR, eqD_FR, okd_PT, eqD_PT, zSl_tup, cutD_1, cutD_to1, D.tup.injEq, D.lst.injEq, D.ref.injEq, ne_eq, zSeq_asg, zSeq_iff, zSeq_ret, zSeq_retN, zSeq_expr, zSeq_next, zSeq_seq, zSeq_never, kSeq_whl, kSeq_for, zSeq_aug, zNext_nx, zEnds_nx, zEnds_rt]
    rw [List.length_nil] at hk hl
    have gw : GoodWay done := by
      rcases hc with ⟨rfl, _⟩ | ⟨d, y, e, hh, hg, _⟩
      · rw [List.length_nil] at hl; omega
      · exact ⟨by omega, by omega, hh, hg⟩
    refine ⟨mup M p (.lst ys), sub_mup (by rw [mup_ne hap]; exact han), ?_⟩
    exact w done gw ys (pot_mono (by omega) hp)
  · unfold rgD
    rw [List.length_map, List.length_range]
    omega
  · unfold rgD
    rw [List.length_map, List.length_range]
    show 0 + _ = _
    omega
  · refine ⟨12 * ((d : Int) - 2), ?_, by omega⟩
    rw [Rat.intCast_mul]
    have : ((12 : Int) : Rat) = 12 := rfl
    rw [this]
    generalize (((d : Int) - 2 : Int) : Rat) = a
    grind
theorem law_m {m s v : Rat} (hv : 0 < v) : (((m.num * s.den * v.num : Int)) : Rat) / ((m.den * s.den * v.num : Int) : Rat) = m := by
  have em := mul_den m
  have sd : (s.den : Rat) ≠ 0 := fun e => s.den_nz (Rat.natCast_eq_zero_iff.mp e)
  have md : (m.den : Rat) ≠ 0 := fun e => m.den_nz (Rat.natCast_eq_zero_iff.mp e)
  have vn : (v.num : Rat) ≠ 0 := Rat.ne_of_gt (Rat.intCast_pos.mpr (num_pos.mpr hv))
  rw [Rat.intCast_mul, Rat.intCast_mul, Rat.intCast_mul, Rat.intCast_mul, ← em, Rat.intCast_natCast, Rat.intCast_natCast]
  generalize (m.den : Rat) = x at *
  generalize (s.den : Rat) = y at *
  generalize (v.num : Rat) = z at *
  grind
theorem law_s {m s v : Rat} (hv : 0 < v) : (((m.den * v.den : Int)) : Rat) * ((m.den * v.den : Int) : Rat) * ((s.num * s.den : Int) : Rat) / (((m.den * s.den * v.num : Int) : Rat) * ((m.den * s.den * v.num : Int) : Rat)) = s / (v * v) := by
  have es := mul_den s
  have ev := mul_den v
  have sd : (s.den : Rat) ≠ 0 := fun e => s.den_nz (Rat.natCast_eq_zero_iff.mp e)
  have md : (m.den : Rat) ≠ 0 := fun e => m.den_nz (Rat.natCast_eq_zero_iff.mp e)
  have vd : (v.den : Rat) ≠ 0 := fun e => v.den_nz (Rat.natCast_eq_zero_iff.mp e)
  have v0 : v ≠ 0 := Rat.ne_of_gt hv
  rw [Rat.intCast_mul, Rat.intCast_mul, Rat.intCast_mul, Rat.intCast_mul, ← es, ← ev, Rat.intCast_natCast, Rat.intCast_natCast, Rat.intCast_natCast]
  generalize (m.den : Rat) = x at *
  generalize (s.den : Rat) = y at *
  generalize (v.den : Rat) = z at *
  grind
variable {w : List Rep} {v : Rat} {l : List (List P2)} {x st : Rat}
theorem latest_num (h : Task w v l x st) {t : Rat} (o : OnWay w t) : Num ((t + x).num * (wSq w l t).den * v.num) ((t + x).den * v.den) ((wSq w l t).num * (wSq w l t).den) ((t + x).den * (wSq w l t).den * v.num) := by
  have bt : B 17 (t + x) := o.tw.b.add h.bx
  have bl : B 1157 (wSq w l t) := B_least (BP_place h.gw o) h.gl
  have ln : 0 ≤ wSq w l t := least_nonneg h.gl
  have vn : 0 < v.num := num_pos.mpr h.vp
  exact ⟨Int.le_of_lt (Int.mul_pos (Int.natCast_pos.mpr (t + x).den_pos) (Int.natCast_pos.mpr v.den_pos)), Int.mul_nonneg (Rat.num_nonneg.mpr ln) (Int.natCast_nonneg _), Int.mul_pos (Int.mul_pos (Int.natCast_pos.mpr (t + x).den_pos) (Int.natCast_pos.mpr (wSq w l t).den_pos)) vn,
    bmul (bmul bt.n bl.d (Nat.le_refl _)) h.bv.n (by decide), bmul bt.d h.bv.d (by decide), bmul bl.n bl.d (by decide), bmul (bmul bt.d bl.d (Nat.le_refl _)) h.bv.n (by decide)⟩
theorem latest_M (h : Task w v l x st) {t : Rat} : numM ((t + x).num * (wSq w l t).den * v.num) ((t + x).den * (wSq w l t).den * v.num) = t + x := law_m h.vp
theorem latest_S (h : Task w v l x st) {t : Rat} : numS ((t + x).den * v.den) ((wSq w l t).num * (wSq w l t).den) ((t + x).den * (wSq w l t).den * v.num) = wSq w l t / (v * v) := law_s h.vp
theorem p_law_own_plan : ∀ ds M q, c_law_own_plan ds M q → rdCs G ir__law_own_plan (zEnds q) (zstart N__law_own_plan ds) M := by
  rintro ds M Q ⟨w, v, l, x, st, rfl, h, hw⟩
  have b3 := h.gw.bf
  have bl := h.gw.twl.b
  have bst := B_st h.sc
  simp only [ir__law_own_plan, N__law_own_plan, zLst, zIx_f h.gw, rdCs, rdC, rd, rds, rdc, rdo, rdg, rdgs, rdi, rdAV, rdAT, rdOV, rdOT, ofV, mkT, testV, zVar, slot, zCst, zBin, zUn, zChain, zAndV, zOrV, zAndT, zOrT, zNotV, zNotT, zIte, zIteT, zTup, zTupS, zANil, zACons, zAStar, zCall, zCallK, zONone, zOSome, zSlice, zBitsD, zGName, zGTup_tup, zGTup_lst, zGTup_FR, zGsNil, zGsCons,  zSetD, zGItem, zISeq, zIRng, zIZip, zIEnum, zYes, zAugD, zstart, zOp, zAdd, zSub, zMul, zFdiv, zMod, zPow, zShl, zCo, zEq, zNe, zIntC, zIs, zIsn, Zz.isNon, zBi, zLen, zAbs, zNegD, zTru, zBl, zRgL, zInt1, zMax2, zMin2, itemsOf, Zz.listOfD, Tgs.len, List.map_cons, List.map_nil, List.length_cons, List.length_nil, List.replicate_succ, List.replicate_zero, List.cons_append, List.nil_append, List.append_nil, List.set_cons_zero, List.set_cons_succ, Nat.sub_self, Nat.reduceSub, Nat.reduceAdd, reduceIte, Bool.false_eq_true, zIx_t0, zIx_t1, zIx_t2, zIx_t3, Bool.not_true, Bool.not_false, G, ctr, cst, zIsi_int, zIsi_tup, zIsi_lst, zIsi_bl, isTy, Option.some.injEq, exists_eq_left', List.cons.injEq, D.int.injEq, and_true, true_and, exists_and_left, and_self, okd_int, eqD_int, zComp, zwipe, zIx_fr0, zIx_fr1, Bool.true_and, Bool.and_true, decide_eq_true_eq, and_assoc, zIx_pt0, zIx_pt1, zIx_lk0, zIx_lk1, FR_inj, PT_inj, lookD_inj, PA_inj, PAs_inj, okd_FR, eqD_FR, okd_PT, eqD_PT, zSl_tup, cutD_1, cutD_to1, D.tup.injEq, D.lst.injEq, D.ref.injEq, ne_eq, zSeq_asg, zSeq_iff, zSeq_ret, zSeq_retN, zSeq_expr, zSeq_next, zSeq_seq, zSeq_never, kSeq_whl, kSeq_for, zSeq_aug, zNext_nx, zEnds_nx, zEnds_rt]
  intro p hp
  refine zWhl_gen (fun n s M' => ∃ pre j, n + j = 101 ∧ Sofar w v l x st pre j ∧ M' = mup M p (.lst ((pre ++ [firstT w + (j : Rat) * st]).map FR)) ∧
    ∃ x6 x7, s = [some (wayD w), some (FR v), some (PAs l), some (FR x), some (FR st), some (.ref p), x6, x7]) ?_ 101 _ _ ⟨[], 0, rfl, sofar0 h, by rw [grid0]; rfl, _, _, rfl⟩
  rintro n s M' X ⟨pre, j, hn, sf, rfl, x6, x7, rfl⟩ hX
  have o := onWay_grid h sf.le
  have jl := grid_le h sf.le
  have hd := h.asked o
  have fin := fun lt => hw _ (sf.done lt)
  have nx := sf.next h
  have len : (((pre ++ [firstT w + (j : Rat) * st]).map FR).length : Int) < 200 := by
    have := sf.len
    rw [List.length_map, List.length_append, List.length_singleton]; omega
  rw [List.map_append, show List.map FR [firstT w + (j : Rat) * st] = [FR (firstT w + (j : Rat) * st)] from rfl] at len ⊢
  have zl : ∀ (K : KD), zLen [.ref p] (mup M p (.lst (pre.map FR ++ [FR (firstT w + (j : Rat) * st)]))) K = K (.int ((pre.map FR ++ [FR (firstT w + (j : Rat) * st)]).length : Nat)) (mup M p (.lst (pre.map FR ++ [FR (firstT w + (j : Rat) * st)]))) := fun K => by
    refine propext ⟨fun ⟨ys, e, w⟩ => ?_, fun w => ⟨_, items_m, w⟩⟩
    rw [items_m] at e; cases e; exact w
  simp only [rdCs, rdC, rd, rds, rdc, rdo, rdg, rdgs, rdi, rdAV, rdAT, rdOV, rdOT, ofV, mkT, testV, zVar, slot, zCst, zBin, zUn, zChain, zAndV, zOrV, zAndT, zOrT, zNotV, zNotT, zIte, zIteT, zTup, zTupS, zANil, zACons, zAStar, zCall, zCallK, zONone, zOSome, zSlice, zBitsD, zGName, zGTup_tup, zGTup_lst, zGTup_FR, zGsNil, zGsCons,  zSetD, zGItem, zISeq, zIRng, zIZip, zIEnum, zYes, zAugD, zstart, zOp, zAdd, zSub, zMul, zFdiv, zMod, zPow, zShl, zCo, zEq, zNe, zIntC, zIs, zIsn, Zz.isNon, zBi, zLen, zAbs, zNegD, zTru, zBl, zRgL, zInt1, zMax2, zMin2, itemsOf, Zz.listOfD, Tgs.len, List.map_cons, List.map_nil, List.length_cons, List.length_nil, List.replicate_succ, List.replicate_zero, List.cons_append, List.nil_append, List.append_nil, List.set_cons_zero, List.set_cons_succ, Nat.sub_self, Nat.reduceSub, Nat.reduceAdd, reduceIte, Bool.false_eq_true, zIx_t0, zIx_t1, zIx_t2, zIx_t3, Bool.not_true, Bool.not_false, G, ctr, cst, zIsi_int, zIsi_tup, zIsi_lst, zIsi_bl, isTy, Option.some.injEq, exists_eq_left', List.cons.injEq, D.int.injEq, and_true, true_and, exists_and_left, and_self, okd_int, eqD_int, zComp, zwipe, zIx_fr0, zIx_fr1, Bool.true_and, Bool.and_true, decide_eq_true_eq, and_assoc, zIx_pt0, zIx_pt1, zIx_lk0, zIx_lk1, FR_inj, PT_inj, lookD_inj, PA_inj, PAs_inj, okd_FR, eqD_FR, okd_PT, eqD_PT, zSl_tup, cutD_1, cutD_to1, D.tup.injEq, D.lst.injEq, D.ref.injEq, ne_eq, zSeq_asg, zSeq_iff, zSeq_ret, zSeq_retN, zSeq_expr, zSeq_next, zSeq_seq, zSeq_never, zSeq_whl, zSeq_for, zSeq_aug, zNext_nx, zEnds_nx, zEnds_rt, -zLen, zl]
  rw [if_pos len]
  simp only [zIx_ml, zIx_f h.gw, zIx_l h.gw, c_at_of, c_law_latest, c_law_steps_to, c_law_at_most, c2, zMeth, isMuL_m, zAppD_m, zTup1_m, wayD_inj, rdCs, rdC, rd, rds, rdc, rdo, rdg, rdgs, rdi, rdAV, rdAT, rdOV, rdOT, ofV, mkT, testV, zVar, slot, zCst, zBin, zUn, zChain, zAndV, zOrV, zAndT, zOrT, zNotV, zNotT, zIte, zIteT, zTup, zTupS, zANil, zACons, zAStar, zCall, zCallK, zONone, zOSome, zSlice, zBitsD, zGName, zGTup_tup, zGTup_lst, zGTup_FR, zGsNil, zGsCons,  zSetD, zGItem, zISeq, zIRng, zIZip, zIEnum, zYes, zAugD, zstart, zOp, zAdd, zSub, zMul, zFdiv, zMod, zPow, zShl, zCo, zEq, zNe, zIntC, zIs, zIsn, Zz.isNon, zBi, zLen, zAbs, zNegD, zTru, zBl, zRgL, zInt1, zMax2, zMin2, itemsOf, Zz.listOfD, Tgs.len, List.map_cons, List.map_nil, List.length_cons, List.length_nil, List.replicate_succ, List.replicate_zero, List.cons_append, List.nil_append, List.append_nil, List.set_cons_zero, List.set_cons_succ, Nat.sub_self, Nat.reduceSub, Nat.reduceAdd, reduceIte, Bool.false_eq_true, zIx_t0, zIx_t1, zIx_t2, zIx_t3, Bool.not_true, Bool.not_false, G, ctr, cst, zIsi_int, zIsi_tup, zIsi_lst, zIsi_bl, isTy, Option.some.injEq, exists_eq_left', List.cons.injEq, D.int.injEq, and_true, true_and, exists_and_left, and_self, okd_int, eqD_int, zComp, zwipe, zIx_fr0, zIx_fr1, Bool.true_and, Bool.and_true, decide_eq_true_eq, and_assoc, zIx_pt0, zIx_pt1, zIx_lk0, zIx_lk1, FR_inj, PT_inj, lookD_inj, PA_inj, PAs_inj, okd_FR, eqD_FR, okd_PT, eqD_PT, zSl_tup, cutD_1, cutD_to1, D.tup.injEq, D.lst.injEq, D.ref.injEq, ne_eq, zSeq_asg, zSeq_iff, zSeq_ret, zSeq_retN, zSeq_expr, zSeq_next, zSeq_seq, zSeq_never, zSeq_whl, zSeq_for, zSeq_aug, zNext_nx, zEnds_nx, zEnds_rt]
  refine ⟨h.gw, o, _, _, rfl, hd, fun i _ => ⟨_, _, _, _, rfl, b3.mono (by decide), bst.mono (by decide), latest_num h o, ?_, h.st0, ⟨2 ^ 1500, Nat.le_refl _, ?_⟩, fun k hk => ?_⟩⟩
  · have := first_LeM h o (s := wSq w l (firstT w + (j : Rat) * st) / (v * v))
    rw [← latest_M h (t := firstT w + (j : Rat) * st), ← latest_S h (t := firstT w + (j : Rat) * st)] at this
    exact this
  · have := due_far h o
    rw [← latest_M h (t := firstT w + (j : Rat) * st), ← latest_S h (t := firstT w + (j : Rat) * st)] at this
    exact this
  · have hk : IsK (firstT w) st (firstT w + (j : Rat) * st + x) (wSq w l (firstT w + (j : Rat) * st) / (v * v)) k := by
      rw [← latest_M h (t := firstT w + (j : Rat) * st), ← latest_S h (t := firstT w + (j : Rat) * st)]
      exact hk
    have ek := dueK_eq h o hk
    subst ek
    have bd := B_due h o
    have bk := B_nat (dueK_lt h o) (by decide)
    have ed : firstT w + st * (dueK w v l x st (firstT w + (j : Rat) * st) : Rat) = due w v l x st (firstT w + (j : Rat) * st) := by
      rw [Rat.mul_comm st]; rfl
    refine ⟨(dueK w v l x st (firstT w + (j : Rat) * st) : Rat), rfl, bst.mono (by decide), bk.mono (by decide), b3.mono (by decide), (bst.mul bk).mono (by decide), ?_, bl.mono (by decide), ?_⟩
    · rw [ed]; exact bd.mono (by decide)
    rw [ed]
    by_cases cc : lastT w < due w v l x st (firstT w + (j : Rat) * st)
    · rw [if_pos (by rw [decide_eq_false (Rat.not_le.mpr cc)]; rfl)]
      refine ⟨M, sub_mup hp, ?_⟩
      have := fin cc
      rw [List.map_append] at this
      exact this
    · have cc := Rat.not_lt.mp cc
      rw [if_neg (by rw [decide_eq_true cc]; decide)]
      obtain ⟨n1, n2⟩ := nx cc
      have n3 := grid_le h n1.le
      refine ⟨?_, hX (101 - dueK w v l x st (firstT w + (j : Rat) * st)) _ _ (by omega) ⟨_, _, by omega, n1, ?_, _, _, rfl⟩⟩
      · have : (200 : Nat) < sizeLine := by decide
        omega
      · rw [List.map_append, List.map_append]; rfl
theorem plan_len (h : Task w v l x st) : ∀ (xs : List Rat) (j : Nat), firstT w + (j : Rat) * st ≤ lastT w → IsPlan (due w v l x st) (lastT w) (firstT w + (j : Rat) * st) xs → xs.length + j ≤ 101
  | [], _, _, p => p.elim
  | [_], j, hj, _ => by
    have := grid_le h hj
    rw [List.length_singleton]; omega
  | y :: z :: r, j, hj, p => by
    have o := onWay_grid h hj
    have ge := dueK_ge h o rfl
    have := plan_len h (z :: r) (dueK w v l x st (firstT w + (j : Rat) * st)) p.2.1 p.2.2
    rw [List.length_cons]; omega
theorem isK_self {f st : Rat} (st0 : 0 < st) (j : Nat) : IsK f st (f + (j : Rat) * st) 0 j := by
  refine ⟨.inl Rat.le_refl, ?_⟩
  rw [cast_succ]
  rintro (z | z)
  · generalize (j : Rat) = a at *
    grind
  · have e : f + ((j : Rat) + 1) * st - (f + (j : Rat) * st) = st := by grind
    rw [e] at z
    have := Rat.mul_pos st0 st0
    exact absurd z (Rat.not_le.mpr this)
theorem p_law_fewer_by_chance : ∀ ds M q, c_law_fewer_by_chance ds M q → rdCs G ir__law_fewer_by_chance (zEnds q) (zstart N__law_fewer_by_chance ds) M := by
  rintro ds M Q ⟨p, w, v, l, x, st, k, n, rfl, ⟨h1, n1, h, xs, hxs, hk⟩, hw⟩
  have b3 := h.gw.bf
  have bl := h.gw.twl.b
  have bst := B_st h.sc
  have kl : k ≤ 101 := by
    have := plan_len h xs 0 (by rw [grid0]; exact h.gw.fl) (by rw [grid0]; exact hxs)
    omega
  simp only [ir__law_fewer_by_chance, N__law_fewer_by_chance, zLst, zIx_f h.gw, rdCs, rdC, rd, rds, rdc, rdo, rdg, rdgs, rdi, rdAV, rdAT, rdOV, rdOT, ofV, mkT, testV, zVar, slot, zCst, zBin, zUn, zChain, zAndV, zOrV, zAndT, zOrT, zNotV, zNotT, zIte, zIteT, zTup, zTupS, zANil, zACons, zAStar, zCall, zCallK, zONone, zOSome, zSlice, zBitsD, zGName, zGTup_tup, zGTup_lst, zGTup_FR, zGsNil, zGsCons,  zSetD, zGItem, zISeq, zIRng, zIZip, zIEnum, zYes, zAugD, zstart, zOp, zAdd, zSub, zMul, zFdiv, zMod, zPow, zShl, zCo, zEq, zNe, zIntC, zIs, zIsn, Zz.isNon, zBi, zLen, zAbs, zNegD, zTru, zBl, zRgL, zInt1, zMax2, zMin2, itemsOf, Zz.listOfD, Tgs.len, List.map_cons, List.map_nil, List.length_cons, List.length_nil, List.replicate_succ, List.replicate_zero, List.cons_append, List.nil_append, List.append_nil, List.set_cons_zero, List.set_cons_succ, Nat.sub_self, Nat.reduceSub, Nat.reduceAdd, reduceIte, Bool.false_eq_true, zIx_t0, zIx_t1, zIx_t2, zIx_t3, Bool.not_true, Bool.not_false, G, ctr, cst, zIsi_int, zIsi_tup, zIsi_lst, zIsi_bl, isTy, Option.some.injEq, exists_eq_left', List.cons.injEq, D.int.injEq, and_true, true_and, exists_and_left, and_self, okd_int, eqD_int, zComp, zwipe, zIx_fr0, zIx_fr1, Bool.true_and, Bool.and_true, decide_eq_true_eq, and_assoc, zIx_pt0, zIx_pt1, zIx_lk0, zIx_lk1, FR_inj, PT_inj, lookD_inj, PA_inj, PAs_inj, okd_FR, eqD_FR, okd_PT, eqD_PT, zSl_tup, cutD_1, cutD_to1, D.tup.injEq, D.lst.injEq, D.ref.injEq, ne_eq, zSeq_asg, zSeq_iff, zSeq_ret, zSeq_retN, zSeq_expr, zSeq_next, zSeq_seq, zSeq_never, kSeq_whl, kSeq_for, zSeq_aug, zNext_nx, zEnds_nx, zEnds_rt]
  intro a ha
  obtain ⟨ys, hM, hy⟩ := h1
  have hap : a ≠ p := fun e => by rw [e, hM] at ha; cases ha
  have hpa : p ≠ a := fun e => hap e.symm
  have hMp := mup_self hM
  refine ⟨by omega, by omega, ?_⟩
  refine zLoop_d (fun r s M' => (∃ (pre : List Rat) (j : Nat) (ys : List D) (x8 x9 x10 x11 : Option D), s = [some (.ref p), some (wayD w), some (FR v), some (PAs l), some (FR x), some (FR st), some (.int k), some (.ref a), x8, x9, x10, x11] ∧
      M' = mup (mup M p (.lst ys)) a (.lst ((pre ++ [firstT w + (j : Rat) * st]).map FR)) ∧ Pot (n + pre.length) ys ∧ pre.length + r.length = k ∧
      (r ≠ [] → firstT w + (j : Rat) * st ≤ lastT w ∧ ∃ (J : Nat) (zs : List Rat), j ≤ J ∧ firstT w + (J : Rat) * st ≤ lastT w ∧ IsPlan (due w v l x st) (lastT w) (firstT w + (J : Rat) * st) zs ∧ zs.length = r.length))) ?_ ?_ (rgD 0 k) _ _
      ⟨[], 0, ys, _, _, _, _, rfl, ?_, hy, ?_, fun _ => ⟨by rw [grid0]; exact h.gw.fl, 0, xs, Nat.le_refl _, by rw [grid0]; exact h.gw.fl, by rw [grid0]; exact hxs, ?_⟩⟩
  · rintro b r s M' K ⟨pre, j, ys, x8, x9, x10, x11, rfl, rfl, hp, hl, hr⟩ hK
    obtain ⟨jle, J, zs, jJ, Jle, hpl, hzl⟩ := hr (by simp)
    rw [List.length_cons] at hl hzl
    have o := onWay_grid h jle
    have O := onWay_grid h Jle
    have jl := grid_le h jle
    have hd := h.asked o
    have mono := dueK_mono h o O (step_le (Rat.le_of_lt h.st0) jJ)
    have ge := dueK_ge h o rfl
    rw [List.map_append, show List.map FR [firstT w + (j : Rat) * st] = [FR (firstT w + (j : Rat) * st)] from rfl]
    have zl : ∀ (K : KD), zLen [.ref a] (mup (mup M p (.lst ys)) a (.lst (pre.map FR ++ [FR (firstT w + (j : Rat) * st)]))) K = K (.int ((pre.map FR ++ [FR (firstT w + (j : Rat) * st)]).length : Nat)) (mup (mup M p (.lst ys)) a (.lst (pre.map FR ++ [FR (firstT w + (j : Rat) * st)]))) := fun K => by
      refine propext ⟨fun ⟨ys, e, w⟩ => ?_, fun w => ⟨_, items_m, w⟩⟩
      rw [items_m] at e; cases e; exact w
    simp only [zIx_ml, zIx_f h.gw, zIx_l h.gw, c_at_of, c_next_of, c_law_number, c_law_steps_to, c_law_at_most, c2, zMeth, isMuL_m, wayD_inj, zl, rdCs, rdC, rd, rds, rdc, rdo, rdg, rdgs, rdi, rdAV, rdAT, rdOV, rdOT, ofV, mkT, testV, zVar, slot, zCst, zBin, zUn, zChain, zAndV, zOrV, zAndT, zOrT, zNotV, zNotT, zIte, zIteT, zTup, zTupS, zANil, zACons, zAStar, zCall, zCallK, zONone, zOSome, zSlice, zBitsD, zGName, zGTup_tup, zGTup_lst, zGTup_FR, zGsNil, zGsCons,  zSetD, zGItem, zISeq, zIRng, zIZip, zIEnum, zYes, zAugD, zstart, zOp, zAdd, zSub, zMul, zFdiv, zMod, zPow, zShl, zCo, zEq, zNe, zIntC, zIs, zIsn, Zz.isNon, zBi, zLen, zAbs, zNegD, zTru, zBl, zRgL, zInt1, zMax2, zMin2, itemsOf, Zz.listOfD, Tgs.len, List.map_cons, List.map_nil, List.length_cons, List.length_nil, List.replicate_succ, List.replicate_zero, List.cons_append, List.nil_append, List.append_nil, List.set_cons_zero, List.set_cons_succ, Nat.sub_self, Nat.reduceSub, Nat.reduceAdd, reduceIte, Bool.false_eq_true, zIx_t0, zIx_t1, zIx_t2, zIx_t3, Bool.not_true, Bool.not_false, G, ctr, cst, zIsi_int, zIsi_tup, zIsi_lst, zIsi_bl, isTy, Option.some.injEq, exists_eq_left', List.cons.injEq, D.int.injEq, and_true, true_and, exists_and_left, and_self, okd_int, eqD_int, zComp, zwipe, zIx_fr0, zIx_fr1, Bool.true_and, Bool.and_true, decide_eq_true_eq, and_assoc, zIx_pt0, zIx_pt1, zIx_lk0, zIx_lk1, FR_inj, PT_inj, lookD_inj, PA_inj, PAs_inj, okd_FR, eqD_FR, okd_PT, eqD_PT, zSl_tup, cutD_1, cutD_to1, D.tup.injEq, D.lst.injEq, D.ref.injEq, ne_eq, zSeq_asg, zSeq_iff, zSeq_ret, zSeq_retN, zSeq_expr, zSeq_next, zSeq_seq, zSeq_never, zSeq_whl, zSeq_for, zSeq_aug, zNext_nx, zEnds_nx, zEnds_rt, -zLen]
    refine ⟨h.gw, o, _, _, rfl, hd, fun d hdm => ⟨_, _, hdm, o.tw.b.add h.bx, B_wSq h o, wSq_nonneg h _, fun a2 b2 c2 r2 nm heq => ⟨_, _, _, _, rfl, b3.mono (by decide), bst.mono (by decide), nm, (heq _).mpr (first_LeM h o), h.st0, ⟨2 ^ 1500, Nat.le_refl _, fun z => due_far h o ((heq _).mp z)⟩, fun K2 hK2 => ?_⟩⟩⟩
    have hK2 : IsK (firstT w) st (firstT w + (j : Rat) * st + x) (wSq w l (firstT w + (j : Rat) * st) / (v * v)) K2 := ⟨(heq _).mp hK2.1, fun z => hK2.2 ((heq _).mpr z)⟩
    have eK := dueK_eq h o hK2
    subst eK
    have bd := B_due h o
    have bk := B_nat (dueK_lt h o) (by decide)
    have ed : firstT w + st * (dueK w v l x st (firstT w + (j : Rat) * st) : Rat) = due w v l x st (firstT w + (j : Rat) * st) := by
      rw [Rat.mul_comm st]; rfl
    refine ⟨(dueK w v l x st (firstT w + (j : Rat) * st) : Rat), rfl, bst.mono (by decide), bk.mono (by decide), b3.mono (by decide), (bst.mul bk).mono (by decide), ?_, bl.mono (by decide), ?_⟩
    · rw [ed]; exact bd.mono (by decide)
    rw [ed]
    by_cases cc : lastT w < due w v l x st (firstT w + (j : Rat) * st)
    · rw [if_pos (by rw [decide_eq_false (Rat.not_le.mpr cc)]; rfl)]
      refine ⟨pre.map FR ++ [FR (firstT w + (j : Rat) * st)], by rw [mup_same], mup M p (.lst ys), sub_mup (by rw [mup_ne hap]; exact ha), ?_⟩
      have CC : lastT w < due w v l x st (firstT w + (J : Rat) * st) := Rat.not_le.mp fun z => Rat.not_lt.mpr (Rat.le_trans (step_le (Rat.le_of_lt h.st0) mono) z) cc
      have z1 : zs.length = 1 := by
        match zs, hpl with
        | [_], _ => rfl
        | _ :: _ :: _, pl => exact absurd pl.2.1 (Rat.not_le.mpr CC)
      have ef : decide ((((pre.map FR ++ [FR (firstT w + (j : Rat) * st)]).length : Nat) : Int) < (k : Int)) = false := by
        refine decide_eq_false ?_
        rw [List.length_append, List.length_map, List.length_singleton]; omega
      rw [ef]
      exact hw _
    · have cc := Rat.not_lt.mp cc
      rw [if_neg (by rw [decide_eq_true cc]; decide)]
      have bt := o.tw.b
      refine ⟨_, _, _, _, rfl, b3.mono (by decide), bst.mono (by decide), num_fr bt (by decide), by rw [numM_fr, numS_0]; exact .inl o.ge, h.st0, ⟨j + 1, Nat.le_trans (by omega : j + 1 ≤ 101) (by decide +kernel), by rw [numM_fr, numS_0]; exact (isK_self h.st0 j).2⟩, fun g hg => ?_⟩
      rw [numM_fr, numS_0] at hg
      obtain rfl : g = j := isK_unique (Rat.le_of_lt h.st0) hg (isK_self h.st0 j)
      have lp : pre.length ≤ 101 := by omega
      simp only [c_law_take, rdCs, rdC, rd, rds, rdc, rdo, rdg, rdgs, rdi, rdAV, rdAT, rdOV, rdOT, ofV, mkT, testV, zVar, slot, zCst, zBin, zUn, zChain, zAndV, zOrV, zAndT, zOrT, zNotV, zNotT, zIte, zIteT, zTup, zTupS, zANil, zACons, zAStar, zCall, zCallK, zONone, zOSome, zSlice, zBitsD, zGName, zGTup_tup, zGTup_lst, zGTup_FR, zGsNil, zGsCons,  zSetD, zGItem, zISeq, zIRng, zIZip, zIEnum, zYes, zAugD, zstart, zOp, zAdd, zSub, zMul, zFdiv, zMod, zPow, zShl, zCo, zEq, zNe, zIntC, zIs, zIsn, Zz.isNon, zBi, zLen, zAbs, zNegD, zTru, zBl, zRgL, zInt1, zMax2, zMin2, itemsOf, Zz.listOfD, Tgs.len, List.map_cons, List.map_nil, List.length_cons, List.length_nil, List.replicate_succ, List.replicate_zero, List.cons_append, List.nil_append, List.append_nil, List.set_cons_zero, List.set_cons_succ, Nat.sub_self, Nat.reduceSub, Nat.reduceAdd, reduceIte, Bool.false_eq_true, zIx_t0, zIx_t1, zIx_t2, zIx_t3, Bool.not_true, Bool.not_false, G, ctr, cst, zIsi_int, zIsi_tup, zIsi_lst, zIsi_bl, isTy, Option.some.injEq, exists_eq_left', List.cons.injEq, D.int.injEq, and_true, true_and, exists_and_left, and_self, okd_int, eqD_int, zComp, zwipe, zIx_fr0, zIx_fr1, Bool.true_and, Bool.and_true, decide_eq_true_eq, and_assoc, zIx_pt0, zIx_pt1, zIx_lk0, zIx_lk1, FR_inj, PT_inj, lookD_inj, PA_inj, PAs_inj, okd_FR, eqD_FR, okd_PT, eqD_PT, zSl_tup, cutD_1, cutD_to1, D.tup.injEq, D.lst.injEq, D.ref.injEq, ne_eq, zSeq_asg, zSeq_iff, zSeq_ret, zSeq_retN, zSeq_expr, zSeq_next, zSeq_seq, zSeq_never, zSeq_whl, zSeq_for, zSeq_aug, zNext_nx, zEnds_nx, zEnds_rt]
      refine ⟨3, rfl, n + pre.length, ⟨ys, by rw [mup_ne hpa, mup_same], hp⟩, by decide, by decide, by omega, fun e he ys2 hy2 => ?_⟩
      rw [mup_swap hap]
      obtain ⟨j2, ej2, j21, j22⟩ : ∃ j2 : Nat, max ((g : Int) + 1) ((dueK w v l x st (firstT w + (g : Rat) * st) : Nat) - (e : Int)) = (j2 : Int) ∧ g + 1 ≤ j2 ∧ j2 ≤ dueK w v l x st (firstT w + (g : Rat) * st) := by
        refine ⟨(max ((g : Int) + 1) ((dueK w v l x st (firstT w + (g : Rat) * st) : Nat) - (e : Int))).toNat, by omega, by omega, by omega⟩
      have le2 : firstT w + (j2 : Rat) * st ≤ due w v l x st (firstT w + (g : Rat) * st) := step_le (Rat.le_of_lt h.st0) j22
      have le3 : firstT w + (j2 : Rat) * st ≤ lastT w := Rat.le_trans le2 cc
      have bj : B 1500 (j2 : Rat) := B_nat (Nat.lt_of_le_of_lt j22 (dueK_lt h o)) (by decide)
      rw [ej2]
      simp only [zAppD_m, rdCs, rdC, rd, rds, rdc, rdo, rdg, rdgs, rdi, rdAV, rdAT, rdOV, rdOT, ofV, mkT, testV, zVar, slot, zCst, zBin, zUn, zChain, zAndV, zOrV, zAndT, zOrT, zNotV, zNotT, zIte, zIteT, zTup, zTupS, zANil, zACons, zAStar, zCall, zCallK, zONone, zOSome, zSlice, zBitsD, zGName, zGTup_tup, zGTup_lst, zGTup_FR, zGsNil, zGsCons,  zSetD, zGItem, zISeq, zIRng, zIZip, zIEnum, zYes, zAugD, zstart, zOp, zAdd, zSub, zMul, zFdiv, zMod, zPow, zShl, zCo, zEq, zNe, zIntC, zIs, zIsn, Zz.isNon, zBi, zLen, zAbs, zNegD, zTru, zBl, zRgL, zInt1, zMax2, zMin2, itemsOf, Zz.listOfD, Tgs.len, List.map_cons, List.map_nil, List.length_cons, List.length_nil, List.replicate_succ, List.replicate_zero, List.cons_append, List.nil_append, List.append_nil, List.set_cons_zero, List.set_cons_succ, Nat.sub_self, Nat.reduceSub, Nat.reduceAdd, reduceIte, Bool.false_eq_true, zIx_t0, zIx_t1, zIx_t2, zIx_t3, Bool.not_true, Bool.not_false, G, ctr, cst, zIsi_int, zIsi_tup, zIsi_lst, zIsi_bl, isTy, Option.some.injEq, exists_eq_left', List.cons.injEq, D.int.injEq, and_true, true_and, exists_and_left, and_self, okd_int, eqD_int, zComp, zwipe, zIx_fr0, zIx_fr1, Bool.true_and, Bool.and_true, decide_eq_true_eq, and_assoc, zIx_pt0, zIx_pt1, zIx_lk0, zIx_lk1, FR_inj, PT_inj, lookD_inj, PA_inj, PAs_inj, okd_FR, eqD_FR, okd_PT, eqD_PT, zSl_tup, cutD_1, cutD_to1, D.tup.injEq, D.lst.injEq, D.ref.injEq, ne_eq, zSeq_asg, zSeq_iff, zSeq_ret, zSeq_retN, zSeq_expr, zSeq_next, zSeq_seq, zSeq_never, zSeq_whl, zSeq_for, zSeq_aug, zNext_nx, zEnds_nx, zEnds_rt]
      refine ⟨(j2 : Rat), rfl, bst.mono (by decide), bj.mono (by decide), b3.mono (by decide), (bst.mul bj).mono (by decide), ?_, ?_⟩
      · rw [List.length_append, List.length_map, List.length_singleton]
        have : (200 : Nat) < sizeLine := by decide
        omega
      · refine hK _ _ ⟨pre ++ [firstT w + (g : Rat) * st], j2, ys2, _, _, _, _, rfl, ?_, ?_, ?_, fun hne => ⟨le3, ?_⟩⟩
        · rw [List.map_append, List.map_append, Rat.mul_comm st]; rfl
        · rw [List.length_append, List.length_singleton, ← Nat.add_assoc]; exact hy2
        · rw [List.length_append, List.length_singleton]; omega
        · have : ∀ zs : List Rat, IsPlan (due w v l x st) (lastT w) (firstT w + (J : Rat) * st) zs → zs.length = r.length + 1 → ∃ zs2, due w v l x st (firstT w + (J : Rat) * st) ≤ lastT w ∧ IsPlan (due w v l x st) (lastT w) (due w v l x st (firstT w + (J : Rat) * st)) zs2 ∧ zs2.length = r.length
            | [], p, _ => p.elim
            | [_], _, e => absurd (List.length_eq_zero_iff.mp (Nat.succ.inj e).symm) hne
            | y :: z :: u, p, e => ⟨z :: u, p.2.1, p.2.2, Nat.succ.inj e⟩
          obtain ⟨zs2, q1, q2, q3⟩ := this zs hpl hzl
          exact ⟨dueK w v l x st (firstT w + (J : Rat) * st), zs2, Nat.le_trans j22 mono, q1, q2, q3⟩
  · rintro s M' ⟨pre, j, ys, x8, x9, x10, x11, rfl, rfl, _⟩
    simp only [kont, rdCs, rdC, rd, rds, rdc, rdo, rdg, rdgs, rdi, rdAV, rdAT, rdOV, rdOT, ofV, mkT, testV, zVar, slot, zCst, zBin, zUn, zChain, zAndV, zOrV, zAndT, zOrT, zNotV, zNotT, zIte, zIteT, zTup, zTupS, zANil, zACons, zAStar, zCall, zCallK, zONone, zOSome, zSlice, zBitsD, zGName, zGTup_tup, zGTup_lst, zGTup_FR, zGsNil, zGsCons,  zSetD, zGItem, zISeq, zIRng, zIZip, zIEnum, zYes, zAugD, zstart, zOp, zAdd, zSub, zMul, zFdiv, zMod, zPow, zShl, zCo, zEq, zNe, zIntC, zIs, zIsn, Zz.isNon, zBi, zLen, zAbs, zNegD, zTru, zBl, zRgL, zInt1, zMax2, zMin2, itemsOf, Zz.listOfD, Tgs.len, List.map_cons, List.map_nil, List.length_cons, List.length_nil, List.replicate_succ, List.replicate_zero, List.cons_append, List.nil_append, List.append_nil, List.set_cons_zero, List.set_cons_succ, Nat.sub_self, Nat.reduceSub, Nat.reduceAdd, reduceIte, Bool.false_eq_true, zIx_t0, zIx_t1, zIx_t2, zIx_t3, Bool.not_true, Bool.not_false, G, ctr, cst, zIsi_int, zIsi_tup, zIsi_lst, zIsi_bl, isTy, Option.some.injEq, exists_eq_left', List.cons.injEq, D.int.injEq, and_true, true_and, exists_and_left, and_self, okd_int, eqD_int, zComp, zwipe, zIx_fr0, zIx_fr1, Bool.true_and, Bool.and_true, decide_eq_true_eq, and_assoc, zIx_pt0, zIx_pt1, zIx_lk0, zIx_lk1, FR_inj, PT_inj, lookD_inj, PA_inj, PAs_inj, okd_FR, eqD_FR, okd_PT, eqD_PT, zSl_tup, cutD_1, cutD_to1, D.tup.injEq, D.lst.injEq, D.ref.injEq, ne_eq, zSeq_asg, zSeq_iff, zSeq_ret, zSeq_retN, zSeq_expr, zSeq_next, zSeq_seq, zSeq_never, kSeq_whl, kSeq_for, zSeq_aug, zNext_nx, zEnds_nx, zEnds_rt]
    exact ⟨mup M p (.lst ys), sub_mup (by rw [mup_ne hap]; exact ha), hw ys⟩
  · rw [grid0, ← hMp]; rfl
  · unfold rgD
    rw [List.length_map, List.length_range]
    show 0 + _ = _
    omega
  · unfold rgD
    rw [List.length_map, List.length_range]
    omega
end K46
end
section
/-! K46w: the law. -/
namespace Zz
open PySem PySem.Spec PyProof.Rows L2
open PySem.Builtin.Int (intBits)
def pyFR (r : Rat) : PyData := .tuple [.int r.num, .int r.den]
theorem toPys_FRs : ∀ xs : List Rat, toPys (xs.map FR) = xs.map pyFR
  | [] => rfl
  | x :: xs => by
    rw [List.map_cons]
    unfold toPys
    rw [toPys_FRs xs]; rfl
theorem showable_FRs : ∀ xs : List Rat, (∀ r ∈ xs, B 1920 r) → PyData.showableAll (xs.map pyFR) = true
  | [], _ => rfl
  | x :: xs, h => by
    have hx := h x List.mem_cons_self
    rw [List.map_cons]
    unfold PyData.showableAll
    rw [showable_FRs xs fun i hi => h i (List.mem_cons_of_mem _ hi), Bool.and_true]
    unfold pyFR PyData.showable
    exact showableAll_ints [x.num, (x.den : Int)] fun i hi => by
      have e : i = x.num ∨ i = x.den := by simpa using hi
      rcases e with e | e
      · rw [e]; exact hx.n
      · rw [e]; exact hx.d
theorem short_FRs : ∀ xs : List Rat, (∀ r ∈ xs, B 1920 r) → PyData.leavesShortAll 1921 (xs.map pyFR) = true
  | [], _ => rfl
  | x :: xs, h => by
    have hx := h x List.mem_cons_self
    rw [List.map_cons]
    unfold PyData.leavesShortAll
    rw [short_FRs xs fun i hi => h i (List.mem_cons_of_mem _ hi), Bool.and_true]
    unfold pyFR PyData.leavesShort
    exact short_ints [x.num, (x.den : Int)] fun i hi => by
      have e : i = x.num ∨ i = x.den := by simpa using hi
      rcases e with e | e
      · rw [e]; exact hx.n
      · rw [e]; exact hx.d
theorem bulk_FRs : ∀ xs : List Rat, PyData.bulkAll (xs.map pyFR) = 3 * xs.length
  | [] => rfl
  | x :: xs => by
    rw [List.map_cons]
    unfold PyData.bulkAll
    rw [bulk_FRs xs, List.length_cons]
    have : (pyFR x).bulk = 2 := by
      unfold pyFR PyData.bulk
      exact bulk_ints [x.num, (x.den : Int)]
    rw [this]
    omega
theorem show_FRs {xs : List Rat} (h : ∀ r ∈ xs, B 1920 r) (hl : xs.length ≤ 1000) : ShowOk (.tup (xs.map FR)) := by
  have e : toPy (.tup (xs.map FR)) = .tuple (xs.map pyFR) := by
    show PyData.tuple (toPys (xs.map FR)) = _
    rw [toPys_FRs]
  refine ⟨?_, ?_, ?_⟩
  · unfold okd
    exact okd_FRs xs
  · rw [e]
    unfold PyData.showable
    exact showable_FRs xs h
  · rw [e]
    have := PyData.shown_le_bulk 1921 (by decide) (.tuple (xs.map pyFR)) (by unfold PyData.leavesShort; exact short_FRs xs h)
    have hb : PyData.bulk (.tuple (xs.map pyFR)) = 3 * xs.length := by unfold PyData.bulk; exact bulk_FRs xs
    rw [hb] at this
    have : (16000000 : Nat) ≤ sizeLine := by decide
    omega
theorem strOk_FR (x : Rat) : PyData.strOk (pyFR x).shown = true := strOk_ints [x.num, (x.den : Int)]
theorem strOk_FRs (xs : List Rat) : PyData.strOk (toPy (.tup (xs.map FR))).shown = true := by
  have e : toPy (.tup (xs.map FR)) = .tuple (xs.map pyFR) := by
    show PyData.tuple (toPys (xs.map FR)) = _
    rw [toPys_FRs]
  rw [e]
  have es : ∀ xs : List Rat, PyData.shownAll (xs.map pyFR) = xs.map fun r => (pyFR r).shown := fun xs => by
    induction xs with
    | nil => rfl
    | cons x xs ih =>
      rw [List.map_cons]
      unfold PyData.shownAll
      rw [ih]; rfl
  unfold PyData.shown
  rw [es]
  unfold tupleText
  refine strOk_app (strOk_app (strOk_of _) (strOk_join (strOk_of _) _ fun t ht => ?_)) (by split <;> exact strOk_of _)
  obtain ⟨i, hi, rfl⟩ := List.mem_map.mp ht
  exact strOk_FR i
end Zz
namespace K46
open PySem PySem.Spec PyProof.Rows L2 Zz
open PySem.Builtin.Int (intBits)
variable {w : List Rep} {v : Rat} {l : List (List P2)} {x st : Rat}
theorem eqD_self_str (x : Str) : eqD (.str x) (.str x) = true := by
  unfold eqD toPy PyData.eqv
  exact beq_self_eq_true x
def tailOf : Cs → Nat → Cs
  | c, 0 => c
  | .cons _ r, n + 1 => tailOf r n
  | c, _ => c
theorem plan_B (h : Task w v l x st) : ∀ (xs : List Rat) (j : Nat), firstT w + (j : Rat) * st ≤ lastT w → IsPlan (due w v l x st) (lastT w) (firstT w + (j : Rat) * st) xs → ∀ r ∈ xs, B 8 r
  | [], _, _, p => p.elim
  | [y], j, hj, p => fun r hr => by
    obtain rfl : r = y := by simpa using hr
    rw [p.1]; exact (onWay_grid h hj).tw.b
  | y :: z :: u, j, hj, p => fun r hr => by
    rcases List.mem_cons.mp hr with e | hr
    · rw [e, p.1]; exact (onWay_grid h hj).tw.b
    · exact plan_B h (z :: u) (dueK w v l x st (firstT w + (j : Rat) * st)) p.2.1 p.2.2 r hr
theorem right_tail (h : Task w v l x st) {p : Addr} {n : Nat} {M : Mh} {q : KD} (hM : AtPot M p n) (hn : n ≤ 100) (hq : ∀ ys, q (.bl true) (mup M p (.lst ys))) {x3 : Option D} :
    rdCs G (tailOf ir__law_right 4) (zEnds q) [some (.ref p), some (wayD w), some (PAs l), x3, some (FR x), some (FR v), some (FR st), none, none] M := by
  simp only [ir__law_right, tailOf, c_law_own_plan, c_plan, c_law_fewer_by_chance, wayD_inj, rdCs, rdC, rd, rds, rdc, rdo, rdg, rdgs, rdi, rdAV, rdAT, rdOV, rdOT, ofV, mkT, testV, zVar, slot, zCst, zBin, zUn, zChain, zAndV, zOrV, zAndT, zOrT, zNotV, zNotT, zIte, zIteT, zTup, zTupS, zANil, zACons, zAStar, zCall, zCallK, zONone, zOSome, zSlice, zBitsD, zGName, zGTup_tup, zGTup_lst, zGTup_FR, zGsNil, zGsCons,   zGItem, zISeq, zIRng, zIZip, zIEnum, zYes, zAugD, zstart, zOp, zAdd, zSub, zMul, zFdiv, zMod, zPow, zShl, zCo, zEq, zNe, zIntC, zIs, zIsn, Zz.isNon, zBi, zLen, zAbs, zNegD, zTru, zBl, zRgL, zInt1, zMax2, zMin2, itemsOf, Zz.listOfD, Tgs.len, List.map_cons, List.map_nil, List.length_cons, List.length_nil, List.replicate_succ, List.replicate_zero, List.cons_append, List.nil_append, List.append_nil, List.set_cons_zero, List.set_cons_succ, Nat.sub_self, Nat.reduceSub, Nat.reduceAdd, reduceIte, Bool.false_eq_true, zIx_t0, zIx_t1, zIx_t2, zIx_t3, Bool.not_true, Bool.not_false, G, ctr, cst, zIsi_int, zIsi_tup, zIsi_lst, zIsi_bl, isTy, Option.some.injEq, exists_eq_left', List.cons.injEq, D.int.injEq, and_true, true_and, exists_and_left, and_self, okd_int, eqD_int, zComp, zwipe, zIx_fr0, zIx_fr1, Bool.true_and, Bool.and_true, decide_eq_true_eq, and_assoc, zIx_pt0, zIx_pt1, zIx_lk0, zIx_lk1, FR_inj, PT_inj, lookD_inj, PA_inj, PAs_inj, okd_FR, eqD_FR, okd_PT, eqD_PT, zSl_tup, cutD_1, cutD_to1, D.tup.injEq, D.lst.injEq, D.ref.injEq, ne_eq, zSeq_asg, zSeq_iff, zSeq_ret, zSeq_retN, zSeq_expr, zSeq_next, zSeq_seq, zSeq_never, kSeq_whl, kSeq_for, zSeq_aug, zNext_nx, zEnds_nx, zEnds_rt, zIx_m0, zIx_m1, zIx_m2, zSetD_m0, zSetD_m2, zSl_lst, zSum_ints, mup_mup]
  refine ⟨h, fun xs hxs => ⟨h, fun ys hys => ?_⟩⟩
  obtain rfl := plan_unique hxs hys
  have hj0 : firstT w + ((0 : Nat) : Rat) * st ≤ lastT w := by rw [grid0]; exact h.gw.fl
  have hp0 : IsPlan (due w v l x st) (lastT w) (firstT w + ((0 : Nat) : Rat) * st) xs := by rw [grid0]; exact hxs
  have len := plan_len h xs 0 hj0 hp0
  have hB := plan_B h xs 0 hj0 hp0
  have sh : ShowOk (.tup (xs.map FR)) := show_FRs (fun r hr => (hB r hr).mono (by decide)) (by omega)
  have ok : okd 60 (D.str (toPy (D.tup (xs.map FR))).shown) = true := strOk_FRs xs
  refine zRepr_tup sh (zRepr_tup sh ⟨ok, ok, ?_⟩)
  rw [eqD_self_str, if_neg (by decide)]
  exact ⟨xs.length, by rw [List.length_map], n, hM, hn, h, ⟨xs, hxs, rfl⟩, fun ys => ⟨mup M p (.lst ys), sub_refl, hq ys⟩⟩
theorem turns_pot2 {a p : Addr} {s : Sl} {i : Nat} {M : Mh} {k : List D → Mh → Prop} (hap : a ≠ p) : ∀ (items : List D) (acc : List (List P2)) (n : Nat) (xs : List D), (∀ ps ∈ acc, Good ps) → acc.length + items.length ≤ 6 → n + 6 * items.length ≤ 100 → Pot n xs →
    (∀ (l : List (List P2)) (ys : List D), (∀ ps ∈ l, Good ps) → l.length = acc.length + items.length → Pot (n + 6 * items.length) ys → k (l.map PA) (mup (mup M p (.lst ys)) a (.lst (l.map PA)))) →
    zTurns a (some (.ref p) :: s) (zGName (i + 1)) zYes (zCallK c_law_drawn_patch (zACons (zVar 0) zANil) zANil) items (acc.map PA) (mup (mup M p (.lst xs)) a (.lst (acc.map PA))) k
  | [], acc, n, xs, ga, h1, h2, hp, hk => by
    unfold zTurns
    exact hk acc xs ga (by simp) (by simpa using hp)
  | x :: items, acc, n, xs, ga, h1, h2, hp, hk => by
    unfold zTurns
    simp only [rdCs, rdC, rd, rds, rdc, rdo, rdg, rdgs, rdi, rdAV, rdAT, rdOV, rdOT, ofV, mkT, testV, zVar, slot, zCst, zBin, zUn, zChain, zAndV, zOrV, zAndT, zOrT, zNotV, zNotT, zIte, zIteT, zTup, zTupS, zANil, zACons, zAStar, zCall, zCallK, zONone, zOSome, zSlice, zBitsD, zGName, zGTup_tup, zGTup_lst, zGTup_FR, zGsNil, zGsCons,  zSetD, zGItem, zISeq, zIRng, zIZip, zIEnum, zYes, zAugD, zstart, zOp, zAdd, zSub, zMul, zFdiv, zMod, zPow, zShl, zCo, zEq, zNe, zIntC, zIs, zIsn, Zz.isNon, zBi, zLen, zAbs, zNegD, zTru, zBl, zRgL, zInt1, zMax2, zMin2, itemsOf, Zz.listOfD, Tgs.len, List.map_cons, List.map_nil, List.length_cons, List.length_nil, List.replicate_succ, List.replicate_zero, List.cons_append, List.nil_append, List.append_nil, List.set_cons_zero, List.set_cons_succ, Nat.sub_self, Nat.reduceSub, Nat.reduceAdd, reduceIte, Bool.false_eq_true, zIx_t0, zIx_t1, zIx_t2, zIx_t3, Bool.not_true, Bool.not_false, G, ctr, cst, zIsi_int, zIsi_tup, zIsi_lst, zIsi_bl, isTy, Option.some.injEq, exists_eq_left', List.cons.injEq, D.int.injEq, and_true, true_and, exists_and_left, and_self, okd_int, eqD_int, zComp, zwipe, zIx_fr0, zIx_fr1, Bool.true_and, Bool.and_true, decide_eq_true_eq, and_assoc, zIx_pt0, zIx_pt1, zIx_lk0, zIx_lk1, FR_inj, PT_inj, lookD_inj, PA_inj, PAs_inj, okd_FR, eqD_FR, okd_PT, eqD_PT, zSl_tup, cutD_1, cutD_to1, D.tup.injEq, D.lst.injEq, D.ref.injEq, ne_eq, zSeq_asg, zSeq_iff, zSeq_ret, zSeq_retN, zSeq_expr, zSeq_next, zSeq_seq, zSeq_never, zSeq_whl, zSeq_for, zSeq_aug, zNext_nx, zEnds_nx, zEnds_rt]
    rw [List.length_cons] at h1 h2
    refine ⟨p, n, rfl, ⟨⟨xs, by rw [mup_ne (fun e => hap e.symm), mup_same], hp⟩, by omega⟩, fun ps gps ys hy => ?_⟩
    rw [mup_swap hap]
    refine ⟨mup_same, ?_, ?_⟩
    · rw [List.length_map]
      have : (6 : Nat) < sizeLine := by decide
      omega
    · rw [mup_mup, ← List.map_singleton, ← List.map_append]
      refine turns_pot2 hap items (acc ++ [ps]) (n + 6) ys (fun q hq => ?_) (by rw [List.length_append, List.length_singleton]; omega) (by omega) hy (fun l zs gl hl hz => hk l zs gl ?_ ?_)
      · rcases List.mem_append.mp hq with hq | hq
        · exact ga q hq
        · obtain rfl : q = ps := by simpa using hq
          exact gps
      · rw [hl, List.length_append, List.length_singleton, List.length_cons]; omega
      · rw [List.length_cons]
        have : n + 6 + 6 * items.length = n + 6 * (items.length + 1) := by omega
        rw [← this]; exact hz
theorem task_of {w : List Rep} {v : Rat} {l : List (List P2)} {x st : Rat} (gw : GoodWay w) (bv : B 8 v) (vp : 0 < v) (gl : GoodAll l) (bx : B 8 x) (xp : 0 < x) (sc : ∃ c : Nat, st = (c : Rat) / 12 ∧ 3 ≤ c ∧ c ≤ 24) (sx : st ≤ x) (slow : ∀ l ∈ legs w, slowLeg v l) : Task w v l x st := by
  obtain ⟨c, e, c3, c24⟩ := sc
  refine ⟨gw, bv, vp, gl, bx, xp, ⟨c, e, by omega, c24⟩, sx, slow, ?_⟩
  obtain ⟨i, ei, hi⟩ := gw.first
  obtain ⟨n, en, hn⟩ := gw.twl
  have ei : firstT w = (i : Rat) := ei
  have h1 : ((3 : Nat) : Rat) ≤ (c : Rat) := Rat.natCast_le_natCast.mpr c3
  have h1 : (3 : Rat) ≤ (c : Rat) := h1
  have h2 : ((-2 : Int) : Rat) ≤ (i : Rat) := Rat.intCast_le_intCast.mpr (by omega)
  have h2 : (-2 : Rat) ≤ (i : Rat) := h2
  have h3 : (n : Rat) ≤ ((255 : Int) : Rat) := Rat.intCast_le_intCast.mpr (by omega)
  have h3 : (n : Rat) ≤ 255 := h3
  rw [ei, en, e]
  generalize (c : Rat) = a at *
  generalize (i : Rat) = b at *
  generalize (n : Rat) = d at *
  grind
theorem p_law_right : ∀ ds M q, c_law_right ds M q → rdCs G ir__law_right (zEnds q) (zstart N__law_right ds) M := by
  rintro ds M q ⟨p, rfl, h1, w⟩
  obtain ⟨T, hT⟩ : ∃ T, T = rdCs G (tailOf ir__law_right 4) := ⟨_, rfl⟩
  have key : ∀ (wy : List Rep) (v : Rat) (l : List (List P2)) (u st : Rat) (x3 : Option D) (n : Nat) (xs : List D), Task wy v l u st → Pot n xs → n ≤ 100 → T (zEnds q) [some (.ref p), some (wayD wy), some (PAs l), x3, some (FR u), some (FR v), some (FR st), none, none] (mup M p (.lst xs)) := fun wy v l u st x3 n xs h hp hn => by
    rw [hT]
    exact right_tail h ⟨xs, mup_same, hp⟩ hn fun ys => by rw [mup_mup]; exact w ys
  have e : ∃ c1 c2 c3 c4, rdCs G ir__law_right = zSeq (rdC G c1) (zSeq (rdC G c2) (zSeq (rdC G c3) (zSeq (rdC G c4) (rdCs G (tailOf ir__law_right 4))))) ∧ ir__law_right = .cons c1 (.cons c2 (.cons c3 (.cons c4 (tailOf ir__law_right 4)))) := ⟨_, _, _, _, rfl, rfl⟩
  obtain ⟨c1, c2, c3, c4, e1, e2⟩ := e
  rw [e1, ← hT]
  clear hT e1
  unfold ir__law_right at e2
  injection e2 with e2 e3
  injection e3 with e3 e4
  injection e4 with e4 e5
  injection e5 with e5 e6
  subst e2 e3 e4 e5
  clear e6
  simp only [N__law_right, c_law_drawn_way, c_law_take, rdCs, rdC, rd, rds, rdc, rdo, rdg, rdgs, rdi, rdAV, rdAT, rdOV, rdOT, ofV, mkT, testV, zVar, slot, zCst, zBin, zUn, zChain, zAndV, zOrV, zAndT, zOrT, zNotV, zNotT, zIte, zIteT, zTup, zTupS, zANil, zACons, zAStar, zCall, zCallK, zONone, zOSome, zSlice, zBitsD, zGName, zGTup_tup, zGTup_lst, zGTup_FR, zGsNil, zGsCons,   zGItem, zISeq, zIRng, zIZip, zIEnum, zYes, zAugD, zstart, zOp, zAdd, zSub, zMul, zFdiv, zMod, zPow, zShl, zCo, zEq, zNe, zIntC, zIs, zIsn, Zz.isNon, zBi, zLen, zAbs, zNegD, zTru, zBl, zRgL, zInt1, zMax2, zMin2, itemsOf, Zz.listOfD, Tgs.len, List.map_cons, List.map_nil, List.length_cons, List.length_nil, List.replicate_succ, List.replicate_zero, List.cons_append, List.nil_append, List.append_nil, List.set_cons_zero, List.set_cons_succ, Nat.sub_self, Nat.reduceSub, Nat.reduceAdd, reduceIte, Bool.false_eq_true, zIx_t0, zIx_t1, zIx_t2, zIx_t3, Bool.not_true, Bool.not_false, G, ctr, cst, zIsi_int, zIsi_tup, zIsi_lst, zIsi_bl, isTy, Option.some.injEq, exists_eq_left', List.cons.injEq, D.int.injEq, and_true, true_and, exists_and_left, and_self, okd_int, eqD_int, zComp, zwipe, zIx_fr0, zIx_fr1, Bool.true_and, Bool.and_true, decide_eq_true_eq, and_assoc, zIx_pt0, zIx_pt1, zIx_lk0, zIx_lk1, FR_inj, PT_inj, lookD_inj, PA_inj, PAs_inj, okd_FR, eqD_FR, okd_PT, eqD_PT, zSl_tup, cutD_1, cutD_to1, D.tup.injEq, D.lst.injEq, D.ref.injEq, ne_eq, zSeq_asg, zSeq_iff, zSeq_ret, zSeq_retN, zSeq_expr, zSeq_next, zSeq_seq, zSeq_never, kSeq_whl, kSeq_for, zSeq_aug, zNext_nx, zEnds_nx, zEnds_rt, zIx_m0, zIx_m1, zIx_m2, zSetD_m0, zSetD_m2, zSl_lst, zSum_ints, mup_mup]
  refine ⟨3, rfl, 0, h1, by decide, by decide, by decide, fun d hd ys hy => ⟨1 + d, by omega, 1, ⟨ys, mup_same, hy⟩, by omega, by omega, by decide, fun wy gw ys2 hy2 => ⟨2, rfl, 41, ⟨ys2, mup_same, hy2⟩, by decide, by decide, by decide, fun e he ys3 hy3 => ⟨by omega, by omega, ?_⟩⟩⟩⟩
  rw [mup_mup, mup_mup]
  intro a ha
  have hap : a ≠ p := fun e => by rw [e, mup_same] at ha; cases ha
  have lr : (rgD 0 (1 + (e : Int))).length = 1 + e := by unfold rgD; rw [List.length_map, List.length_range]; omega
  refine turns_pot2 hap (rgD 0 (1 + (e : Int))) [] 42 ys3 (fun q hq => absurd hq (by simp)) (by rw [lr, List.length_nil]; omega) (by rw [lr]; omega) hy3 fun l ys4 gl hl hy4 => ?_
  rw [lr, List.length_nil, Nat.zero_add] at hl
  rw [lr] at hy4
  rw [zEnd_f]
  have han : mup M p (.lst ys4) a = none := by rw [mup_ne hap]; rw [mup_ne hap] at ha; exact ha
  rw [mdel_mup han]
  have gla : GoodAll l := ⟨by omega, by omega, gl⟩
  have hy54 : Pot 54 ys4 := pot_mono (by omega) hy4
  have hPA : D.tup (l.map PA) = PAs l := rfl
  rw [zTup1_l, hPA]
  simp only [c_law_of, c_law_kept_speed, zLst, wayD_inj, rdCs, rdC, rd, rds, rdc, rdo, rdg, rdgs, rdi, rdAV, rdAT, rdOV, rdOT, ofV, mkT, testV, zVar, slot, zCst, zBin, zUn, zChain, zAndV, zOrV, zAndT, zOrT, zNotV, zNotT, zIte, zIteT, zTup, zTupS, zANil, zACons, zAStar, zCall, zCallK, zONone, zOSome, zSlice, zBitsD, zGName, zGTup_tup, zGTup_lst, zGTup_FR, zGsNil, zGsCons,   zGItem, zISeq, zIRng, zIZip, zIEnum, zYes, zAugD, zstart, zOp, zAdd, zSub, zMul, zFdiv, zMod, zPow, zShl, zCo, zEq, zNe, zIntC, zIs, zIsn, Zz.isNon, zBi, zLen, zAbs, zNegD, zTru, zBl, zRgL, zInt1, zMax2, zMin2, itemsOf, Zz.listOfD, Tgs.len, List.map_cons, List.map_nil, List.length_cons, List.length_nil, List.replicate_succ, List.replicate_zero, List.cons_append, List.nil_append, List.append_nil, List.set_cons_zero, List.set_cons_succ, Nat.sub_self, Nat.reduceSub, Nat.reduceAdd, reduceIte, Bool.false_eq_true, zIx_t0, zIx_t1, zIx_t2, zIx_t3, Bool.not_true, Bool.not_false, G, ctr, cst, zIsi_int, zIsi_tup, zIsi_lst, zIsi_bl, isTy, Option.some.injEq, exists_eq_left', List.cons.injEq, D.int.injEq, and_true, true_and, exists_and_left, and_self, okd_int, eqD_int, zComp, zwipe, zIx_fr0, zIx_fr1, Bool.true_and, Bool.and_true, decide_eq_true_eq, and_assoc, zIx_pt0, zIx_pt1, zIx_lk0, zIx_lk1, FR_inj, PT_inj, lookD_inj, PA_inj, PAs_inj, okd_FR, eqD_FR, okd_PT, eqD_PT, zSl_tup, cutD_1, cutD_to1, D.tup.injEq, D.lst.injEq, D.ref.injEq, ne_eq, zSeq_asg, zSeq_iff, zSeq_ret, zSeq_retN, zSeq_expr, zSeq_next, zSeq_seq, zSeq_never, kSeq_whl, kSeq_for, zSeq_aug, zNext_nx, zEnds_nx, zEnds_rt, zIx_m0, zIx_m1, zIx_m2, zSetD_m0, zSetD_m2, zSl_lst, zSum_ints, mup_mup]
  refine ⟨54, ⟨ys4, mup_same, hy54⟩, by decide, by decide, by decide, fun xv hxv ys5 hy5 => ⟨gw, fun v v0 bv slow => ⟨55, ⟨ys5, mup_same, hy5⟩, by decide, by decide, by decide, fun sv hsv ys6 hy6 => ?_⟩⟩⟩
  rw [mup_mup, mup_mup]
  obtain ⟨u, rfl, u0, bu, uc, uh⟩ : ∃ u : Rat, xv = FR u ∧ 0 < u ∧ B 8 u ∧ (∃ c : Nat, u = (c : Rat) / 12 ∧ 3 ≤ c ∧ c ≤ 24) ∧ (⟨1, 2, by decide, by decide⟩ : Rat) ≤ u := by
    simp only [List.mem_cons, List.not_mem_nil, or_false] at hxv
    rcases hxv with e | e | e
    · exact ⟨1, e, by decide, ⟨by decide, by decide⟩, ⟨12, by decide +kernel, by decide, by decide⟩, by decide +kernel⟩
    · exact ⟨⟨1, 2, by decide, by decide⟩, e, by decide +kernel, ⟨by decide, by decide⟩, ⟨6, by decide +kernel, by decide, by decide⟩, by decide +kernel⟩
    · exact ⟨2, e, by decide, ⟨by decide, by decide⟩, ⟨24, by decide +kernel, by decide, by decide⟩, by decide +kernel⟩
  obtain ⟨st, rfl, sc, su⟩ : ∃ st : Rat, sv = FR st ∧ (∃ c : Nat, st = (c : Rat) / 12 ∧ 3 ≤ c ∧ c ≤ 24) ∧ st ≤ u := by
    simp only [List.mem_cons, List.not_mem_nil, or_false] at hsv
    rcases hsv with e | e | e | e
    · exact ⟨⟨1, 2, by decide, by decide⟩, e, ⟨6, by decide +kernel, by decide, by decide⟩, uh⟩
    · exact ⟨⟨1, 3, by decide, by decide⟩, e, ⟨4, by decide +kernel, by decide, by decide⟩, Rat.le_trans (by decide +kernel) uh⟩
    · exact ⟨⟨1, 4, by decide, by decide⟩, e, ⟨3, by decide +kernel, by decide, by decide⟩, Rat.le_trans (by decide +kernel) uh⟩
    · exact ⟨u, e, uc, Rat.le_refl⟩
  exact key wy v l u st none 56 ys6 (task_of gw bv v0 gla bu u0 sc su slow) hy6 (by decide)
theorem law_turns {a : Addr} {ns : List Int} (hn : ns.length ≤ 63) {k : List D → Mh → Prop} : ∀ (is : List Nat) (acc : List D) (M : Mh), (∀ i ∈ is, i < 1000) → acc.length + is.length ≤ sizeLine → M a = some (.lst acc) → (∀ M', k (acc ++ is.map fun _ => .bl true) M') → zTurns a [some (.lst (ns.map D.int)), none] (zGName 1) zYes (zCallK c_law_right (zACons (zCallK c_law_pot (zACons (zVar 0) (zACons (zVar 1) zANil)) zANil) zANil) zANil) (is.map fun i => .int (i : Nat)) acc M k
  | [], acc, M, _, _, _, hk => by
    have := hk M
    rwa [List.map_nil, List.append_nil] at this
  | i :: is, acc, M, hi, hl, ha, hk => by
    have hl2 : acc.length + (is.length + 1) ≤ sizeLine := hl
    simp only [List.map_cons, zTurns, c_law_pot, c_law_right, rdCs, rdC, rd, rds, rdc, rdo, rdg, rdgs, rdi, rdAV, rdAT, rdOV, rdOT, ofV, mkT, testV, zVar, slot, zCst, zBin, zUn, zChain, zAndV, zOrV, zAndT, zOrT, zNotV, zNotT, zIte, zIteT, zTup, zTupS, zANil, zACons, zAStar, zCall, zCallK, zONone, zOSome, zSlice, zBitsD, zGName, zGTup_tup, zGTup_lst, zGTup_FR, zGsNil, zGsCons,   zGItem, zISeq, zIRng, zIZip, zIEnum, zYes, zAugD, zstart, zOp, zAdd, zSub, zMul, zFdiv, zMod, zPow, zShl, zCo, zEq, zNe, zIntC, zIs, zIsn, Zz.isNon, zBi, zLen, zAbs, zNegD, zTru, zBl, zRgL, zInt1, zMax2, zMin2, itemsOf, Zz.listOfD, Tgs.len, List.map_cons, List.map_nil, List.length_cons, List.length_nil, List.replicate_succ, List.replicate_zero, List.cons_append, List.nil_append, List.append_nil, List.set_cons_zero, List.set_cons_succ, Nat.sub_self, Nat.reduceSub, Nat.reduceAdd, reduceIte, Bool.false_eq_true, zIx_t0, zIx_t1, zIx_t2, zIx_t3, Bool.not_true, Bool.not_false, G, ctr, cst, zIsi_int, zIsi_tup, zIsi_lst, zIsi_bl, isTy, Option.some.injEq, exists_eq_left', List.cons.injEq, D.int.injEq, and_true, true_and, exists_and_left, and_self, okd_int, eqD_int, zComp, zwipe, zIx_fr0, zIx_fr1, Bool.true_and, Bool.and_true, decide_eq_true_eq, and_assoc, zIx_pt0, zIx_pt1, zIx_lk0, zIx_lk1, FR_inj, PT_inj, lookD_inj, PA_inj, PAs_inj, okd_FR, eqD_FR, okd_PT, eqD_PT, zSl_tup, cutD_1, cutD_to1, D.tup.injEq, D.lst.injEq, D.ref.injEq, ne_eq, zSeq_asg, zSeq_iff, zSeq_ret, zSeq_retN, zSeq_expr, zSeq_next, zSeq_seq, zSeq_never, kSeq_whl, kSeq_for, zSeq_aug, zNext_nx, zEnds_nx, zEnds_rt, zIx_m0, zIx_m1, zIx_m2, zSetD_m0, zSetD_m2, zSl_lst, zSum_ints, mup_mup]
    refine ⟨ns, rfl, i, rfl, hi i List.mem_cons_self, by omega, fun b xs hb hp => ⟨⟨xs, mup_same, hp⟩, fun ys => ?_⟩⟩
    have ne : a ≠ b := fun e => by rw [e] at ha; rw [ha] at hb; cases hb
    refine ⟨?_, by omega, law_turns hn is _ _ (fun j hj => hi j (List.mem_cons_of_mem _ hj)) (by rw [List.length_append]; show acc.length + 1 + is.length ≤ sizeLine; omega) mup_same fun M' => ?_⟩
    · first | exact (mup_ne ne).trans ha | (rw [mup_ne ne, mup_ne ne]; exact ha)
    · have := hk M'
      rwa [List.map_cons, List.append_cons] at this
theorem p_law : ∀ ds M q, c_law ds M q → rdCs G ir_law (zEnds q) (zstart N_law ds) M := by
  rintro ds M q ⟨ns, rfl, h1, w⟩
  simp only [ir_law, N_law, c_law_cells, rdCs, rdC, rd, rds, rdc, rdo, rdg, rdgs, rdi, rdAV, rdAT, rdOV, rdOT, ofV, mkT, testV, zVar, slot, zCst, zBin, zUn, zChain, zAndV, zOrV, zAndT, zOrT, zNotV, zNotT, zIte, zIteT, zTup, zTupS, zANil, zACons, zAStar, zCall, zCallK, zONone, zOSome, zSlice, zBitsD, zGName, zGTup_tup, zGTup_lst, zGTup_FR, zGsNil, zGsCons,   zGItem, zISeq, zIRng, zIZip, zIEnum, zYes, zAugD, zstart, zOp, zAdd, zSub, zMul, zFdiv, zMod, zPow, zShl, zCo, zEq, zNe, zIntC, zIs, zIsn, Zz.isNon, zBi, zLen, zAbs, zNegD, zTru, zBl, zRgL, zInt1, zMax2, zMin2, itemsOf, Zz.listOfD, Tgs.len, List.map_cons, List.map_nil, List.length_cons, List.length_nil, List.replicate_succ, List.replicate_zero, List.cons_append, List.nil_append, List.append_nil, List.set_cons_zero, List.set_cons_succ, Nat.sub_self, Nat.reduceSub, Nat.reduceAdd, reduceIte, Bool.false_eq_true, zIx_t0, zIx_t1, zIx_t2, zIx_t3, Bool.not_true, Bool.not_false, G, ctr, cst, zIsi_int, zIsi_tup, zIsi_lst, zIsi_bl, isTy, Option.some.injEq, exists_eq_left', List.cons.injEq, D.int.injEq, and_true, true_and, exists_and_left, and_self, okd_int, eqD_int, zComp, zwipe, zIx_fr0, zIx_fr1, Bool.true_and, Bool.and_true, decide_eq_true_eq, and_assoc, zIx_pt0, zIx_pt1, zIx_lk0, zIx_lk1, FR_inj, PT_inj, lookD_inj, PA_inj, PAs_inj, okd_FR, eqD_FR, okd_PT, eqD_PT, zSl_tup, cutD_1, cutD_to1, D.tup.injEq, D.lst.injEq, D.ref.injEq, ne_eq, zSeq_asg, zSeq_iff, zSeq_ret, zSeq_retN, zSeq_expr, zSeq_next, zSeq_seq, zSeq_never, kSeq_whl, kSeq_for, zSeq_aug, zNext_nx, zEnds_nx, zEnds_rt, zIx_m0, zIx_m1, zIx_m2, zSetD_m0, zSetD_m2, zSl_lst, zSum_ints, mup_mup]
  refine ⟨by rw [List.length_map]; omega, fun a ha => ?_⟩
  have e : ∃ n : Nat, n ≤ 2 ∧ rgD 0 (max 1 (min 2 ((ns.map D.int).length : Int))) = (List.range n).map fun i => .int (i : Nat) := by
    refine ⟨(max 1 (min 2 ((ns.map D.int).length : Int)) - 0).toNat, by omega, ?_⟩
    unfold rgD
    refine List.map_congr_left fun i _ => ?_
    rw [Int.zero_add]
  obtain ⟨n, n4, e⟩ := e
  rw [e]
  refine law_turns h1 (List.range n) [] _ (fun i hi => by have := List.mem_range.mp hi; omega) (by rw [List.length_range]; exact Nat.le_trans (by omega : 0 + n ≤ 2) (by decide)) mup_same fun M' => ?_
  show zAll [.lst ((List.range n).map fun _ => D.bl true)] _ _
  exact all_true (List.range n) ⟨_, fun _ _ e => e, w _⟩
end K46
end
section
/-! the join. -/
namespace K46
open PySem PySem.Spec PyProof.Rows L2 Zz
structure DefIn (K : PySem.W.Frag) (x : Str) (st : Stmt) : Prop where
  ex : ∃ (f : Addr) (fd : FuncData), PySem.W.nsIn K mainGlobals x = some (some (.ref f)) ∧ L2.Fun K x x st f fd ∧ ∃ (kV doc pm cdv ct : Value) (an : Option Addr), fd = PySem.W.fnOf x x (defArgs st) (defBody st) (defScope st) .none kV doc pm an cdv ct
theorem def_in {K : PySem.W.Frag} {x : Str} {st : Stmt} {f : Addr} {oc : Value} {od an : Option Addr} {osl : Array (Option Value)} {kV doc pm cdv ct : Value}
    (a : PySem.W.nsIn K mainGlobals x = some (some (.ref f))) (l : K.lookup f = some ⟨oc, od, .func (PySem.W.fnOf x x (defArgs st) (defBody st) (defScope st) .none kV doc pm an cdv ct), osl⟩) (c : PySem.W.codeIn K cdv x = true) (k : PySem.W.keepIn K (.ref f) = true) : DefIn K x st :=
  ⟨f, _, a, fun_mk l c k, kV, doc, pm, cdv, ct, an, rfl⟩
section
variable {K : PySem.W.Frag} {mg : Str → Option Value} {h : Heap}
theorem cn_int {x : Str} {i : Int} {t : _} (X : K.In h) (Gn : h.Ns mainGlobals mg) (a : PySem.W.nsIn K mainGlobals x = some (some (.int i t))) : CnAt K mg x (.int i) :=
  ⟨.int i t, .int i, PySem.W.mg_of X Gn a, ⟨t, rfl⟩, fun H M => rfl⟩
theorem cn_two {x : Str} {i j : Int} {p : Addr} {t u : _} {n : Nat} {od : Option Addr} {osl : Array (Option Value)} (X : K.In h) (Gn : h.Ns mainGlobals mg) (a : PySem.W.nsIn K mainGlobals x = some (some (.ref p)))
    (l : K.lookup p = some ⟨.type "tuple", od, .seq #[.int i t, .int j u] n, osl⟩) : CnAt K mg x (.tup [.int i, .int j]) :=
  ⟨.ref p, .ref p, PySem.W.mg_of X Gn a, rfl, fun H M => ⟨p, [.int i, .int j], rfl, .inr (.inr ⟨_, _, _, l, rfl, rfl, by show 2 ≤ sizeLine; decide, .cons ⟨t, rfl⟩ (.cons ⟨u, rfl⟩ .nil)⟩), _, _, rfl, rfl, _, _, rfl, rfl, rfl⟩⟩

theorem o_is_whole (X : K.In h) (Gn : h.Ns mainGlobals mg) (d : DefIn K "is_whole" (topS 10)) : DefOk K mg fns cns G 0 ⟨"is_whole", ["value"], false⟩ := by
  obtain ⟨f, fd, a, F, kV, doc, pm, cdv, ct, an, rfl⟩ := d.ex
  exact ⟨topS 10, f, _, N_is_whole, ir_is_whole, F, PySem.W.mg_of X Gn a, sc_is_whole, ck_is_whole, p_is_whole, fun us hl => match us, hl with | [_], _ => rfl, fun e => by cases e⟩
theorem o_is_tuple (X : K.In h) (Gn : h.Ns mainGlobals mg) (d : DefIn K "is_tuple" (topS 11)) : DefOk K mg fns cns G 1 ⟨"is_tuple", ["value", "least", "most"], false⟩ := by
  obtain ⟨f, fd, a, F, kV, doc, pm, cdv, ct, an, rfl⟩ := d.ex
  exact ⟨topS 11, f, _, N_is_tuple, ir_is_tuple, F, PySem.W.mg_of X Gn a, sc_is_tuple, ck_is_tuple, p_is_tuple, fun us hl => match us, hl with | [_, _, _], _ => rfl, fun e => by cases e⟩
theorem o_common (X : K.In h) (Gn : h.Ns mainGlobals mg) (d : DefIn K "common" (topS 15)) : DefOk K mg fns cns G 2 ⟨"common", ["one", "other"], false⟩ := by
  obtain ⟨f, fd, a, F, kV, doc, pm, cdv, ct, an, rfl⟩ := d.ex
  exact ⟨topS 15, f, _, N_common, ir_common, F, PySem.W.mg_of X Gn a, sc_common, ck_common, p_common, fun us hl => match us, hl with | [_, _], _ => rfl, fun e => by cases e⟩
theorem o_fraction (X : K.In h) (Gn : h.Ns mainGlobals mg) (d : DefIn K "fraction" (topS 16)) : DefOk K mg fns cns G 3 ⟨"fraction", ["top", "bottom"], false⟩ := by
  obtain ⟨f, fd, a, F, kV, doc, pm, cdv, ct, an, rfl⟩ := d.ex
  exact ⟨topS 16, f, _, N_fraction, ir_fraction, F, PySem.W.mg_of X Gn a, sc_fraction, ck_fraction, p_fraction, fun us hl => match us, hl with | [_, _], _ => rfl, fun e => by cases e⟩
theorem o_whole (X : K.In h) (Gn : h.Ns mainGlobals mg) (d : DefIn K "whole" (topS 17)) : DefOk K mg fns cns G 4 ⟨"whole", ["number"], false⟩ := by
  obtain ⟨f, fd, a, F, kV, doc, pm, cdv, ct, an, rfl⟩ := d.ex
  exact ⟨topS 17, f, _, N_whole, ir_whole, F, PySem.W.mg_of X Gn a, sc_whole, ck_whole, p_whole, fun us hl => match us, hl with | [_], _ => rfl, fun e => by cases e⟩
theorem o_is_fraction (X : K.In h) (Gn : h.Ns mainGlobals mg) (d : DefIn K "is_fraction" (topS 18)) : DefOk K mg fns cns G 5 ⟨"is_fraction", ["value"], false⟩ := by
  obtain ⟨f, fd, a, F, kV, doc, pm, cdv, ct, an, rfl⟩ := d.ex
  exact ⟨topS 18, f, _, N_is_fraction, ir_is_fraction, F, PySem.W.mg_of X Gn a, sc_is_fraction, ck_is_fraction, p_is_fraction, fun us hl => match us, hl with | [_], _ => rfl, fun e => by cases e⟩
theorem o_plus (X : K.In h) (Gn : h.Ns mainGlobals mg) (d : DefIn K "plus" (topS 19)) : DefOk K mg fns cns G 6 ⟨"plus", ["one", "other"], false⟩ := by
  obtain ⟨f, fd, a, F, kV, doc, pm, cdv, ct, an, rfl⟩ := d.ex
  exact ⟨topS 19, f, _, N_plus, ir_plus, F, PySem.W.mg_of X Gn a, sc_plus, ck_plus, p_plus, fun us hl => match us, hl with | [_, _], _ => rfl, fun e => by cases e⟩
theorem o_less (X : K.In h) (Gn : h.Ns mainGlobals mg) (d : DefIn K "less" (topS 20)) : DefOk K mg fns cns G 7 ⟨"less", ["one", "other"], false⟩ := by
  obtain ⟨f, fd, a, F, kV, doc, pm, cdv, ct, an, rfl⟩ := d.ex
  exact ⟨topS 20, f, _, N_less, ir_less, F, PySem.W.mg_of X Gn a, sc_less, ck_less, p_less, fun us hl => match us, hl with | [_, _], _ => rfl, fun e => by cases e⟩
theorem o_times (X : K.In h) (Gn : h.Ns mainGlobals mg) (d : DefIn K "times" (topS 21)) : DefOk K mg fns cns G 8 ⟨"times", ["one", "other"], false⟩ := by
  obtain ⟨f, fd, a, F, kV, doc, pm, cdv, ct, an, rfl⟩ := d.ex
  exact ⟨topS 21, f, _, N_times, ir_times, F, PySem.W.mg_of X Gn a, sc_times, ck_times, p_times, fun us hl => match us, hl with | [_, _], _ => rfl, fun e => by cases e⟩
theorem o_over (X : K.In h) (Gn : h.Ns mainGlobals mg) (d : DefIn K "over" (topS 22)) : DefOk K mg fns cns G 9 ⟨"over", ["one", "other"], false⟩ := by
  obtain ⟨f, fd, a, F, kV, doc, pm, cdv, ct, an, rfl⟩ := d.ex
  exact ⟨topS 22, f, _, N_over, ir_over, F, PySem.W.mg_of X Gn a, sc_over, ck_over, p_over, fun us hl => match us, hl with | [_, _], _ => rfl, fun e => by cases e⟩
theorem o_compared (X : K.In h) (Gn : h.Ns mainGlobals mg) (d : DefIn K "compared" (topS 23)) : DefOk K mg fns cns G 10 ⟨"compared", ["one", "other"], false⟩ := by
  obtain ⟨f, fd, a, F, kV, doc, pm, cdv, ct, an, rfl⟩ := d.ex
  exact ⟨topS 23, f, _, N_compared, ir_compared, F, PySem.W.mg_of X Gn a, sc_compared, ck_compared, p_compared, fun us hl => match us, hl with | [_, _], _ => rfl, fun e => by cases e⟩
theorem o_is_below (X : K.In h) (Gn : h.Ns mainGlobals mg) (d : DefIn K "is_below" (topS 24)) : DefOk K mg fns cns G 11 ⟨"is_below", ["one", "other"], false⟩ := by
  obtain ⟨f, fd, a, F, kV, doc, pm, cdv, ct, an, rfl⟩ := d.ex
  exact ⟨topS 24, f, _, N_is_below, ir_is_below, F, PySem.W.mg_of X Gn a, sc_is_below, ck_is_below, p_is_below, fun us hl => match us, hl with | [_, _], _ => rfl, fun e => by cases e⟩
theorem o_root_floor (X : K.In h) (Gn : h.Ns mainGlobals mg) (d : DefIn K "root_floor" (topS 28)) : DefOk K mg fns cns G 12 ⟨"root_floor", ["number"], false⟩ := by
  obtain ⟨f, fd, a, F, kV, doc, pm, cdv, ct, an, rfl⟩ := d.ex
  exact ⟨topS 28, f, _, N_root_floor, ir_root_floor, F, PySem.W.mg_of X Gn a, sc_root_floor, ck_root_floor, p_root_floor, fun us hl => match us, hl with | [_], _ => rfl, fun e => by cases e⟩
theorem o_sign (X : K.In h) (Gn : h.Ns mainGlobals mg) (d : DefIn K "sign" (topS 29)) : DefOk K mg fns cns G 13 ⟨"sign", ["number"], false⟩ := by
  obtain ⟨f, fd, a, F, kV, doc, pm, cdv, ct, an, rfl⟩ := d.ex
  exact ⟨topS 29, f, _, N_sign, ir_sign, F, PySem.W.mg_of X Gn a, sc_sign, ck_sign, p_sign, fun us hl => match us, hl with | [_], _ => rfl, fun e => by cases e⟩
theorem o_square (X : K.In h) (Gn : h.Ns mainGlobals mg) (d : DefIn K "square" (topS 30)) : DefOk K mg fns cns G 14 ⟨"square", ["number"], false⟩ := by
  obtain ⟨f, fd, a, F, kV, doc, pm, cdv, ct, an, rfl⟩ := d.ex
  exact ⟨topS 30, f, _, N_square, ir_square, F, PySem.W.mg_of X Gn a, sc_square, ck_square, p_square, fun us hl => match us, hl with | [_], _ => rfl, fun e => by cases e⟩
theorem o_sign_of_one (X : K.In h) (Gn : h.Ns mainGlobals mg) (d : DefIn K "sign_of_one" (topS 31)) : DefOk K mg fns cns G 15 ⟨"sign_of_one", ["c", "a", "d"], false⟩ := by
  obtain ⟨f, fd, a, F, kV, doc, pm, cdv, ct, an, rfl⟩ := d.ex
  exact ⟨topS 31, f, _, N_sign_of_one, ir_sign_of_one, F, PySem.W.mg_of X Gn a, sc_sign_of_one, ck_sign_of_one, p_sign_of_one, fun us hl => match us, hl with | [_, _, _], _ => rfl, fun e => by cases e⟩
theorem o_sign_of_two (X : K.In h) (Gn : h.Ns mainGlobals mg) (d : DefIn K "sign_of_two" (topS 32)) : DefOk K mg fns cns G 16 ⟨"sign_of_two", ["c", "a", "d", "b", "e"], false⟩ := by
  obtain ⟨f, fd, a, F, kV, doc, pm, cdv, ct, an, rfl⟩ := d.ex
  exact ⟨topS 32, f, _, N_sign_of_two, ir_sign_of_two, F, PySem.W.mg_of X Gn a, sc_sign_of_two, ck_sign_of_two, p_sign_of_two, fun us hl => match us, hl with | [_, _, _, _, _], _ => rfl, fun e => by cases e⟩
theorem o_discriminant (X : K.In h) (Gn : h.Ns mainGlobals mg) (d : DefIn K "discriminant" (topS 33)) : DefOk K mg fns cns G 17 ⟨"discriminant", ["a", "b", "c"], false⟩ := by
  obtain ⟨f, fd, a, F, kV, doc, pm, cdv, ct, an, rfl⟩ := d.ex
  exact ⟨topS 33, f, _, N_discriminant, ir_discriminant, F, PySem.W.mg_of X Gn a, sc_discriminant, ck_discriminant, p_discriminant, fun us hl => match us, hl with | [_, _, _], _ => rfl, fun e => by cases e⟩
theorem o_moment_of_whole (X : K.In h) (Gn : h.Ns mainGlobals mg) (d : DefIn K "moment_of_whole" (topS 34)) : DefOk K mg fns cns G 18 ⟨"moment_of_whole", ["a", "b", "c", "side"], false⟩ := by
  obtain ⟨f, fd, a, F, kV, doc, pm, cdv, ct, an, rfl⟩ := d.ex
  exact ⟨topS 34, f, _, N_moment_of_whole, ir_moment_of_whole, F, PySem.W.mg_of X Gn a, sc_moment_of_whole, ck_moment_of_whole, p_moment_of_whole, fun us hl => match us, hl with | [_, _, _, _], _ => rfl, fun e => by cases e⟩
theorem o_scaled_up (X : K.In h) (Gn : h.Ns mainGlobals mg) (d : DefIn K "scaled_up" (topS 35)) : DefOk K mg fns cns G 19 ⟨"scaled_up", ["numbers"], false⟩ := by
  obtain ⟨f, fd, a, F, kV, doc, pm, cdv, ct, an, rfl⟩ := d.ex
  exact ⟨topS 35, f, _, N_scaled_up, ir_scaled_up, F, PySem.W.mg_of X Gn a, sc_scaled_up, ck_scaled_up, p_scaled_up, fun us hl => match us, hl with | [_], _ => rfl, fun e => by cases e⟩
theorem o_moment_by (X : K.In h) (Gn : h.Ns mainGlobals mg) (d : DefIn K "moment_by" (topS 36)) : DefOk K mg fns cns G 20 ⟨"moment_by", ["a", "b", "c", "side"], false⟩ := by
  obtain ⟨f, fd, a, F, kV, doc, pm, cdv, ct, an, rfl⟩ := d.ex
  exact ⟨topS 36, f, _, N_moment_by, ir_moment_by, F, PySem.W.mg_of X Gn a, sc_moment_by, ck_moment_by, p_moment_by, fun us hl => match us, hl with | [_, _, _, _], _ => rfl, fun e => by cases e⟩
theorem o_told_parts (X : K.In h) (Gn : h.Ns mainGlobals mg) (d : DefIn K "told_parts" (topS 37)) : DefOk K mg fns cns G 21 ⟨"told_parts", ["moment"], false⟩ := by
  obtain ⟨f, fd, a, F, kV, doc, pm, cdv, ct, an, rfl⟩ := d.ex
  exact ⟨topS 37, f, _, N_told_parts, ir_told_parts, F, PySem.W.mg_of X Gn a, sc_told_parts, ck_told_parts, p_told_parts, fun us hl => match us, hl with | [_], _ => rfl, fun e => by cases e⟩
theorem o_compared_moments (X : K.In h) (Gn : h.Ns mainGlobals mg) (d : DefIn K "compared_moments" (topS 38)) : DefOk K mg fns cns G 22 ⟨"compared_moments", ["one", "other"], false⟩ := by
  obtain ⟨f, fd, a, F, kV, doc, pm, cdv, ct, an, rfl⟩ := d.ex
  exact ⟨topS 38, f, _, N_compared_moments, ir_compared_moments, F, PySem.W.mg_of X Gn a, sc_compared_moments, ck_compared_moments, p_compared_moments, fun us hl => match us, hl with | [_, _], _ => rfl, fun e => by cases e⟩
theorem o_shifted_by (X : K.In h) (Gn : h.Ns mainGlobals mg) (d : DefIn K "shifted_by" (topS 39)) : DefOk K mg fns cns G 23 ⟨"shifted_by", ["moment", "by"], false⟩ := by
  obtain ⟨f, fd, a, F, kV, doc, pm, cdv, ct, an, rfl⟩ := d.ex
  exact ⟨topS 39, f, _, N_shifted_by, ir_shifted_by, F, PySem.W.mg_of X Gn a, sc_shifted_by, ck_shifted_by, p_shifted_by, fun us hl => match us, hl with | [_, _], _ => rfl, fun e => by cases e⟩
theorem o_scaled_by (X : K.In h) (Gn : h.Ns mainGlobals mg) (d : DefIn K "scaled_by" (topS 40)) : DefOk K mg fns cns G 24 ⟨"scaled_by", ["moment", "by"], false⟩ := by
  obtain ⟨f, fd, a, F, kV, doc, pm, cdv, ct, an, rfl⟩ := d.ex
  exact ⟨topS 40, f, _, N_scaled_by, ir_scaled_by, F, PySem.W.mg_of X Gn a, sc_scaled_by, ck_scaled_by, p_scaled_by, fun us hl => match us, hl with | [_, _], _ => rfl, fun e => by cases e⟩
theorem o_floor_of (X : K.In h) (Gn : h.Ns mainGlobals mg) (d : DefIn K "floor_of" (topS 41)) : DefOk K mg fns cns G 25 ⟨"floor_of", ["moment", "parts"], false⟩ := by
  obtain ⟨f, fd, a, F, kV, doc, pm, cdv, ct, an, rfl⟩ := d.ex
  exact ⟨topS 41, f, _, N_floor_of, ir_floor_of, F, PySem.W.mg_of X Gn a, sc_floor_of, ck_floor_of, p_floor_of, fun us hl => match us, hl with | [_, _], _ => rfl, fun e => by cases e⟩
theorem o_rounded_by (X : K.In h) (Gn : h.Ns mainGlobals mg) (d : DefIn K "rounded_by" (topS 42)) : DefOk K mg fns cns G 26 ⟨"rounded_by", ["moment", "n"], false⟩ := by
  obtain ⟨f, fd, a, F, kV, doc, pm, cdv, ct, an, rfl⟩ := d.ex
  exact ⟨topS 42, f, _, N_rounded_by, ir_rounded_by, F, PySem.W.mg_of X Gn a, sc_rounded_by, ck_rounded_by, p_rounded_by, fun us hl => match us, hl with | [_, _], _ => rfl, fun e => by cases e⟩
theorem o_is_point (X : K.In h) (Gn : h.Ns mainGlobals mg) (d : DefIn K "is_point" (topS 45)) : DefOk K mg fns cns G 27 ⟨"is_point", ["value"], false⟩ := by
  obtain ⟨f, fd, a, F, kV, doc, pm, cdv, ct, an, rfl⟩ := d.ex
  exact ⟨topS 45, f, _, N_is_point, ir_is_point, F, PySem.W.mg_of X Gn a, sc_is_point, ck_is_point, p_is_point, fun us hl => match us, hl with | [_], _ => rfl, fun e => by cases e⟩
theorem o_is_from_nought (X : K.In h) (Gn : h.Ns mainGlobals mg) (d : DefIn K "is_from_nought" (topS 46)) : DefOk K mg fns cns G 28 ⟨"is_from_nought", ["value"], false⟩ := by
  obtain ⟨f, fd, a, F, kV, doc, pm, cdv, ct, an, rfl⟩ := d.ex
  exact ⟨topS 46, f, _, N_is_from_nought, ir_is_from_nought, F, PySem.W.mg_of X Gn a, sc_is_from_nought, ck_is_from_nought, p_is_from_nought, fun us hl => match us, hl with | [_], _ => rfl, fun e => by cases e⟩
theorem o_check_length (X : K.In h) (Gn : h.Ns mainGlobals mg) (d : DefIn K "check_length" (topS 47)) : DefOk K mg fns cns G 29 ⟨"check_length", ["value"], false⟩ := by
  obtain ⟨f, fd, a, F, kV, doc, pm, cdv, ct, an, rfl⟩ := d.ex
  exact ⟨topS 47, f, _, N_check_length, ir_check_length, F, PySem.W.mg_of X Gn a, sc_check_length, ck_check_length, p_check_length, fun us hl => match us, hl with | [_], _ => rfl, fun e => by cases e⟩
theorem o_check_speed (X : K.In h) (Gn : h.Ns mainGlobals mg) (d : DefIn K "check_speed" (topS 48)) : DefOk K mg fns cns G 30 ⟨"check_speed", ["value"], false⟩ := by
  obtain ⟨f, fd, a, F, kV, doc, pm, cdv, ct, an, rfl⟩ := d.ex
  exact ⟨topS 48, f, _, N_check_speed, ir_check_speed, F, PySem.W.mg_of X Gn a, sc_check_speed, ck_check_speed, p_check_speed, fun us hl => match us, hl with | [_], _ => rfl, fun e => by cases e⟩
theorem o_point_less (X : K.In h) (Gn : h.Ns mainGlobals mg) (d : DefIn K "point_less" (topS 49)) : DefOk K mg fns cns G 31 ⟨"point_less", ["one", "other"], false⟩ := by
  obtain ⟨f, fd, a, F, kV, doc, pm, cdv, ct, an, rfl⟩ := d.ex
  exact ⟨topS 49, f, _, N_point_less, ir_point_less, F, PySem.W.mg_of X Gn a, sc_point_less, ck_point_less, p_point_less, fun us hl => match us, hl with | [_, _], _ => rfl, fun e => by cases e⟩
theorem o_product (X : K.In h) (Gn : h.Ns mainGlobals mg) (d : DefIn K "product" (topS 50)) : DefOk K mg fns cns G 32 ⟨"product", ["one", "other"], false⟩ := by
  obtain ⟨f, fd, a, F, kV, doc, pm, cdv, ct, an, rfl⟩ := d.ex
  exact ⟨topS 50, f, _, N_product, ir_product, F, PySem.W.mg_of X Gn a, sc_product, ck_product, p_product, fun us hl => match us, hl with | [_, _], _ => rfl, fun e => by cases e⟩
theorem o_is_look (X : K.In h) (Gn : h.Ns mainGlobals mg) (d : DefIn K "is_look" (topS 53)) : DefOk K mg fns cns G 33 ⟨"is_look", ["value"], false⟩ := by
  obtain ⟨f, fd, a, F, kV, doc, pm, cdv, ct, an, rfl⟩ := d.ex
  exact ⟨topS 53, f, _, N_is_look, ir_is_look, F, PySem.W.mg_of X Gn a, sc_is_look, ck_is_look, p_is_look, fun us hl => match us, hl with | [_], _ => rfl, fun e => by cases e⟩
theorem o_check_look (X : K.In h) (Gn : h.Ns mainGlobals mg) (d : DefIn K "check_look" (topS 54)) : DefOk K mg fns cns G 34 ⟨"check_look", ["value"], false⟩ := by
  obtain ⟨f, fd, a, F, kV, doc, pm, cdv, ct, an, rfl⟩ := d.ex
  exact ⟨topS 54, f, _, N_check_look, ir_check_look, F, PySem.W.mg_of X Gn a, sc_check_look, ck_check_look, p_check_look, fun us hl => match us, hl with | [_], _ => rfl, fun e => by cases e⟩
theorem o_sides_of (X : K.In h) (Gn : h.Ns mainGlobals mg) (d : DefIn K "sides_of" (topS 55)) : DefOk K mg fns cns G 35 ⟨"sides_of", ["patch"], false⟩ := by
  obtain ⟨f, fd, a, F, kV, doc, pm, cdv, ct, an, rfl⟩ := d.ex
  exact ⟨topS 55, f, _, N_sides_of, ir_sides_of, F, PySem.W.mg_of X Gn a, sc_sides_of, ck_sides_of, p_sides_of, fun us hl => match us, hl with | [_], _ => rfl, fun e => by cases e⟩
theorem o_square_of (X : K.In h) (Gn : h.Ns mainGlobals mg) (d : DefIn K "square_of" (topS 56)) : DefOk K mg fns cns G 36 ⟨"square_of", ["one", "other"], false⟩ := by
  obtain ⟨f, fd, a, F, kV, doc, pm, cdv, ct, an, rfl⟩ := d.ex
  exact ⟨topS 56, f, _, N_square_of, ir_square_of, F, PySem.W.mg_of X Gn a, sc_square_of, ck_square_of, p_square_of, fun us hl => match us, hl with | [_, _], _ => rfl, fun e => by cases e⟩
theorem o_led (X : K.In h) (Gn : h.Ns mainGlobals mg) (d : DefIn K "led" (topS 57)) : DefOk K mg fns cns G 37 ⟨"led", ["point", "pair", "by"], false⟩ := by
  obtain ⟨f, fd, a, F, kV, doc, pm, cdv, ct, an, rfl⟩ := d.ex
  exact ⟨topS 57, f, _, N_led, ir_led, F, PySem.W.mg_of X Gn a, sc_led, ck_led, p_led, fun us hl => match us, hl with | [_, _, _], _ => rfl, fun e => by cases e⟩
theorem o_turn (X : K.In h) (Gn : h.Ns mainGlobals mg) (d : DefIn K "turn" (topS 61)) : DefOk K mg fns cns G 38 ⟨"turn", ["one", "two", "three"], false⟩ := by
  obtain ⟨f, fd, a, F, kV, doc, pm, cdv, ct, an, rfl⟩ := d.ex
  exact ⟨topS 61, f, _, N_turn, ir_turn, F, PySem.W.mg_of X Gn a, sc_turn, ck_turn, p_turn, fun us hl => match us, hl with | [_, _, _], _ => rfl, fun e => by cases e⟩
theorem o_is_ahead (X : K.In h) (Gn : h.Ns mainGlobals mg) (d : DefIn K "is_ahead" (topS 62)) : DefOk K mg fns cns G 39 ⟨"is_ahead", ["one", "other"], false⟩ := by
  obtain ⟨f, fd, a, F, kV, doc, pm, cdv, ct, an, rfl⟩ := d.ex
  exact ⟨topS 62, f, _, N_is_ahead, ir_is_ahead, F, PySem.W.mg_of X Gn a, sc_is_ahead, ck_is_ahead, p_is_ahead, fun us hl => match us, hl with | [_, _], _ => rfl, fun e => by cases e⟩
theorem o_is_patch (X : K.In h) (Gn : h.Ns mainGlobals mg) (d : DefIn K "is_patch" (topS 63)) : DefOk K mg fns cns G 40 ⟨"is_patch", ["value"], false⟩ := by
  obtain ⟨f, fd, a, F, kV, doc, pm, cdv, ct, an, rfl⟩ := d.ex
  exact ⟨topS 63, f, _, N_is_patch, ir_is_patch, F, PySem.W.mg_of X Gn a, sc_is_patch, ck_is_patch, p_is_patch, fun us hl => match us, hl with | [_], _ => rfl, fun e => by cases e⟩
theorem o_is_report (X : K.In h) (Gn : h.Ns mainGlobals mg) (d : DefIn K "is_report" (topS 67)) : DefOk K mg fns cns G 41 ⟨"is_report", ["value"], false⟩ := by
  obtain ⟨f, fd, a, F, kV, doc, pm, cdv, ct, an, rfl⟩ := d.ex
  exact ⟨topS 67, f, _, N_is_report, ir_is_report, F, PySem.W.mg_of X Gn a, sc_is_report, ck_is_report, p_is_report, fun us hl => match us, hl with | [_], _ => rfl, fun e => by cases e⟩
theorem o_is_way (X : K.In h) (Gn : h.Ns mainGlobals mg) (d : DefIn K "is_way" (topS 68)) : DefOk K mg fns cns G 42 ⟨"is_way", ["value"], false⟩ := by
  obtain ⟨f, fd, a, F, kV, doc, pm, cdv, ct, an, rfl⟩ := d.ex
  exact ⟨topS 68, f, _, N_is_way, ir_is_way, F, PySem.W.mg_of X Gn a, sc_is_way, ck_is_way, p_is_way, fun us hl => match us, hl with | [_], _ => rfl, fun e => by cases e⟩
theorem o_check_way (X : K.In h) (Gn : h.Ns mainGlobals mg) (d : DefIn K "check_way" (topS 69)) : DefOk K mg fns cns G 43 ⟨"check_way", ["value"], false⟩ := by
  obtain ⟨f, fd, a, F, kV, doc, pm, cdv, ct, an, rfl⟩ := d.ex
  exact ⟨topS 69, f, _, N_check_way, ir_check_way, F, PySem.W.mg_of X Gn a, sc_check_way, ck_check_way, p_check_way, fun us hl => match us, hl with | [_], _ => rfl, fun e => by cases e⟩
theorem o_legs_of (X : K.In h) (Gn : h.Ns mainGlobals mg) (d : DefIn K "legs_of" (topS 70)) : DefOk K mg fns cns G 44 ⟨"legs_of", ["way"], false⟩ := by
  obtain ⟨f, fd, a, F, kV, doc, pm, cdv, ct, an, rfl⟩ := d.ex
  exact ⟨topS 70, f, _, N_legs_of, ir_legs_of, F, PySem.W.mg_of X Gn a, sc_legs_of, ck_legs_of, p_legs_of, fun us hl => match us, hl with | [_], _ => rfl, fun e => by cases e⟩
theorem o_run_of (X : K.In h) (Gn : h.Ns mainGlobals mg) (d : DefIn K "run_of" (topS 71)) : DefOk K mg fns cns G 45 ⟨"run_of", ["one", "other", "axis"], false⟩ := by
  obtain ⟨f, fd, a, F, kV, doc, pm, cdv, ct, an, rfl⟩ := d.ex
  exact ⟨topS 71, f, _, N_run_of, ir_run_of, F, PySem.W.mg_of X Gn a, sc_run_of, ck_run_of, p_run_of, fun us hl => match us, hl with | [_, _, _], _ => rfl, fun e => by cases e⟩
theorem o_leg_at (X : K.In h) (Gn : h.Ns mainGlobals mg) (d : DefIn K "leg_at" (topS 72)) : DefOk K mg fns cns G 46 ⟨"leg_at", ["way", "moment"], false⟩ := by
  obtain ⟨f, fd, a, F, kV, doc, pm, cdv, ct, an, rfl⟩ := d.ex
  exact ⟨topS 72, f, _, N_leg_at, ir_leg_at, F, PySem.W.mg_of X Gn a, sc_leg_at, ck_leg_at, p_leg_at, fun us hl => match us, hl with | [_, _], _ => rfl, fun e => by cases e⟩
theorem o_at_of (X : K.In h) (Gn : h.Ns mainGlobals mg) (d : DefIn K "at_of" (topS 73)) : DefOk K mg fns cns G 47 ⟨"at_of", ["way", "moment"], false⟩ := by
  obtain ⟨f, fd, a, F, kV, doc, pm, cdv, ct, an, rfl⟩ := d.ex
  exact ⟨topS 73, f, _, N_at_of, ir_at_of, F, PySem.W.mg_of X Gn a, sc_at_of, ck_at_of, p_at_of, fun us hl => match us, hl with | [_, _], _ => rfl, fun e => by cases e⟩
theorem o_speeds (X : K.In h) (Gn : h.Ns mainGlobals mg) (d : DefIn K "speeds" (topS 74)) : DefOk K mg fns cns G 48 ⟨"speeds", ["way"], false⟩ := by
  obtain ⟨f, fd, a, F, kV, doc, pm, cdv, ct, an, rfl⟩ := d.ex
  exact ⟨topS 74, f, _, N_speeds, ir_speeds, F, PySem.W.mg_of X Gn a, sc_speeds, ck_speeds, p_speeds, fun us hl => match us, hl with | [_], _ => rfl, fun e => by cases e⟩
theorem o_check_patches (X : K.In h) (Gn : h.Ns mainGlobals mg) (d : DefIn K "check_patches" (topS 80)) : DefOk K mg fns cns G 49 ⟨"check_patches", ["value"], false⟩ := by
  obtain ⟨f, fd, a, F, kV, doc, pm, cdv, ct, an, rfl⟩ := d.ex
  exact ⟨topS 80, f, _, N_check_patches, ir_check_patches, F, PySem.W.mg_of X Gn a, sc_check_patches, ck_check_patches, p_check_patches, fun us hl => match us, hl with | [_], _ => rfl, fun e => by cases e⟩
theorem o_check_asked (X : K.In h) (Gn : h.Ns mainGlobals mg) (d : DefIn K "check_asked" (topS 81)) : DefOk K mg fns cns G 50 ⟨"check_asked", ["look", "speed", "patches", "length"], false⟩ := by
  obtain ⟨f, fd, a, F, kV, doc, pm, cdv, ct, an, rfl⟩ := d.ex
  exact ⟨topS 81, f, _, N_check_asked, ir_check_asked, F, PySem.W.mg_of X Gn a, sc_check_asked, ck_check_asked, p_check_asked, fun us hl => match us, hl with | [_, _, _, _], _ => rfl, fun e => by cases e⟩
theorem o_near_on (X : K.In h) (Gn : h.Ns mainGlobals mg) (d : DefIn K "near_on" (topS 82)) : DefOk K mg fns cns G 51 ⟨"near_on", ["point", "side"], false⟩ := by
  obtain ⟨f, fd, a, F, kV, doc, pm, cdv, ct, an, rfl⟩ := d.ex
  exact ⟨topS 82, f, _, N_near_on, ir_near_on, F, PySem.W.mg_of X Gn a, sc_near_on, ck_near_on, p_near_on, fun us hl => match us, hl with | [_, _], _ => rfl, fun e => by cases e⟩
theorem o_rim_of (X : K.In h) (Gn : h.Ns mainGlobals mg) (d : DefIn K "rim_of" (topS 83)) : DefOk K mg fns cns G 52 ⟨"rim_of", ["point", "patch"], false⟩ := by
  obtain ⟨f, fd, a, F, kV, doc, pm, cdv, ct, an, rfl⟩ := d.ex
  exact ⟨topS 83, f, _, N_rim_of, ir_rim_of, F, PySem.W.mg_of X Gn a, sc_rim_of, ck_rim_of, p_rim_of, fun us hl => match us, hl with | [_, _], _ => rfl, fun e => by cases e⟩
theorem o_nearest_rim (X : K.In h) (Gn : h.Ns mainGlobals mg) (d : DefIn K "nearest_rim" (topS 84)) : DefOk K mg fns cns G 53 ⟨"nearest_rim", ["point", "patches"], false⟩ := by
  obtain ⟨f, fd, a, F, kV, doc, pm, cdv, ct, an, rfl⟩ := d.ex
  exact ⟨topS 84, f, _, N_nearest_rim, ir_nearest_rim, F, PySem.W.mg_of X Gn a, sc_nearest_rim, ck_nearest_rim, p_nearest_rim, fun us hl => match us, hl with | [_, _], _ => rfl, fun e => by cases e⟩
theorem o_root_after (X : K.In h) (Gn : h.Ns mainGlobals mg) (d : DefIn K "root_after" (topS 85)) : DefOk K mg fns cns G 54 ⟨"root_after", ["moment", "square"], false⟩ := by
  obtain ⟨f, fd, a, F, kV, doc, pm, cdv, ct, an, rfl⟩ := d.ex
  exact ⟨topS 85, f, _, N_root_after, ir_root_after, F, PySem.W.mg_of X Gn a, sc_root_after, ck_root_after, p_root_after, fun us hl => match us, hl with | [_, _], _ => rfl, fun e => by cases e⟩
theorem o_next_of (X : K.In h) (Gn : h.Ns mainGlobals mg) (d : DefIn K "next_of" (topS 86)) : DefOk K mg fns cns G 55 ⟨"next_of", ["look", "speed", "patches", "length"], false⟩ := by
  obtain ⟨f, fd, a, F, kV, doc, pm, cdv, ct, an, rfl⟩ := d.ex
  exact ⟨topS 86, f, _, N_next_of, ir_next_of, F, PySem.W.mg_of X Gn a, sc_next_of, ck_next_of, p_next_of, fun us hl => match us, hl with | [_, _, _, _], _ => rfl, fun e => by cases e⟩
theorem o_next_look (X : K.In h) (Gn : h.Ns mainGlobals mg) (d : DefIn K "next_look" (topS 87)) : DefOk K mg fns cns G 56 ⟨"next_look", ["look", "speed", "patches", "length"], false⟩ := by
  obtain ⟨f, fd, a, F, kV, doc, pm, cdv, ct, an, rfl⟩ := d.ex
  exact ⟨topS 87, f, _, N_next_look, ir_next_look, F, PySem.W.mg_of X Gn a, sc_next_look, ck_next_look, p_next_look, fun us hl => match us, hl with | [_, _, _, _], _ => rfl, fun e => by cases e⟩
theorem o_check_plan (X : K.In h) (Gn : h.Ns mainGlobals mg) (d : DefIn K "check_plan" (topS 88)) : DefOk K mg fns cns G 57 ⟨"check_plan", ["way", "speed", "patches", "length", "step"], false⟩ := by
  obtain ⟨f, fd, a, F, kV, doc, pm, cdv, ct, an, rfl⟩ := d.ex
  exact ⟨topS 88, f, _, N_check_plan, ir_check_plan, F, PySem.W.mg_of X Gn a, sc_check_plan, ck_check_plan, p_check_plan, fun us hl => match us, hl with | [_, _, _, _, _], _ => rfl, fun e => by cases e⟩
theorem o_on_steps (X : K.In h) (Gn : h.Ns mainGlobals mg) (d : DefIn K "on_steps" (topS 89)) : DefOk K mg fns cns G 58 ⟨"on_steps", ["moment", "first", "step"], false⟩ := by
  obtain ⟨f, fd, a, F, kV, doc, pm, cdv, ct, an, rfl⟩ := d.ex
  exact ⟨topS 89, f, _, N_on_steps, ir_on_steps, F, PySem.W.mg_of X Gn a, sc_on_steps, ck_on_steps, p_on_steps, fun us hl => match us, hl with | [_, _, _], _ => rfl, fun e => by cases e⟩
theorem o_plan (X : K.In h) (Gn : h.Ns mainGlobals mg) (d : DefIn K "plan" (topS 90)) : DefOk K mg fns cns G 59 ⟨"plan", ["way", "speed", "patches", "length", "step"], true⟩ := by
  obtain ⟨f, fd, a, F, kV, doc, pm, cdv, ct, an, rfl⟩ := d.ex
  exact ⟨topS 90, f, _, N_plan, ir_plan, F, PySem.W.mg_of X Gn a, sc_plan, ck_plan, p_plan, fun us hl => match us, hl with | [_, _, _, _, _], _ => rfl, fun _ => fun us hl => match us, hl with | [_, _, _, _, _], _ => rfl⟩
theorem o__law_pot (X : K.In h) (Gn : h.Ns mainGlobals mg) (d : DefIn K "_law_pot" (topS 92)) : DefOk K mg fns cns G 60 ⟨"_law_pot", ["script", "place"], false⟩ := by
  obtain ⟨f, fd, a, F, kV, doc, pm, cdv, ct, an, rfl⟩ := d.ex
  exact ⟨topS 92, f, _, N__law_pot, ir__law_pot, F, PySem.W.mg_of X Gn a, sc__law_pot, ck__law_pot, p_law_pot, fun us hl => match us, hl with | [_, _], _ => rfl, fun e => by cases e⟩
theorem o__law_take (X : K.In h) (Gn : h.Ns mainGlobals mg) (d : DefIn K "_law_take" (topS 93)) : DefOk K mg fns cns G 61 ⟨"_law_take", ["pot", "upto"], false⟩ := by
  obtain ⟨f, fd, a, F, kV, doc, pm, cdv, ct, an, rfl⟩ := d.ex
  exact ⟨topS 93, f, _, N__law_take, ir__law_take, F, PySem.W.mg_of X Gn a, sc__law_take, ck__law_take, p_law_take, fun us hl => match us, hl with | [_, _], _ => rfl, fun e => by cases e⟩
theorem o__law_of (X : K.In h) (Gn : h.Ns mainGlobals mg) (d : DefIn K "_law_of" (topS 94)) : DefOk K mg fns cns G 62 ⟨"_law_of", ["pot", "some"], false⟩ := by
  obtain ⟨f, fd, a, F, kV, doc, pm, cdv, ct, an, rfl⟩ := d.ex
  exact ⟨topS 94, f, _, N__law_of, ir__law_of, F, PySem.W.mg_of X Gn a, sc__law_of, ck__law_of, p_law_of, fun us hl => match us, hl with | [_, _], _ => rfl, fun e => by cases e⟩
theorem o__law_cells (X : K.In h) (Gn : h.Ns mainGlobals mg) (d : DefIn K "_law_cells" (topS 95)) : DefOk K mg fns cns G 63 ⟨"_law_cells", ["script", "limit"], false⟩ := by
  obtain ⟨f, fd, a, F, kV, doc, pm, cdv, ct, an, rfl⟩ := d.ex
  exact ⟨topS 95, f, _, N__law_cells, ir__law_cells, F, PySem.W.mg_of X Gn a, sc__law_cells, ck__law_cells, p_law_cells, fun us hl => match us, hl with | [_, _], _ => rfl, fun e => by cases e⟩
theorem o__law_common (X : K.In h) (Gn : h.Ns mainGlobals mg) (d : DefIn K "_law_common" (topS 96)) : DefOk K mg fns cns G 64 ⟨"_law_common", ["one", "other"], false⟩ := by
  obtain ⟨f, fd, a, F, kV, doc, pm, cdv, ct, an, rfl⟩ := d.ex
  exact ⟨topS 96, f, _, N__law_common, ir__law_common, F, PySem.W.mg_of X Gn a, sc__law_common, ck__law_common, p_law_common, fun us hl => match us, hl with | [_, _], _ => rfl, fun e => by cases e⟩
theorem o__law_fraction (X : K.In h) (Gn : h.Ns mainGlobals mg) (d : DefIn K "_law_fraction" (topS 97)) : DefOk K mg fns cns G 65 ⟨"_law_fraction", ["top", "bottom"], false⟩ := by
  obtain ⟨f, fd, a, F, kV, doc, pm, cdv, ct, an, rfl⟩ := d.ex
  exact ⟨topS 97, f, _, N__law_fraction, ir__law_fraction, F, PySem.W.mg_of X Gn a, sc__law_fraction, ck__law_fraction, p_law_fraction, fun us hl => match us, hl with | [_, _], _ => rfl, fun e => by cases e⟩
theorem o__law_sign (X : K.In h) (Gn : h.Ns mainGlobals mg) (d : DefIn K "_law_sign" (topS 98)) : DefOk K mg fns cns G 66 ⟨"_law_sign", ["number"], false⟩ := by
  obtain ⟨f, fd, a, F, kV, doc, pm, cdv, ct, an, rfl⟩ := d.ex
  exact ⟨topS 98, f, _, N__law_sign, ir__law_sign, F, PySem.W.mg_of X Gn a, sc__law_sign, ck__law_sign, p_law_sign, fun us hl => match us, hl with | [_], _ => rfl, fun e => by cases e⟩
theorem o__law_sign_one (X : K.In h) (Gn : h.Ns mainGlobals mg) (d : DefIn K "_law_sign_one" (topS 99)) : DefOk K mg fns cns G 67 ⟨"_law_sign_one", ["a", "b", "d"], false⟩ := by
  obtain ⟨f, fd, a, F, kV, doc, pm, cdv, ct, an, rfl⟩ := d.ex
  exact ⟨topS 99, f, _, N__law_sign_one, ir__law_sign_one, F, PySem.W.mg_of X Gn a, sc__law_sign_one, ck__law_sign_one, p_law_sign_one, fun us hl => match us, hl with | [_, _, _], _ => rfl, fun e => by cases e⟩
theorem o__law_sign_two (X : K.In h) (Gn : h.Ns mainGlobals mg) (d : DefIn K "_law_sign_two" (topS 100)) : DefOk K mg fns cns G 68 ⟨"_law_sign_two", ["a", "b", "d", "c", "e"], false⟩ := by
  obtain ⟨f, fd, a, F, kV, doc, pm, cdv, ct, an, rfl⟩ := d.ex
  exact ⟨topS 100, f, _, N__law_sign_two, ir__law_sign_two, F, PySem.W.mg_of X Gn a, sc__law_sign_two, ck__law_sign_two, p_law_sign_two, fun us hl => match us, hl with | [_, _, _, _, _], _ => rfl, fun e => by cases e⟩
theorem o__law_number (X : K.In h) (Gn : h.Ns mainGlobals mg) (d : DefIn K "_law_number" (topS 101)) : DefOk K mg fns cns G 69 ⟨"_law_number", ["moment"], false⟩ := by
  obtain ⟨f, fd, a, F, kV, doc, pm, cdv, ct, an, rfl⟩ := d.ex
  exact ⟨topS 101, f, _, N__law_number, ir__law_number, F, PySem.W.mg_of X Gn a, sc__law_number, ck__law_number, p_law_number, fun us hl => match us, hl with | [_], _ => rfl, fun e => by cases e⟩
theorem o__law_compare (X : K.In h) (Gn : h.Ns mainGlobals mg) (d : DefIn K "_law_compare" (topS 102)) : DefOk K mg fns cns G 70 ⟨"_law_compare", ["one", "other"], false⟩ := by
  obtain ⟨f, fd, a, F, kV, doc, pm, cdv, ct, an, rfl⟩ := d.ex
  exact ⟨topS 102, f, _, N__law_compare, ir__law_compare, F, PySem.W.mg_of X Gn a, sc__law_compare, ck__law_compare, p_law_compare, fun us hl => match us, hl with | [_, _], _ => rfl, fun e => by cases e⟩
theorem o__law_drawn_fraction (X : K.In h) (Gn : h.Ns mainGlobals mg) (d : DefIn K "_law_drawn_fraction" (topS 103)) : DefOk K mg fns cns G 71 ⟨"_law_drawn_fraction", ["pot", "most"], false⟩ := by
  obtain ⟨f, fd, a, F, kV, doc, pm, cdv, ct, an, rfl⟩ := d.ex
  exact ⟨topS 103, f, _, N__law_drawn_fraction, ir__law_drawn_fraction, F, PySem.W.mg_of X Gn a, sc__law_drawn_fraction, ck__law_drawn_fraction, p_law_drawn_fraction, fun us hl => match us, hl with | [_, _], _ => rfl, fun e => by cases e⟩
theorem o__law_drawn_point (X : K.In h) (Gn : h.Ns mainGlobals mg) (d : DefIn K "_law_drawn_point" (topS 104)) : DefOk K mg fns cns G 72 ⟨"_law_drawn_point", ["pot", "most"], false⟩ := by
  obtain ⟨f, fd, a, F, kV, doc, pm, cdv, ct, an, rfl⟩ := d.ex
  exact ⟨topS 104, f, _, N__law_drawn_point, ir__law_drawn_point, F, PySem.W.mg_of X Gn a, sc__law_drawn_point, ck__law_drawn_point, p_law_drawn_point, fun us hl => match us, hl with | [_, _], _ => rfl, fun e => by cases e⟩
theorem o__law_drawn_way (X : K.In h) (Gn : h.Ns mainGlobals mg) (d : DefIn K "_law_drawn_way" (topS 105)) : DefOk K mg fns cns G 73 ⟨"_law_drawn_way", ["pot", "legs"], false⟩ := by
  obtain ⟨f, fd, a, F, kV, doc, pm, cdv, ct, an, rfl⟩ := d.ex
  exact ⟨topS 105, f, _, N__law_drawn_way, ir__law_drawn_way, F, PySem.W.mg_of X Gn a, sc__law_drawn_way, ck__law_drawn_way, p_law_drawn_way, fun us hl => match us, hl with | [_, _], _ => rfl, fun e => by cases e⟩
theorem o__law_plus (X : K.In h) (Gn : h.Ns mainGlobals mg) (d : DefIn K "_law_plus" (topS 106)) : DefOk K mg fns cns G 74 ⟨"_law_plus", ["one", "other"], false⟩ := by
  obtain ⟨f, fd, a, F, kV, doc, pm, cdv, ct, an, rfl⟩ := d.ex
  exact ⟨topS 106, f, _, N__law_plus, ir__law_plus, F, PySem.W.mg_of X Gn a, sc__law_plus, ck__law_plus, p_law_plus, fun us hl => match us, hl with | [_, _], _ => rfl, fun e => by cases e⟩
theorem o__law_minus (X : K.In h) (Gn : h.Ns mainGlobals mg) (d : DefIn K "_law_minus" (topS 107)) : DefOk K mg fns cns G 75 ⟨"_law_minus", ["one", "other"], false⟩ := by
  obtain ⟨f, fd, a, F, kV, doc, pm, cdv, ct, an, rfl⟩ := d.ex
  exact ⟨topS 107, f, _, N__law_minus, ir__law_minus, F, PySem.W.mg_of X Gn a, sc__law_minus, ck__law_minus, p_law_minus, fun us hl => match us, hl with | [_, _], _ => rfl, fun e => by cases e⟩
theorem o__law_product (X : K.In h) (Gn : h.Ns mainGlobals mg) (d : DefIn K "_law_product" (topS 108)) : DefOk K mg fns cns G 76 ⟨"_law_product", ["one", "other"], false⟩ := by
  obtain ⟨f, fd, a, F, kV, doc, pm, cdv, ct, an, rfl⟩ := d.ex
  exact ⟨topS 108, f, _, N__law_product, ir__law_product, F, PySem.W.mg_of X Gn a, sc__law_product, ck__law_product, p_law_product, fun us hl => match us, hl with | [_, _], _ => rfl, fun e => by cases e⟩
theorem o__law_at_most (X : K.In h) (Gn : h.Ns mainGlobals mg) (d : DefIn K "_law_at_most" (topS 109)) : DefOk K mg fns cns G 77 ⟨"_law_at_most", ["one", "other"], false⟩ := by
  obtain ⟨f, fd, a, F, kV, doc, pm, cdv, ct, an, rfl⟩ := d.ex
  exact ⟨topS 109, f, _, N__law_at_most, ir__law_at_most, F, PySem.W.mg_of X Gn a, sc__law_at_most, ck__law_at_most, p_law_at_most, fun us hl => match us, hl with | [_, _], _ => rfl, fun e => by cases e⟩
theorem o__law_square_of (X : K.In h) (Gn : h.Ns mainGlobals mg) (d : DefIn K "_law_square_of" (topS 110)) : DefOk K mg fns cns G 78 ⟨"_law_square_of", ["one", "other"], false⟩ := by
  obtain ⟨f, fd, a, F, kV, doc, pm, cdv, ct, an, rfl⟩ := d.ex
  exact ⟨topS 110, f, _, N__law_square_of, ir__law_square_of, F, PySem.W.mg_of X Gn a, sc__law_square_of, ck__law_square_of, p_law_square_of, fun us hl => match us, hl with | [_, _], _ => rfl, fun e => by cases e⟩
theorem o__law_to_side (X : K.In h) (Gn : h.Ns mainGlobals mg) (d : DefIn K "_law_to_side" (topS 111)) : DefOk K mg fns cns G 79 ⟨"_law_to_side", ["point", "one", "other"], false⟩ := by
  obtain ⟨f, fd, a, F, kV, doc, pm, cdv, ct, an, rfl⟩ := d.ex
  exact ⟨topS 111, f, _, N__law_to_side, ir__law_to_side, F, PySem.W.mg_of X Gn a, sc__law_to_side, ck__law_to_side, p_law_to_side, fun us hl => match us, hl with | [_, _, _], _ => rfl, fun e => by cases e⟩
theorem o__law_rim (X : K.In h) (Gn : h.Ns mainGlobals mg) (d : DefIn K "_law_rim" (topS 112)) : DefOk K mg fns cns G 80 ⟨"_law_rim", ["point", "patch"], false⟩ := by
  obtain ⟨f, fd, a, F, kV, doc, pm, cdv, ct, an, rfl⟩ := d.ex
  exact ⟨topS 112, f, _, N__law_rim, ir__law_rim, F, PySem.W.mg_of X Gn a, sc__law_rim, ck__law_rim, p_law_rim, fun us hl => match us, hl with | [_, _], _ => rfl, fun e => by cases e⟩
theorem o__law_latest (X : K.In h) (Gn : h.Ns mainGlobals mg) (d : DefIn K "_law_latest" (topS 113)) : DefOk K mg fns cns G 81 ⟨"_law_latest", ["look", "speed", "patches", "length"], false⟩ := by
  obtain ⟨f, fd, a, F, kV, doc, pm, cdv, ct, an, rfl⟩ := d.ex
  exact ⟨topS 113, f, _, N__law_latest, ir__law_latest, F, PySem.W.mg_of X Gn a, sc__law_latest, ck__law_latest, p_law_latest, fun us hl => match us, hl with | [_, _, _, _], _ => rfl, fun e => by cases e⟩
theorem o__law_is_slow (X : K.In h) (Gn : h.Ns mainGlobals mg) (d : DefIn K "_law_is_slow" (topS 114)) : DefOk K mg fns cns G 82 ⟨"_law_is_slow", ["way", "speed"], false⟩ := by
  obtain ⟨f, fd, a, F, kV, doc, pm, cdv, ct, an, rfl⟩ := d.ex
  exact ⟨topS 114, f, _, N__law_is_slow, ir__law_is_slow, F, PySem.W.mg_of X Gn a, sc__law_is_slow, ck__law_is_slow, p_law_is_slow, fun us hl => match us, hl with | [_, _], _ => rfl, fun e => by cases e⟩
theorem o__law_drawn_patch (X : K.In h) (Gn : h.Ns mainGlobals mg) (d : DefIn K "_law_drawn_patch" (topS 115)) : DefOk K mg fns cns G 83 ⟨"_law_drawn_patch", ["pot"], false⟩ := by
  obtain ⟨f, fd, a, F, kV, doc, pm, cdv, ct, an, rfl⟩ := d.ex
  exact ⟨topS 115, f, _, N__law_drawn_patch, ir__law_drawn_patch, F, PySem.W.mg_of X Gn a, sc__law_drawn_patch, ck__law_drawn_patch, p_law_drawn_patch, fun us hl => match us, hl with | [_], _ => rfl, fun e => by cases e⟩
theorem o__law_place (X : K.In h) (Gn : h.Ns mainGlobals mg) (d : DefIn K "_law_place" (topS 116)) : DefOk K mg fns cns G 84 ⟨"_law_place", ["way", "moment"], false⟩ := by
  obtain ⟨f, fd, a, F, kV, doc, pm, cdv, ct, an, rfl⟩ := d.ex
  exact ⟨topS 116, f, _, N__law_place, ir__law_place, F, PySem.W.mg_of X Gn a, sc__law_place, ck__law_place, p_law_place, fun us hl => match us, hl with | [_, _], _ => rfl, fun e => by cases e⟩
theorem o__law_step_number (X : K.In h) (Gn : h.Ns mainGlobals mg) (d : DefIn K "_law_step_number" (topS 118)) : DefOk K mg fns cns G 85 ⟨"_law_step_number", ["first", "step", "count"], false⟩ := by
  obtain ⟨f, fd, a, F, kV, doc, pm, cdv, ct, an, rfl⟩ := d.ex
  exact ⟨topS 118, f, _, N__law_step_number, ir__law_step_number, F, PySem.W.mg_of X Gn a, sc__law_step_number, ck__law_step_number, p_law_step_number, fun us hl => match us, hl with | [_, _, _], _ => rfl, fun e => by cases e⟩
theorem o__law_steps_to (X : K.In h) (Gn : h.Ns mainGlobals mg) (d : DefIn K "_law_steps_to" (topS 117)) : DefOk K mg fns cns G 86 ⟨"_law_steps_to", ["first", "step", "number"], false⟩ := by
  obtain ⟨f, fd, a, F, kV, doc, pm, cdv, ct, an, rfl⟩ := d.ex
  exact ⟨topS 117, f, _, N__law_steps_to, ir__law_steps_to, F, PySem.W.mg_of X Gn a, sc__law_steps_to, ck__law_steps_to, p_law_steps_to, fun us hl => match us, hl with | [_, _, _], _ => rfl, fun e => by cases e⟩
theorem o__law_own_plan (X : K.In h) (Gn : h.Ns mainGlobals mg) (d : DefIn K "_law_own_plan" (topS 119)) : DefOk K mg fns cns G 87 ⟨"_law_own_plan", ["way", "speed", "patches", "length", "step"], false⟩ := by
  obtain ⟨f, fd, a, F, kV, doc, pm, cdv, ct, an, rfl⟩ := d.ex
  exact ⟨topS 119, f, _, N__law_own_plan, ir__law_own_plan, F, PySem.W.mg_of X Gn a, sc__law_own_plan, ck__law_own_plan, p_law_own_plan, fun us hl => match us, hl with | [_, _, _, _, _], _ => rfl, fun e => by cases e⟩
theorem o__law_kept_speed (X : K.In h) (Gn : h.Ns mainGlobals mg) (d : DefIn K "_law_kept_speed" (topS 120)) : DefOk K mg fns cns G 88 ⟨"_law_kept_speed", ["way"], false⟩ := by
  obtain ⟨f, fd, a, F, kV, doc, pm, cdv, ct, an, rfl⟩ := d.ex
  exact ⟨topS 120, f, _, N__law_kept_speed, ir__law_kept_speed, F, PySem.W.mg_of X Gn a, sc__law_kept_speed, ck__law_kept_speed, p_law_kept_speed, fun us hl => match us, hl with | [_], _ => rfl, fun e => by cases e⟩
theorem o__law_fewer_by_chance (X : K.In h) (Gn : h.Ns mainGlobals mg) (d : DefIn K "_law_fewer_by_chance" (topS 121)) : DefOk K mg fns cns G 89 ⟨"_law_fewer_by_chance", ["pot", "way", "speed", "patches", "length", "step", "many"], false⟩ := by
  obtain ⟨f, fd, a, F, kV, doc, pm, cdv, ct, an, rfl⟩ := d.ex
  exact ⟨topS 121, f, _, N__law_fewer_by_chance, ir__law_fewer_by_chance, F, PySem.W.mg_of X Gn a, sc__law_fewer_by_chance, ck__law_fewer_by_chance, p_law_fewer_by_chance, fun us hl => match us, hl with | [_, _, _, _, _, _, _], _ => rfl, fun e => by cases e⟩
theorem o__law_right (X : K.In h) (Gn : h.Ns mainGlobals mg) (d : DefIn K "_law_right" (topS 122)) : DefOk K mg fns cns G 90 ⟨"_law_right", ["pot"], false⟩ := by
  obtain ⟨f, fd, a, F, kV, doc, pm, cdv, ct, an, rfl⟩ := d.ex
  exact ⟨topS 122, f, _, N__law_right, ir__law_right, F, PySem.W.mg_of X Gn a, sc__law_right, ck__law_right, p_law_right, fun us hl => match us, hl with | [_], _ => rfl, fun e => by cases e⟩
theorem o_law (X : K.In h) (Gn : h.Ns mainGlobals mg) (d : DefIn K "law" (topS 123)) : DefOk K mg fns cns G 91 ⟨"law", ["script"], false⟩ := by
  obtain ⟨f, fd, a, F, kV, doc, pm, cdv, ct, an, rfl⟩ := d.ex
  exact ⟨topS 123, f, _, N_law, ir_law, F, PySem.W.mg_of X Gn a, sc_law, ck_law, p_law, fun us hl => match us, hl with | [_], _ => rfl, fun e => by cases e⟩
theorem all_ok (X : K.In h) (Gn : h.Ns mainGlobals mg) (d0 : DefIn K "is_whole" (topS 10)) (d1 : DefIn K "is_tuple" (topS 11)) (d2 : DefIn K "common" (topS 15)) (d3 : DefIn K "fraction" (topS 16)) (d4 : DefIn K "whole" (topS 17)) (d5 : DefIn K "is_fraction" (topS 18)) (d6 : DefIn K "plus" (topS 19)) (d7 : DefIn K "less" (topS 20)) (d8 : DefIn K "times" (topS 21)) (d9 : DefIn K "over" (topS 22)) (d10 : DefIn K "compared" (topS 23)) (d11 : DefIn K "is_below" (topS 24)) (d12 : DefIn K "root_floor" (topS 28)) (d13 : DefIn K "sign" (topS 29)) (d14 : DefIn K "square" (topS 30)) (d15 : DefIn K "sign_of_one" (topS 31)) (d16 : DefIn K "sign_of_two" (topS 32)) (d17 : DefIn K "discriminant" (topS 33)) (d18 : DefIn K "moment_of_whole" (topS 34)) (d19 : DefIn K "scaled_up" (topS 35)) (d20 : DefIn K "moment_by" (topS 36)) (d21 : DefIn K "told_parts" (topS 37)) (d22 : DefIn K "compared_moments" (topS 38)) (d23 : DefIn K "shifted_by" (topS 39)) (d24 : DefIn K "scaled_by" (topS 40)) (d25 : DefIn K "floor_of" (topS 41)) (d26 : DefIn K "rounded_by" (topS 42)) (d27 : DefIn K "is_point" (topS 45)) (d28 : DefIn K "is_from_nought" (topS 46)) (d29 : DefIn K "check_length" (topS 47)) (d30 : DefIn K "check_speed" (topS 48)) (d31 : DefIn K "point_less" (topS 49)) (d32 : DefIn K "product" (topS 50)) (d33 : DefIn K "is_look" (topS 53)) (d34 : DefIn K "check_look" (topS 54)) (d35 : DefIn K "sides_of" (topS 55)) (d36 : DefIn K "square_of" (topS 56)) (d37 : DefIn K "led" (topS 57)) (d38 : DefIn K "turn" (topS 61)) (d39 : DefIn K "is_ahead" (topS 62)) (d40 : DefIn K "is_patch" (topS 63)) (d41 : DefIn K "is_report" (topS 67)) (d42 : DefIn K "is_way" (topS 68)) (d43 : DefIn K "check_way" (topS 69)) (d44 : DefIn K "legs_of" (topS 70)) (d45 : DefIn K "run_of" (topS 71)) (d46 : DefIn K "leg_at" (topS 72)) (d47 : DefIn K "at_of" (topS 73)) (d48 : DefIn K "speeds" (topS 74)) (d49 : DefIn K "check_patches" (topS 80)) (d50 : DefIn K "check_asked" (topS 81)) (d51 : DefIn K "near_on" (topS 82)) (d52 : DefIn K "rim_of" (topS 83)) (d53 : DefIn K "nearest_rim" (topS 84)) (d54 : DefIn K "root_after" (topS 85)) (d55 : DefIn K "next_of" (topS 86)) (d56 : DefIn K "next_look" (topS 87)) (d57 : DefIn K "check_plan" (topS 88)) (d58 : DefIn K "on_steps" (topS 89)) (d59 : DefIn K "plan" (topS 90)) (d60 : DefIn K "_law_pot" (topS 92)) (d61 : DefIn K "_law_take" (topS 93)) (d62 : DefIn K "_law_of" (topS 94)) (d63 : DefIn K "_law_cells" (topS 95)) (d64 : DefIn K "_law_common" (topS 96)) (d65 : DefIn K "_law_fraction" (topS 97)) (d66 : DefIn K "_law_sign" (topS 98)) (d67 : DefIn K "_law_sign_one" (topS 99)) (d68 : DefIn K "_law_sign_two" (topS 100)) (d69 : DefIn K "_law_number" (topS 101)) (d70 : DefIn K "_law_compare" (topS 102)) (d71 : DefIn K "_law_drawn_fraction" (topS 103)) (d72 : DefIn K "_law_drawn_point" (topS 104)) (d73 : DefIn K "_law_drawn_way" (topS 105)) (d74 : DefIn K "_law_plus" (topS 106)) (d75 : DefIn K "_law_minus" (topS 107)) (d76 : DefIn K "_law_product" (topS 108)) (d77 : DefIn K "_law_at_most" (topS 109)) (d78 : DefIn K "_law_square_of" (topS 110)) (d79 : DefIn K "_law_to_side" (topS 111)) (d80 : DefIn K "_law_rim" (topS 112)) (d81 : DefIn K "_law_latest" (topS 113)) (d82 : DefIn K "_law_is_slow" (topS 114)) (d83 : DefIn K "_law_drawn_patch" (topS 115)) (d84 : DefIn K "_law_place" (topS 116)) (d85 : DefIn K "_law_step_number" (topS 118)) (d86 : DefIn K "_law_steps_to" (topS 117)) (d87 : DefIn K "_law_own_plan" (topS 119)) (d88 : DefIn K "_law_kept_speed" (topS 120)) (d89 : DefIn K "_law_fewer_by_chance" (topS 121)) (d90 : DefIn K "_law_right" (topS 122)) (d91 : DefIn K "law" (topS 123)) : ∀ (i : Nat) (fi : Fi), fns[i]? = some fi → DefOk K mg fns cns G i fi
  | 0, _, e => by cases e; exact o_is_whole X Gn d0
  | 1, _, e => by cases e; exact o_is_tuple X Gn d1
  | 2, _, e => by cases e; exact o_common X Gn d2
  | 3, _, e => by cases e; exact o_fraction X Gn d3
  | 4, _, e => by cases e; exact o_whole X Gn d4
  | 5, _, e => by cases e; exact o_is_fraction X Gn d5
  | 6, _, e => by cases e; exact o_plus X Gn d6
  | 7, _, e => by cases e; exact o_less X Gn d7
  | 8, _, e => by cases e; exact o_times X Gn d8
  | 9, _, e => by cases e; exact o_over X Gn d9
  | 10, _, e => by cases e; exact o_compared X Gn d10
  | 11, _, e => by cases e; exact o_is_below X Gn d11
  | 12, _, e => by cases e; exact o_root_floor X Gn d12
  | 13, _, e => by cases e; exact o_sign X Gn d13
  | 14, _, e => by cases e; exact o_square X Gn d14
  | 15, _, e => by cases e; exact o_sign_of_one X Gn d15
  | 16, _, e => by cases e; exact o_sign_of_two X Gn d16
  | 17, _, e => by cases e; exact o_discriminant X Gn d17
  | 18, _, e => by cases e; exact o_moment_of_whole X Gn d18
  | 19, _, e => by cases e; exact o_scaled_up X Gn d19
  | 20, _, e => by cases e; exact o_moment_by X Gn d20
  | 21, _, e => by cases e; exact o_told_parts X Gn d21
  | 22, _, e => by cases e; exact o_compared_moments X Gn d22
  | 23, _, e => by cases e; exact o_shifted_by X Gn d23
  | 24, _, e => by cases e; exact o_scaled_by X Gn d24
  | 25, _, e => by cases e; exact o_floor_of X Gn d25
  | 26, _, e => by cases e; exact o_rounded_by X Gn d26
  | 27, _, e => by cases e; exact o_is_point X Gn d27
  | 28, _, e => by cases e; exact o_is_from_nought X Gn d28
  | 29, _, e => by cases e; exact o_check_length X Gn d29
  | 30, _, e => by cases e; exact o_check_speed X Gn d30
  | 31, _, e => by cases e; exact o_point_less X Gn d31
  | 32, _, e => by cases e; exact o_product X Gn d32
  | 33, _, e => by cases e; exact o_is_look X Gn d33
  | 34, _, e => by cases e; exact o_check_look X Gn d34
  | 35, _, e => by cases e; exact o_sides_of X Gn d35
  | 36, _, e => by cases e; exact o_square_of X Gn d36
  | 37, _, e => by cases e; exact o_led X Gn d37
  | 38, _, e => by cases e; exact o_turn X Gn d38
  | 39, _, e => by cases e; exact o_is_ahead X Gn d39
  | 40, _, e => by cases e; exact o_is_patch X Gn d40
  | 41, _, e => by cases e; exact o_is_report X Gn d41
  | 42, _, e => by cases e; exact o_is_way X Gn d42
  | 43, _, e => by cases e; exact o_check_way X Gn d43
  | 44, _, e => by cases e; exact o_legs_of X Gn d44
  | 45, _, e => by cases e; exact o_run_of X Gn d45
  | 46, _, e => by cases e; exact o_leg_at X Gn d46
  | 47, _, e => by cases e; exact o_at_of X Gn d47
  | 48, _, e => by cases e; exact o_speeds X Gn d48
  | 49, _, e => by cases e; exact o_check_patches X Gn d49
  | 50, _, e => by cases e; exact o_check_asked X Gn d50
  | 51, _, e => by cases e; exact o_near_on X Gn d51
  | 52, _, e => by cases e; exact o_rim_of X Gn d52
  | 53, _, e => by cases e; exact o_nearest_rim X Gn d53
  | 54, _, e => by cases e; exact o_root_after X Gn d54
  | 55, _, e => by cases e; exact o_next_of X Gn d55
  | 56, _, e => by cases e; exact o_next_look X Gn d56
  | 57, _, e => by cases e; exact o_check_plan X Gn d57
  | 58, _, e => by cases e; exact o_on_steps X Gn d58
  | 59, _, e => by cases e; exact o_plan X Gn d59
  | 60, _, e => by cases e; exact o__law_pot X Gn d60
  | 61, _, e => by cases e; exact o__law_take X Gn d61
  | 62, _, e => by cases e; exact o__law_of X Gn d62
  | 63, _, e => by cases e; exact o__law_cells X Gn d63
  | 64, _, e => by cases e; exact o__law_common X Gn d64
  | 65, _, e => by cases e; exact o__law_fraction X Gn d65
  | 66, _, e => by cases e; exact o__law_sign X Gn d66
  | 67, _, e => by cases e; exact o__law_sign_one X Gn d67
  | 68, _, e => by cases e; exact o__law_sign_two X Gn d68
  | 69, _, e => by cases e; exact o__law_number X Gn d69
  | 70, _, e => by cases e; exact o__law_compare X Gn d70
  | 71, _, e => by cases e; exact o__law_drawn_fraction X Gn d71
  | 72, _, e => by cases e; exact o__law_drawn_point X Gn d72
  | 73, _, e => by cases e; exact o__law_drawn_way X Gn d73
  | 74, _, e => by cases e; exact o__law_plus X Gn d74
  | 75, _, e => by cases e; exact o__law_minus X Gn d75
  | 76, _, e => by cases e; exact o__law_product X Gn d76
  | 77, _, e => by cases e; exact o__law_at_most X Gn d77
  | 78, _, e => by cases e; exact o__law_square_of X Gn d78
  | 79, _, e => by cases e; exact o__law_to_side X Gn d79
  | 80, _, e => by cases e; exact o__law_rim X Gn d80
  | 81, _, e => by cases e; exact o__law_latest X Gn d81
  | 82, _, e => by cases e; exact o__law_is_slow X Gn d82
  | 83, _, e => by cases e; exact o__law_drawn_patch X Gn d83
  | 84, _, e => by cases e; exact o__law_place X Gn d84
  | 85, _, e => by cases e; exact o__law_step_number X Gn d85
  | 86, _, e => by cases e; exact o__law_steps_to X Gn d86
  | 87, _, e => by cases e; exact o__law_own_plan X Gn d87
  | 88, _, e => by cases e; exact o__law_kept_speed X Gn d88
  | 89, _, e => by cases e; exact o__law_fewer_by_chance X Gn d89
  | 90, _, e => by cases e; exact o__law_right X Gn d90
  | 91, _, e => by cases e; exact o_law X Gn d91
  | i + 92, _, e => by cases e
theorem cns_ok (c0 : CnAt K mg "PAIR_numbers" (cst 0)) (c1 : CnAt K mg "PAIR_moments" (cst 1)) (c2 : CnAt K mg "QUAD" (cst 2)) (c3 : CnAt K mg "NOUGHT_numbers" (cst 3)) (c4 : CnAt K mg "PAIR_points" (cst 4)) (c5 : CnAt K mg "PAIR_nearing" (cst 5)) (c6 : CnAt K mg "MOST_CORNERS" (cst 6)) (c7 : CnAt K mg "LEAST_CORNERS" (cst 7)) (c8 : CnAt K mg "PAIR_ways" (cst 8)) (c9 : CnAt K mg "MOST_REPORTS" (cst 9)) (c10 : CnAt K mg "MOST_PATCHES" (cst 10)) (c11 : CnAt K mg "NOUGHT_looks" (cst 11)) (c12 : CnAt K mg "ONE" (cst 12)) (c13 : CnAt K mg "MOST_STEPS" (cst 13)) : ∀ (j : Nat) (x : Str), cns[j]? = some x → CnAt K mg x (G.cn j)
  | 0, _, e => by cases e; exact c0
  | 1, _, e => by cases e; exact c1
  | 2, _, e => by cases e; exact c2
  | 3, _, e => by cases e; exact c3
  | 4, _, e => by cases e; exact c4
  | 5, _, e => by cases e; exact c5
  | 6, _, e => by cases e; exact c6
  | 7, _, e => by cases e; exact c7
  | 8, _, e => by cases e; exact c8
  | 9, _, e => by cases e; exact c9
  | 10, _, e => by cases e; exact c10
  | 11, _, e => by cases e; exact c11
  | 12, _, e => by cases e; exact c12
  | 13, _, e => by cases e; exact c13
  | i + 14, _, e => by cases e
theorem bn_ok (X : K.In h) (Gn : h.Ns mainGlobals mg) (z0 : PySem.W.nsIn K mainGlobals "len" = some none) (z1 : PySem.W.nsIn K mainGlobals "abs" = some none) (z2 : PySem.W.nsIn K mainGlobals "all" = some none) (z3 : PySem.W.nsIn K mainGlobals "any" = some none) (z4 : PySem.W.nsIn K mainGlobals "max" = some none) (z5 : PySem.W.nsIn K mainGlobals "min" = some none) (z6 : PySem.W.nsIn K mainGlobals "int" = some none) (z7 : PySem.W.nsIn K mainGlobals "sum" = some none) (z8 : PySem.W.nsIn K mainGlobals "list" = some none) (z9 : PySem.W.nsIn K mainGlobals "tuple" = some none) (z10 : PySem.W.nsIn K mainGlobals "repr" = some none) (z11 : PySem.W.nsIn K mainGlobals "isinstance" = some none) (z12 : PySem.W.nsIn K mainGlobals "range" = some none) (z13 : PySem.W.nsIn K mainGlobals "zip" = some none) (z14 : PySem.W.nsIn K mainGlobals "enumerate" = some none) (z15 : PySem.W.nsIn K mainGlobals "bool" = some none) (z16 : PySem.W.nsIn K mainGlobals "str" = some none) : ∀ x ∈ bnames, mg x = none := by
  intro x hx
  simp only [bnames, List.mem_cons, List.not_mem_nil, or_false] at hx
  rcases hx with rfl | rfl | rfl | rfl | rfl | rfl | rfl | rfl | rfl | rfl | rfl | rfl | rfl | rfl | rfl | rfl | rfl
  · exact PySem.W.mg_none_of X Gn z0
  · exact PySem.W.mg_none_of X Gn z1
  · exact PySem.W.mg_none_of X Gn z2
  · exact PySem.W.mg_none_of X Gn z3
  · exact PySem.W.mg_none_of X Gn z4
  · exact PySem.W.mg_none_of X Gn z5
  · exact PySem.W.mg_none_of X Gn z6
  · exact PySem.W.mg_none_of X Gn z7
  · exact PySem.W.mg_none_of X Gn z8
  · exact PySem.W.mg_none_of X Gn z9
  · exact PySem.W.mg_none_of X Gn z10
  · exact PySem.W.mg_none_of X Gn z11
  · exact PySem.W.mg_none_of X Gn z12
  · exact PySem.W.mg_none_of X Gn z13
  · exact PySem.W.mg_none_of X Gn z14
  · exact PySem.W.mg_none_of X Gn z15
  · exact PySem.W.mg_none_of X Gn z16
end
end K46
end
section
open PySem PySem.W PyProof.Rows
set_option maxHeartbeats 0 in
theorem PySem.Challenge.cw_crossingstold_k46_whole_plans_of_looks_a_holds : PySem.Challenge.rw_crossingstold_k46_whole_plans_of_looks_a.Holds := by
  w_on; o_law; k_head; (case hw => w_witness2)
  k_fill
  refine Zz.walk_z (l := PySem.Challenge.rw_crossingstold_k46_whole_plans_of_looks_a) (n := 63) (m := 91) (x := "script") (fns := K46.fns) (cns := K46.cns) (fi := ⟨"law", ["script"], false⟩) (fun _ => K46.G) rfl (by decide) rfl ⟨rfl, by decide, by decide⟩ rfl rfl rfl (fun w h Y => PySem.W.kIn_of Y) ?b ?c ?d ?z
  case b =>
    intro w mg h X Gn
    refine' K46.bn_ok X Gn ?_ ?_ ?_ ?_ ?_ ?_ ?_ ?_ ?_ ?_ ?_ ?_ ?_ ?_ ?_ ?_ ?_
    all_goals k_is
  case c =>
    intro w mg h X Gn
    refine' K46.cns_ok ?_ ?_ ?_ ?_ ?_ ?_ ?_ ?_ ?_ ?_ ?_ ?_ ?_ ?_
    · refine' K46.cn_int X Gn ?a; (case a => k_is)
    · refine' K46.cn_int X Gn ?a; (case a => k_is)
    · refine' K46.cn_int X Gn ?a; (case a => k_is)
    · refine' K46.cn_two X Gn ?a ?l; (case a => k_is); (case l => k_is)
    · refine' K46.cn_int X Gn ?a; (case a => k_is)
    · refine' K46.cn_int X Gn ?a; (case a => k_is)
    · refine' K46.cn_int X Gn ?a; (case a => k_is)
    · refine' K46.cn_int X Gn ?a; (case a => k_is)
    · refine' K46.cn_int X Gn ?a; (case a => k_is)
    · refine' K46.cn_int X Gn ?a; (case a => k_is)
    · refine' K46.cn_int X Gn ?a; (case a => k_is)
    · refine' K46.cn_two X Gn ?a ?l; (case a => k_is); (case l => k_is)
    · refine' K46.cn_two X Gn ?a ?l; (case a => k_is); (case l => k_is)
    · refine' K46.cn_int X Gn ?a; (case a => k_is)
  case d =>
    intro w mg h X Gn
    refine' K46.all_ok X Gn ?_ ?_ ?_ ?_ ?_ ?_ ?_ ?_ ?_ ?_ ?_ ?_ ?_ ?_ ?_ ?_ ?_ ?_ ?_ ?_ ?_ ?_ ?_ ?_ ?_ ?_ ?_ ?_ ?_ ?_ ?_ ?_ ?_ ?_ ?_ ?_ ?_ ?_ ?_ ?_ ?_ ?_ ?_ ?_ ?_ ?_ ?_ ?_ ?_ ?_ ?_ ?_ ?_ ?_ ?_ ?_ ?_ ?_ ?_ ?_ ?_ ?_ ?_ ?_ ?_ ?_ ?_ ?_ ?_ ?_ ?_ ?_ ?_ ?_ ?_ ?_ ?_ ?_ ?_ ?_ ?_ ?_ ?_ ?_ ?_ ?_ ?_ ?_ ?_ ?_ ?_ ?_
    all_goals (refine' K46.def_in ?a ?l ?c ?k; (case a => k_is); (case l => k_is); (case c => k_is); (case k => k_is))
  case z =>
    intro w ns M q hl hq
    exact ⟨ns, rfl, hl, hq⟩
end
