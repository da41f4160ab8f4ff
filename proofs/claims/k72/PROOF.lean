import PyProof.Rows.All
import Wide.All
import OpenK.AllK
import Wide.FinOn
import HandS.ForMost
import HandS.TupAny
import HandS.IsInst
import HandS.Conv
import HandS.Text
import HandS.Rev
import HandS.Zip
import HandS.More
import HandS.Defaults
import HandS.Ends
import HandS.HeadEnd
import HandS.Head0
import HandS.Head1
import HandS.Head2
import HandS.HeadHook1
import HandS.HeadHook2
import HandS.HeadHook3
import HandS.HeadHook4
import KE.KStateDown
import PySem.Challenge.RW_fractionwords_k72_places_and_letters
set_option Elab.async false
set_option linter.all false
set_option maxRecDepth 100000
set_option maxHeartbeats 4000000
/-! Fw1: data as trees, how a heap bears them, slots that own what they change. -/
namespace Fw
open PySem PySem.Spec PyProof.Rows L2
abbrev St := L2.St

inductive D where
  | non | bl (b : Bool) | int (i : Int) | str (s : Str) | tup (xs : List D) | lst (xs : List D) | rd (xs : List D)

mutual
inductive Rep (K : PySem.W.Frag) (G : Hp) : V → D → Prop
  | non : Rep K G .non .non
  | bl (b : Bool) : Rep K G (.bl b) (.bl b)
  | int (i : Int) : Rep K G (.int i) (.int i)
  | str (x : Str) : Rep K G (.str x) (.str x)
  | tup {a : Addr} {vs : List V} {ds : List D} : SqT K G a vs → RepL K G vs ds → Rep K G (.ref a) (.tup ds)
  | lst {a : Addr} {vs : List V} {ds : List D} : G a = some (.lst vs) → RepL K G vs ds → Rep K G (.ref a) (.lst ds)
  | rd {a : Addr} {vs : List V} {ds : List D} : SqL K G a vs → RepL K G vs ds → Rep K G (.ref a) (.rd ds)
inductive RepL (K : PySem.W.Frag) (G : Hp) : List V → List D → Prop
  | nil : RepL K G [] []
  | cons {v : V} {vs : List V} {d : D} {ds : List D} : Rep K G v d → RepL K G vs ds → RepL K G (v :: vs) (d :: ds)
end

section
variable {K : PySem.W.Frag} {G G' H H' : Hp}
theorem sqT_mono {a : Addr} {vs : List V} (e : Same G G') (h : SqT K G a vs) : SqT K G' a vs := by
  rcases h with (h | ⟨o, h⟩) | h
  · exact .inl (.inl (e _ _ h))
  · exact .inl (.inr ⟨o, e _ _ h⟩)
  · exact .inr h
theorem sqL_mono {a : Addr} {vs : List V} (e : Same G G') (h : SqL K G a vs) : SqL K G' a vs := e.seq h
mutual
theorem Rep.mono (e : Same G G') : ∀ {v : V} {d : D}, Rep K G v d → Rep K G' v d
  | _, _, .non => .non
  | _, _, .bl b => .bl b
  | _, _, .int i => .int i
  | _, _, .str x => .str x
  | _, _, .tup h l => .tup (sqT_mono e h) (RepL.mono e l)
  | _, _, .lst h l => .lst (e _ _ h) (RepL.mono e l)
  | _, _, .rd h l => .rd (sqL_mono e h) (RepL.mono e l)
theorem RepL.mono (e : Same G G') : ∀ {v : List V} {d : List D}, RepL K G v d → RepL K G' v d
  | _, _, .nil => .nil
  | _, _, .cons h l => .cons (Rep.mono e h) (RepL.mono e l)
end
theorem RepL.length : ∀ {vs : List V} {ds : List D}, RepL K G vs ds → vs.length = ds.length
  | _, _, .nil => rfl
  | _, _, .cons _ l => by rw [List.length_cons, List.length_cons, l.length]
theorem RepL.get : ∀ {vs : List V} {ds : List D} {i : Nat} {d : D}, RepL K G vs ds → ds[i]? = some d → ∃ v, vs[i]? = some v ∧ Rep K G v d
  | _, _, _, _, .nil, e => by simp at e
  | _, _, 0, _, .cons h _, e => by simp at e; subst e; exact ⟨_, rfl, h⟩
  | _, _, i + 1, d, .cons _ l, e => by
    obtain ⟨v, h1, h2⟩ := RepL.get (i := i) (d := d) l (by simpa using e)
    exact ⟨v, by simpa using h1, h2⟩
theorem RepL.getV : ∀ {vs : List V} {ds : List D} {i : Nat} {v : V}, RepL K G vs ds → vs[i]? = some v → ∃ d, ds[i]? = some d ∧ Rep K G v d
  | _, _, _, _, .nil, e => by simp at e
  | _, _, 0, _, .cons h _, e => by simp at e; subst e; exact ⟨_, rfl, h⟩
  | _, _, i + 1, v, .cons _ l, e => by
    obtain ⟨d, h1, h2⟩ := RepL.getV (i := i) (v := v) l (by simpa using e)
    exact ⟨d, by simpa using h1, h2⟩
theorem RepL.append : ∀ {vs ws : List V} {ds es : List D}, RepL K G vs ds → RepL K G ws es → RepL K G (vs ++ ws) (ds ++ es)
  | _, _, _, _, .nil, s => s
  | _, _, _, _, .cons h l, s => .cons h (RepL.append l s)
theorem RepL.take : ∀ {vs : List V} {ds : List D} (n : Nat), RepL K G vs ds → RepL K G (vs.take n) (ds.take n)
  | _, _, 0, _ => .nil
  | _, _, _ + 1, .nil => .nil
  | _, _, n + 1, .cons h l => .cons h (RepL.take n l)
theorem RepL.drop : ∀ {vs : List V} {ds : List D} (n : Nat), RepL K G vs ds → RepL K G (vs.drop n) (ds.drop n)
  | _, _, 0, h => h
  | _, _, _ + 1, .nil => .nil
  | _, _, n + 1, .cons _ l => RepL.drop n l
theorem RepL.set {x : V} {d : D} (r : Rep K G x d) : ∀ {vs : List V} {ds : List D} (n : Nat), RepL K G vs ds → RepL K G (vs.set n x) (ds.set n d)
  | _, _, _, .nil => .nil
  | _, _, 0, .cons _ l => .cons r l
  | _, _, n + 1, .cons h l => .cons h (RepL.set r n l)
theorem RepL.reverse {vs : List V} {ds : List D} (h : RepL K G vs ds) : RepL K G vs.reverse ds.reverse := by
  induction vs generalizing ds with
  | nil => cases h; exact .nil
  | cons v vs ih =>
    cases h with
    | cons h l => rw [List.reverse_cons, List.reverse_cons]; exact (ih l).append (.cons h .nil)
theorem RepL.ints {ns : List Int} : RepL K G (ns.map V.int) (ns.map D.int) := by
  induction ns with
  | nil => exact .nil
  | cons n r ih => exact .cons (.int n) ih
theorem RepL.dropLast {vs : List V} {ds : List D} (h : RepL K G vs ds) : RepL K G vs.dropLast ds.dropLast := by
  rw [List.dropLast_eq_take, List.dropLast_eq_take, h.length]
  exact h.take _
end

/-! ### what a slot owns -/
inductive O where
  | lst (xs : List D)
def O.frz : O → D
  | .lst xs => .lst xs
inductive Sl where
  | no | d (d : D) | own (o : O) | bor (o : O) | fz (d : D)
def Sl.isOwn : Sl → Bool
  | .own _ => true
  | .bor _ => true
  | _ => false
inductive T where
  | d (d : D) | new (o : O) | sl (i : Nat)

def ORep (K : PySem.W.Frag) (G H : Hp) (a : Addr) : O → Prop
  | .lst xs => ∃ vs, H a = some (.lst vs) ∧ G a = none ∧ RepL K G vs xs
def SlAt (K : PySem.W.Frag) (H0 G H : Hp) (σ : St) (i : Nat) : Sl → Prop
  | .no => True
  | .d d => ∃ v, σ[i]? = some (some v) ∧ Rep K G v d
  | .own o => ∃ a, σ[i]? = some (some (.ref a)) ∧ ORep K G H a o ∧ H0 a = none
  | .bor o => ∃ a, σ[i]? = some (some (.ref a)) ∧ ORep K G H a o
  | .fz d => ∃ v, σ[i]? = some (some v) ∧ Rep K G v d
def Sl.pinned : Sl → Bool
  | .bor _ => true
  | .fz _ => true
  | _ => false
def OwnAt (σ : St) (ρ : List Sl) (i : Nat) (a : Addr) : Prop := σ[i]? = some (some (.ref a)) ∧ ∃ s, ρ[i]? = some s ∧ s.isOwn = true
def Ow (σ : St) (ρ : List Sl) (a : Addr) : Prop := ∃ i, OwnAt σ ρ i a
structure StRep (K : PySem.W.Frag) (B : Nat → Option Addr) (H0 G H : Hp) (σ : St) (ρ : List Sl) : Prop where
  pin : ∀ i a, B i = some a → σ[i]? = some (some (.ref a)) ∧ ∃ s, ρ[i]? = some s ∧ s.pinned = true
  ali : ∀ b, H0 b ≠ none → H b ≠ none
  sub : Same G H
  len : σ.length = ρ.length
  at_ : ∀ i s, ρ[i]? = some s → SlAt K H0 G H σ i s
  inj : ∀ i j a, OwnAt σ ρ i a → OwnAt σ ρ j a → i = j
structure Stp (G H : Hp) (Ow : Addr → Prop) (G' H' : Hp) : Prop where
  same : Same G G'
  keep : ∀ b o, H b = some o → ¬ Ow b → H' b = some o ∧ (G b = none → G' b = none)
  alive : ∀ b, H b ≠ none → H' b ≠ none
/-- what grew: nothing changed, new objects -/
structure Gro (G H G' H' : Hp) : Prop where
  g : Same G G'
  h : Same H H'
  sub : Same G' H'
  keep : ∀ b, H b ≠ none → G b = none → G' b = none
/-- an expression's way from its start -/
structure EI (K : PySem.W.Frag) (B : Nat → Option Addr) (H0 : Hp) (σ : St) (Gs Hs : Hp) (ρs : List Sl) (G H : Hp) (ρ : List Sl) : Prop where
  s0 : StRep K B H0 Gs Hs σ ρs
  s1 : StRep K B H0 G H σ ρ
  st : Stp Gs Hs (Ow σ ρs) G H
  ow : ∀ b, Ow σ ρ b → Ow σ ρs b
def TRep (K : PySem.W.Frag) (Hs G H : Hp) (σ : St) (v : V) : T → Prop
  | .d d => Rep K G v d
  | .new o => ∃ p, v = .ref p ∧ ORep K G H p o ∧ Hs p = none
  | .sl i => σ[i]? = some (some v)
/-- what is read now -/
def VRep (K : PySem.W.Frag) (G H : Hp) (v : V) : D → Prop
  | .lst ds => ∃ a vs, v = .ref a ∧ H a = some (.lst vs) ∧ RepL K G vs ds
  | d => Rep K G v d
def PRep (K : PySem.W.Frag) (Hs G H : Hp) (v : V) : T → Prop
  | .d d => Rep K G v d
  | .new o => ∃ p, v = .ref p ∧ ORep K G H p o ∧ Hs p = none
  | .sl _ => False

section
variable {K : PySem.W.Frag} {B : Nat → Option Addr} {H0 G H G' H' G1 H1 G2 H2 Gs Hs : Hp} {σ : St} {ρ ρ' ρs ρ1 ρ2 : List Sl}
theorem same_upd {H : Hp} {p : Addr} {o : HO} (h : H p = none) : Same H (upd H p o) := fun b x e => by
  rw [upd_ne (ne_of_none e h)]
  exact e
theorem ORep.alive {a : Addr} {o : O} (h : ORep K G H a o) : H a ≠ none := by
  cases o with
  | lst xs => obtain ⟨vs, e, _⟩ := h; rw [e]; simp
theorem ORep.gnone {a : Addr} {o : O} (h : ORep K G H a o) : G a = none := by
  cases o with
  | lst xs => obtain ⟨vs, _, e, _⟩ := h; exact e
theorem ORep.move {a : Addr} {o : O} (h : ORep K G H a o) (hg : Same G G') (hk : ∀ x, H a = some x → H' a = some x ∧ (G a = none → G' a = none)) : ORep K G' H' a o := by
  cases o with
  | lst xs =>
    obtain ⟨vs, e, g, r⟩ := h
    exact ⟨vs, (hk _ e).1, (hk _ e).2 g, r.mono hg⟩
theorem SlAt.own_of {i : Nat} {s : Sl} (h : SlAt K H0 G H σ i s) (ho : s.isOwn = true) : ∃ a o, σ[i]? = some (some (.ref a)) ∧ ORep K G H a o ∧ (s = .own o ∨ s = .bor o) := by
  cases s with
  | no => cases ho
  | d d => cases ho
  | own o => obtain ⟨a, e, r, _⟩ := h; exact ⟨a, o, e, r, .inl rfl⟩
  | bor o => obtain ⟨a, e, r⟩ := h; exact ⟨a, o, e, r, .inr rfl⟩
  | fz d => cases ho
theorem StRep.alive (h : StRep K B H0 G H σ ρ) {b : Addr} (hb : Ow σ ρ b) : H b ≠ none := by
  obtain ⟨i, e, s, hs, ho⟩ := hb
  obtain ⟨a, o, e2, r, _⟩ := (h.at_ i s hs).own_of ho
  rw [e] at e2; cases e2
  exact r.alive
theorem StRep.gnone (h : StRep K B H0 G H σ ρ) {b : Addr} (hb : Ow σ ρ b) : G b = none := by
  obtain ⟨i, e, s, hs, ho⟩ := hb
  obtain ⟨a, o, e2, r, _⟩ := (h.at_ i s hs).own_of ho
  rw [e] at e2; cases e2
  exact r.gnone
theorem Stp.refl {P : Addr → Prop} : Stp G H P G H := ⟨Same.refl _, fun _ _ e _ => ⟨e, fun z => z⟩, fun _ z => z⟩
theorem Stp.trans {P P1 : Addr → Prop} (a : Stp G H P G1 H1) (hp : ∀ b, P1 b → P b ∨ H b = none) (b : Stp G1 H1 P1 G2 H2) : Stp G H P G2 H2 where
  same := a.same.trans b.same
  keep := fun x o e n => by
    obtain ⟨e1, g1⟩ := a.keep x o e n
    obtain ⟨e2, g2⟩ := b.keep x o e1 fun z => (hp x z).elim n fun q => by rw [e] at q; cases q
    exact ⟨e2, fun z => g2 (g1 z)⟩
  alive := fun x z => b.alive x (a.alive x z)
theorem Stp.gro {P : Addr → Prop} (h : Gro G H G' H') : Stp G H P G' H' where
  same := h.g
  keep := fun b o e _ => ⟨h.h b o e, h.keep b (by rw [e]; simp)⟩
  alive := fun b z => by
    cases q : H b with
    | none => exact absurd q z
    | some o => rw [h.h b o q]; simp
theorem Gro.refl (s : Same G H) : Gro G H G H := ⟨Same.refl _, Same.refl _, s, fun _ _ z => z⟩
theorem Gro.trans (a : Gro G H G1 H1) (b : Gro G1 H1 G2 H2) : Gro G H G2 H2 where
  g := a.g.trans b.g
  h := a.h.trans b.h
  sub := b.sub
  keep := fun x z g => b.keep x (by
    cases q : H x with
    | none => exact absurd q z
    | some o => rw [a.h x o q]; simp) (a.keep x z g)
theorem Gro.fresh (a : Gro G H G' H') {p : Addr} (h : H' p = none) : H p = none := a.h.free h
/-- a new object, tracked and frozen -/
theorem Gro.new {p : Addr} {o : HO} (s : Same G H) (h : H p = none) : Gro G H (upd G p o) (upd H p o) where
  g := same_upd (s.free h)
  h := same_upd h
  sub := fun b x e => by
    by_cases hb : b = p
    · subst hb; rw [upd_same] at e ⊢; exact e
    · rw [upd_ne hb] at e ⊢; exact s _ _ e
  keep := fun b z g => by
    have hb : b ≠ p := fun e => z (e ▸ h)
    rw [upd_ne hb]; exact g
/-- a new object, tracked, not frozen -/
theorem Gro.tmp {p : Addr} {o : HO} (s : Same G H) (h : H p = none) : Gro G H G (upd H p o) where
  g := Same.refl _
  h := same_upd h
  sub := fun b x e => by
    have hb : b ≠ p := fun z => by subst z; rw [s.free h] at e; cases e
    rw [upd_ne hb]; exact s _ _ e
  keep := fun b z g => g
theorem StRep.step (h : StRep K B H0 G H σ ρ) {P : Addr → Prop} (st : Stp G H P G' H') (sub : Same G' H') (hp : ∀ b, P b → ¬ Ow σ ρ b) : StRep K B H0 G' H' σ ρ where
  pin := h.pin
  ali := fun b z => st.alive b (h.ali b z)
  sub := sub
  len := h.len
  inj := h.inj
  at_ := fun i s e => by
    have q := h.at_ i s e
    cases s with
    | no => trivial
    | d d => obtain ⟨v, e1, r⟩ := q; exact ⟨v, e1, r.mono st.same⟩
    | own o =>
      obtain ⟨a, e1, r, f⟩ := q
      exact ⟨a, e1, r.move st.same fun x ex => st.keep a x ex fun z => hp a z ⟨i, e1, _, e, rfl⟩, f⟩
    | bor o =>
      obtain ⟨a, e1, r⟩ := q
      exact ⟨a, e1, r.move st.same fun x ex => st.keep a x ex fun z => hp a z ⟨i, e1, _, e, rfl⟩⟩
    | fz d => obtain ⟨v, e1, r⟩ := q; exact ⟨v, e1, r.mono st.same⟩
theorem StRep.gro (h : StRep K B H0 G H σ ρ) (g : Gro G H G' H') : StRep K B H0 G' H' σ ρ := h.step (P := fun _ => False) (Stp.gro g) g.sub fun _ z => z.elim
theorem EI.refl (h : StRep K B H0 G H σ ρ) : EI K B H0 σ G H ρ G H ρ := ⟨h, h, Stp.refl, fun _ z => z⟩
theorem EI.trans (a : EI K B H0 σ Gs Hs ρs G1 H1 ρ1) (b : EI K B H0 σ G1 H1 ρ1 G2 H2 ρ2) : EI K B H0 σ Gs Hs ρs G2 H2 ρ2 :=
  ⟨a.s0, b.s1, a.st.trans (fun x z => .inl (a.ow x z)) b.st, fun x z => a.ow x (b.ow x z)⟩
theorem EI.gro (a : EI K B H0 σ Gs Hs ρs G H ρ) (g : Gro G H G' H') : EI K B H0 σ Gs Hs ρs G' H' ρ :=
  a.trans ⟨a.s1, a.s1.gro g, Stp.gro g, fun _ z => z⟩
theorem EI.fresh (a : EI K B H0 σ Gs Hs ρs G H ρ) {p : Addr} (h : H p = none) : Hs p = none := by
  cases q : Hs p with
  | none => rfl
  | some o => exact absurd h (a.st.alive p (by rw [q]; simp))
/-- a value of an earlier part, kept -/
theorem TRep.move {v : V} {t : T} (a : EI K B H0 σ Gs Hs ρs G1 H1 ρ1) (b : EI K B H0 σ G1 H1 ρ1 G2 H2 ρ2) (h : TRep K Hs G1 H1 σ v t) : TRep K Hs G2 H2 σ v t := by
  cases t with
  | d d => exact Rep.mono b.st.same h
  | new o =>
    obtain ⟨p, e, r, f⟩ := h
    refine ⟨p, e, r.move b.st.same fun x ex => b.st.keep p x ex fun z => ?_, f⟩
    exact absurd f (a.s0.alive (a.ow p z))
  | sl i => exact h
theorem TRep.back {v : V} {t : T} (a : EI K B H0 σ Gs Hs ρs G1 H1 ρ1) (h : TRep K H1 G2 H2 σ v t) : TRep K Hs G2 H2 σ v t := by
  cases t with
  | d d => exact h
  | new o => obtain ⟨p, e, r, f⟩ := h; exact ⟨p, e, r, a.fresh f⟩
  | sl i => exact h
theorem PRep.t {v : V} {t : T} (a : EI K B H0 σ Gs Hs ρs G H ρ) (h : PRep K H G' H' v t) : TRep K Hs G' H' σ v t := by
  cases t with
  | d d => exact h
  | new o => obtain ⟨p, e, r, f⟩ := h; exact ⟨p, e, r, a.fresh f⟩
  | sl i => exact h.elim

/-! ### views, settling -/
def O.view : O → D
  | .lst xs => .lst xs
def view (ρ : List Sl) : T → Option D
  | .d d => some d
  | .new o => some o.view
  | .sl i => match ρ[i]? with
    | some (.own o) => some o.view
    | some (.bor o) => some o.view
    | some (.d d) => some d
    | some (.fz d) => some d
    | _ => none
theorem VRep.of_rep (s : Same G H) {v : V} {d : D} (h : Rep K G v d) : VRep K G H v d := by
  cases h with
  | lst e l => exact ⟨_, _, rfl, s _ _ e, l⟩
  | non => exact .non
  | bl b => exact .bl b
  | int b => exact .int b
  | str b => exact .str b
  | tup e l => exact .tup e l
  | rd e l => exact .rd e l
theorem ORep.view {a : Addr} {o : O} (h : ORep K G H a o) : VRep K G H (.ref a) o.view := by
  cases o with
  | lst xs => obtain ⟨vs, e, _, r⟩ := h; exact ⟨a, vs, rfl, e, r⟩
theorem view_ok {v : V} {t : T} {d : D} (s : StRep K B H0 G H σ ρ) (h : TRep K Hs G H σ v t) (e : view ρ t = some d) : VRep K G H v d := by
  cases t with
  | d d' => cases e; exact VRep.of_rep s.sub h
  | new o => cases e; obtain ⟨p, rfl, r, _⟩ := h; exact r.view
  | sl i =>
    have h1 : σ[i]? = some (some v) := h
    unfold view at e
    cases q : ρ[i]? with
    | none => simp [q] at e
    | some sl =>
      have z := s.at_ i sl q
      cases sl with
      | no => simp [q] at e
      | d d' => simp [q] at e; subst e; obtain ⟨v', e1, r⟩ := z; rw [h1] at e1; cases e1; exact VRep.of_rep s.sub r
      | own o => simp [q] at e; subst e; obtain ⟨a, e1, r, _⟩ := z; rw [h1] at e1; cases e1; exact r.view
      | bor o => simp [q] at e; subst e; obtain ⟨a, e1, r⟩ := z; rw [h1] at e1; cases e1; exact r.view
      | fz d' => simp [q] at e; subst e; obtain ⟨v', e1, r⟩ := z; rw [h1] at e1; cases e1; exact VRep.of_rep s.sub r
def settle (ρ : List Sl) : T → Option (D × List Sl)
  | .d d => some (d, ρ)
  | .new o => some (o.frz, ρ)
  | .sl i => match ρ[i]? with
    | some (.own o) => some (o.frz, ρ.set i (.d o.frz))
    | some (.bor o) => some (o.frz, ρ.set i (.fz o.frz))
    | some (.d d) => some (d, ρ)
    | some (.fz d) => some (d, ρ)
    | _ => none
/-- freezing an object that stands at a -/
theorem ORep.freeze {a : Addr} {o : O} (s : Same G H) (h : ORep K G H a o) : ∃ x, H a = some x ∧ Same G (upd G a x) ∧ Same (upd G a x) H ∧ Rep K (upd G a x) (.ref a) o.frz := by
  cases o with
  | lst xs =>
    obtain ⟨vs, e, g, r⟩ := h
    refine ⟨.lst vs, e, same_upd g, fun b x q => ?_, .lst upd_same (r.mono (same_upd g))⟩
    by_cases hb : b = a
    · subst hb; rw [upd_same] at q; cases q; exact e
    · rw [upd_ne hb] at q; exact s _ _ q
theorem getset {α : Type} {l : List α} {i j : Nat} {x y : α} (h : (l.set i x)[j]? = some y) : (i = j ∧ y = x ∧ i < l.length) ∨ (i ≠ j ∧ l[j]? = some y) := by
  by_cases e : i = j
  · subst e
    rw [List.getElem?_set_self'] at h
    cases q : l[i]? with
    | none => simp [q] at h
    | some z => simp [q] at h; exact .inl ⟨rfl, h.symm, (List.getElem?_eq_some_iff.mp q).1⟩
  · rw [List.getElem?_set_ne e] at h; exact .inr ⟨e, h⟩
/-- slot i is frozen -/
theorem StRep.freeze {i : Nat} {o : O} {a : Addr} {s s' : Sl} (h : StRep K B H0 G H σ ρ) (q : ρ[i]? = some s) (ho : (s = .own o ∧ s' = .d o.frz) ∨ (s = .bor o ∧ s' = .fz o.frz)) (ha : σ[i]? = some (some (.ref a))) :
    ∃ x, H a = some x ∧ StRep K B H0 (upd G a x) H σ (ρ.set i s') ∧ Rep K (upd G a x) (.ref a) o.frz ∧ Same G (upd G a x) ∧ Ow σ ρ a ∧ (∀ b, Ow σ (ρ.set i s') b → Ow σ ρ b) := by
  have hr : ORep K G H a o := by
    have z := h.at_ i s q
    rcases ho with ⟨rfl, _⟩ | ⟨rfl, _⟩
    · obtain ⟨b, e, r, _⟩ := z; rw [ha] at e; cases e; exact r
    · obtain ⟨b, e, r⟩ := z; rw [ha] at e; cases e; exact r
  have hio : s.isOwn = true := by rcases ho with ⟨rfl, _⟩ | ⟨rfl, _⟩ <;> rfl
  have hio' : s'.isOwn = false := by rcases ho with ⟨_, rfl⟩ | ⟨_, rfl⟩ <;> rfl
  obtain ⟨x, hx, g1, g2, rp⟩ := hr.freeze h.sub
  have own0 : OwnAt σ ρ i a := ⟨ha, s, q, hio⟩
  have back : ∀ {j b}, OwnAt σ (ρ.set i s') j b → OwnAt σ ρ j b ∧ i ≠ j := fun {j b} ⟨e1, s1, e2, e3⟩ => by
    rcases getset e2 with ⟨rfl, rfl, _⟩ | ⟨n, e4⟩
    · rw [hio'] at e3; cases e3
    · exact ⟨⟨e1, s1, e4, e3⟩, n⟩
  refine ⟨x, hx, ⟨fun j b hb => ?_, h.ali, g2, by rw [List.length_set]; exact h.len, fun j s1 e1 => ?_, fun j k b u1 u2 => h.inj j k b (back u1).1 (back u2).1⟩, rp, g1, ⟨i, own0⟩, fun b ⟨j, hj⟩ => ⟨j, (back hj).1⟩⟩
  · obtain ⟨p1, s1, p2, p3⟩ := h.pin j b hb
    refine ⟨p1, ?_⟩
    by_cases hij : i = j
    · subst hij
      rw [q] at p2; cases p2
      rcases ho with ⟨rfl, _⟩ | ⟨rfl, rfl⟩
      · cases p3
      · exact ⟨_, by rw [List.getElem?_set_self (List.getElem?_eq_some_iff.mp q).1], rfl⟩
    · exact ⟨s1, by rw [List.getElem?_set_ne hij]; exact p2, p3⟩
  rcases getset e1 with ⟨rfl, rfl, _⟩ | ⟨n, e4⟩
  · rcases ho with ⟨_, rfl⟩ | ⟨_, rfl⟩
    · exact ⟨_, ha, rp⟩
    · exact ⟨_, ha, rp⟩
  · have z := h.at_ j s1 e4
    have gk : ∀ b, OwnAt σ ρ j b → G b = none → upd G a x b = none := fun b hb gb => by
      have : b ≠ a := fun e => n (h.inj i j a own0 (e ▸ hb))
      rw [upd_ne this]; exact gb
    cases s1 with
    | no => trivial
    | d d => obtain ⟨v, e5, r⟩ := z; exact ⟨v, e5, r.mono g1⟩
    | own o1 => obtain ⟨b, e5, r, f⟩ := z; exact ⟨b, e5, r.move g1 fun y ey => ⟨ey, gk b ⟨e5, _, e4, rfl⟩⟩, f⟩
    | bor o1 => obtain ⟨b, e5, r⟩ := z; exact ⟨b, e5, r.move g1 fun y ey => ⟨ey, gk b ⟨e5, _, e4, rfl⟩⟩⟩
    | fz d => obtain ⟨v, e5, r⟩ := z; exact ⟨v, e5, r.mono g1⟩
/-- a temporary object is frozen -/
theorem EI.freezeNew {p : Addr} {o : O} (a : EI K B H0 σ Gs Hs ρs G H ρ) (r : ORep K G H p o) (f : Hs p = none) : ∃ G', EI K B H0 σ Gs Hs ρs G' H ρ ∧ Same G G' ∧ Rep K G' (.ref p) o.frz := by
  obtain ⟨x, hx, g1, g2, rp⟩ := r.freeze a.s1.sub
  have np : ¬ Ow σ ρ p := fun z => absurd f (a.s0.alive (a.ow p z))
  refine ⟨upd G p x, ⟨a.s0, ?_, ?_, a.ow⟩, g1, rp⟩
  · refine a.s1.step (P := fun b => b = p) ⟨g1, fun b o e n => ⟨e, fun z => ?_⟩, fun _ z => z⟩ g2 fun b hb z => np (hb ▸ z)
    rw [upd_ne n]; exact z
  · refine ⟨a.st.same.trans g1, fun b o e n => ?_, a.st.alive⟩
    obtain ⟨e1, e2⟩ := a.st.keep b o e n
    refine ⟨e1, fun z => ?_⟩
    have : b ≠ p := fun q => by subst q; rw [f] at e; cases e
    rw [upd_ne this]; exact e2 z
theorem settle_ok {v : V} {t : T} {d : D} (a : EI K B H0 σ Gs Hs ρs G H ρ) (h : TRep K Hs G H σ v t) (e : settle ρ t = some (d, ρ')) : ∃ G', EI K B H0 σ Gs Hs ρs G' H ρ' ∧ Same G G' ∧ Rep K G' v d := by
  cases t with
  | d d' => cases e; exact ⟨G, a, Same.refl _, h⟩
  | new o =>
    cases e
    obtain ⟨p, rfl, r, f⟩ := h
    exact a.freezeNew r f
  | sl i =>
    have h1 : σ[i]? = some (some v) := h
    unfold settle at e
    cases q : ρ[i]? with
    | none => simp [q] at e
    | some sl =>
      have z := a.s1.at_ i sl q
      have fz : ∀ o b s', ((sl = .own o ∧ s' = .d o.frz) ∨ (sl = .bor o ∧ s' = .fz o.frz)) → σ[i]? = some (some (.ref b)) → d = o.frz → ρ' = ρ.set i s' → ∃ G', EI K B H0 σ Gs Hs ρs G' H ρ' ∧ Same G G' ∧ Rep K G' v d := fun o b s' ho hb hd hr => by
        subst hd hr
        rw [h1] at hb; cases hb
        obtain ⟨x, hx, s2, rp, g1, oa, ob⟩ := a.s1.freeze q ho h1
        refine ⟨_, ⟨a.s0, s2, ⟨a.st.same.trans g1, fun c o' e' n => ?_, a.st.alive⟩, fun c hc => a.ow c (ob c hc)⟩, g1, rp⟩
        obtain ⟨e1, e2⟩ := a.st.keep c o' e' n
        refine ⟨e1, fun y => ?_⟩
        have : c ≠ b := fun w => n (w ▸ a.ow b oa)
        rw [upd_ne this]; exact e2 y
      cases sl with
      | no => simp [q] at e
      | d d' =>
        simp [q] at e
        obtain ⟨rfl, rfl⟩ := e
        obtain ⟨v', e1, r⟩ := z; rw [h1] at e1; cases e1
        exact ⟨G, a, Same.refl _, r⟩
      | fz d' =>
        simp [q] at e
        obtain ⟨rfl, rfl⟩ := e
        obtain ⟨v', e1, r⟩ := z; rw [h1] at e1; cases e1
        exact ⟨G, a, Same.refl _, r⟩
      | own o =>
        simp [q] at e
        obtain ⟨b, e1, _⟩ := z
        exact fz o b _ (.inl ⟨rfl, rfl⟩) e1 e.1.symm e.2.symm
      | bor o =>
        simp [q] at e
        obtain ⟨b, e1, _⟩ := z
        exact fz o b _ (.inr ⟨rfl, rfl⟩) e1 e.1.symm e.2.symm
end
end Fw

set_option maxHeartbeats 4000000
/-! Fw2: the small language and its evaluator. -/
namespace Fw
open PySem PySem.Spec PyProof.Rows L2

inductive Tg where
  | nm (i : Nat) | tp (ts : List Tg)
inductive Bl where
  | len | abs | min | max | int | str | tuple | list
  deriving DecidableEq
inductive Ty where
  | str | int | bool | tuple | list
  deriving DecidableEq
inductive Mt where
  | append | extend | pop
  deriving DecidableEq

mutual
inductive IE where
  | var (i : Nat) | non | bl (b : Bool) | int (i : Int) | str (s : Str) | glo (x : Str)
  | bin (op : Operator) (a b : IE) | neg (a : IE) | cmp (op : CmpOp) (a b : IE) | chn (op op' : CmpOp) (a b c : IE)
  | and_ (a b : IE) | or_ (a b : IE) | one (a : IE) | not_ (a : IE) | ife (c a b : IE)
  | ix (a b : IE) | kix (x : Str) (a : IE) | slc (a lo hi : IE) | nop | frz (a : IE)
  | tup (as : IAs) | lst (as : IAs)
  | call (f : Str) (as : IAs) | blt (f : Bl) (as : IAs) | isi (a : IE) (ts : List Ty) | rngs (tup : Bool) (as : IAs) | lrev (a : IE)
  | mth (m : Mt) (o : IE) (as : IAs)
  | lc (it : II) (tg : Tg) (c : IE) (e : IE) (own : List Nat)
  | lc2 (it : II) (tg : Tg) (it1 : II) (tg1 : Tg) (c : IE) (e : IE) (own : List Nat)
inductive IAs where
  | nil | cons (a : IE) (r : IAs)
inductive II where
  | seq (e : IE) | rng (as : IAs) | zip (a b : IE) | enm (a : IE) | rev (a : IE)
end
mutual
inductive IS where
  | asg (i : Nat) (e : IE) | asgT (t : Tg) (e : IE) | par (i j : Nat) (a b : IE) | aug (i : Nat) (op : Operator) (e : IE) | setI (o i e : IE)
  | ex (e : IE) | if_ (c : IE) (a b : ISs) | for_ (t : Tg) (it : II) (body : ISs) | whl (c : IE) (body : ISs)
  | ret (e : IE) | retN | brk | cnt | pass | nvr
inductive ISs where
  | nil | cons (s : IS) (r : ISs)
end

inductive Arg where
  | fr (d : D) | bo (o : O)
/-- what a call may use -/
structure Cfg where
  call : Str → List Arg → Option (T × List Sl)
  glo : Str → Option D
  wf : Nat
  kd : Str → Option (List (Str × D))

/-! ### operations by values -/
mutual
def D.pd : D → PyData
  | .non => .none
  | .bl b => .bool b
  | .int i => .int i
  | .str s => .str s
  | .tup xs => .tuple (D.pds xs)
  | .lst xs => .list (D.pds xs)
  | .rd xs => .list (D.pds xs)
def D.pds : List D → List PyData
  | [] => []
  | d :: ds => d.pd :: D.pds ds
end
def D.flat : D → Bool
  | .non => true | .bl _ => true | .int _ => true | .str _ => true | _ => false
def D.v0 : D → V
  | .non => .non | .bl b => .bl b | .int i => .int i | .str s => .str s | _ => .non
def bD (b : Bool) : T := .d (.bl b)
def iD (i : Int) : T := .d (.int i)
def binF : Operator → D → D → Option T
  | .Add, .int i, .int j => some (iD (i + j))
  | .Add, .str i, .str j => if i.length + j.length ≤ sizeLine then some (.d (.str (i ++ j))) else none
  | .Add, .tup xs, .tup ys => if xs.length + ys.length ≤ sizeLine then some (.d (.tup (xs ++ ys))) else none
  | .Add, .lst xs, .lst ys => if xs.length + ys.length ≤ sizeLine then some (.new (.lst (xs ++ ys))) else none
  | .Sub, .int i, .int j => some (iD (i - j))
  | .Mult, .int i, .int j => if (-(2 ^ 64) < i ∧ i < 2 ^ 64) ∨ (-(2 ^ 64) < j ∧ j < 2 ^ 64) then some (iD (i * j)) else none
  | .Mult, .lst xs, .int k => if -(2 ^ 63) ≤ k ∧ k < 2 ^ 63 ∧ xs.length * k.toNat ≤ sizeLine then some (.new (.lst (List.replicate k.toNat xs).flatten)) else none
  | .FloorDiv, .int i, .int j => if j ≠ 0 ∧ j.natAbs < 1073741824 then some (iD (i.fdiv j)) else none
  | .Mod, .int i, .int j => if j ≠ 0 then some (iD (i.fmod j)) else none
  | .Pow, .int i, .int j => if 0 ≤ j ∧ j ≤ 1000000 ∧ i.natAbs < 2 ^ 64 then some (iD (i ^ j.toNat)) else none
  | _, _, _ => none
def D.scalEq : D → D → Option Bool
  | .non, .non => some true | .non, .int _ => some false | .int _, .non => some false | .non, .bl _ => some false | .bl _, .non => some false | .non, .str _ => some false | .str _, .non => some false
  | .int i, .int j => some (decide (i = j)) | .bl a, .bl b => some (decide (a = b)) | .str a, .str b => some (decide (a = b))
  | .int _, .str _ => some false | .str _, .int _ => some false | .bl _, .str _ => some false | .str _, .bl _ => some false
  | _, _ => none
def eqF (d e : D) : Option Bool := match d.scalEq e with
  | some b => some b
  | none => if SeqAt.shaped d.pd = true ∧ SeqAt.shaped e.pd = true then some (PyData.eqv d.pd e.pd) else none
def inF (x : D) : D → Option Bool
  | .tup xs => if x.flat = true ∧ xs.all D.flat = true then some (inV x.v0 (xs.map D.v0)) else none
  | .lst xs => if x.flat = true ∧ xs.all D.flat = true then some (inV x.v0 (xs.map D.v0)) else none
  | _ => none
def cmpF : CmpOp → D → D → Option Bool
  | .Eq, d, e => eqF d e
  | .NotEq, d, e => (eqF d e).map (!·)
  | .Lt, .int i, .int j => some (decide (i < j))
  | .LtE, .int i, .int j => some (decide (i ≤ j))
  | .Gt, .int i, .int j => some (decide (j < i))
  | .GtE, .int i, .int j => some (decide (j ≤ i))
  | .In, x, y => inF x y
  | .NotIn, x, y => (inF x y).map (!·)
  | .Is, .non, .non => some true
  | .Is, .bl _, .non => some false
  | .Is, .int _, .non => some false
  | .Is, .str _, .non => some false
  | .Is, .tup _, .non => some false
  | .Is, .lst _, .non => some false
  | .IsNot, .non, .non => some false
  | .IsNot, .bl _, .non => some true
  | .IsNot, .int _, .non => some true
  | .IsNot, .str _, .non => some true
  | .IsNot, .tup _, .non => some true
  | .IsNot, .lst _, .non => some true
  | _, _, _ => none
def ixF : D → D → Option T
  | .tup xs, .int i => (atI xs i).map .d
  | .lst xs, .int i => (atI xs i).map .d
  | .rd xs, .int i => (atI xs i).map .d
  | .str z, .int i => if z.length ≤ sizeLine then (atI z.cps.toList i).map fun c => .d (.str ⟨#[c]⟩) else none
  | _, _ => none
def cutD {α : Type} (xs : List α) (lo hi : Option Int) : List α := (xs.drop (HT.sIx xs.length 0 lo)).take (HT.sIx xs.length xs.length hi - HT.sIx xs.length 0 lo)
def slF : D → Option Int → Option Int → Option T
  | .tup xs, lo, hi => some (.d (.tup (cutD xs lo hi)))
  | .lst xs, lo, hi => some (.new (.lst (cutD xs lo hi)))
  | _, _, _ => none
def negF : D → Option T
  | .int i => some (iD (-i))
  | _ => none
def D.ints : List D → Option (List Int)
  | [] => some []
  | .int i :: r => (D.ints r).map (i :: ·)
  | _ :: _ => none
def bltF : Bl → List D → Option T
  | .len, [.tup xs] => some (iD xs.length)
  | .len, [.lst xs] => some (iD xs.length)
  | .len, [.rd xs] => some (iD xs.length)
  | .len, [.str z] => if z.length ≤ sizeLine then some (iD z.length) else none
  | .abs, [.int i] => some (iD (if i < 0 then -i else i))
  | .min, [.int i, .int j] => some (iD (if j < i then j else i))
  | .max, [.int i, .int j] => some (iD (if j > i then j else i))
  | .int, [.int i] => some (iD i)
  | .int, [.bl b] => some (iD (if b then 1 else 0))
  | .int, [.str a] => if a.length ≤ 640 then (PySem.intText? a).map iD else none
  | .str, [.int i] => if i.natAbs.log2 < 1920 then some (.d (.str (toString i))) else none
  | .tuple, [.tup xs] => some (.d (.tup xs))
  | .tuple, [.lst xs] => some (.d (.tup xs))
  | .list, [.tup xs] => some (.new (.lst xs))
  | .list, [.lst xs] => some (.new (.lst xs))
  | _, _ => none
def D.isTy : D → Ty → Option Bool
  | .str _, t => some (decide (t = .str))
  | .int _, t => some (decide (t = .int))
  | .bl _, t => some (decide (t = .bool) || decide (t = .int))
  | .non, _ => some false
  | .tup _, t => some (decide (t = .tuple))
  | .lst _, t => some (decide (t = .list))
  | .rd _, _ => none
def isiF (d : D) : List Ty → Option Bool
  | [] => some false
  | t :: ts => (d.isTy t).bind fun a => (isiF d ts).map fun b => a || b
def rngL (a b : Int) : List D := (List.range (b - a).toNat).map fun (k : Nat) => D.int (a + (k : Int))
def rngF : List D → Option (List D)
  | [.int b] => if -(2 ^ 62) ≤ b ∧ b < 2 ^ 62 then some (rngL 0 b) else none
  | [.int a, .int b] => if -(2 ^ 62) ≤ a ∧ a < 2 ^ 62 ∧ -(2 ^ 62) ≤ b ∧ b < 2 ^ 62 then some (rngL a b) else none
  | _ => none
def items : D → Option (List D)
  | .tup xs => some xs
  | .lst xs => some xs
  | .str z => some (z.cps.toList.map fun c => .str ⟨#[c]⟩)
  | _ => none
def seqOf : D → Option (List D)
  | .tup xs => some xs
  | .lst xs => some xs
  | _ => none

/-! ### slots -/
def bindable (ρ : List Sl) (i : Nat) : Bool := match ρ[i]? with
  | some (.bor _) => false
  | some (.fz _) => false
  | some _ => true
  | none => false
mutual
def bindT : Tg → D → List Sl → Option (List Sl)
  | .nm i, d, ρ => if bindable ρ i then some (ρ.set i (.d d)) else none
  | .tp ts, .tup ds, ρ => bindTs ts ds ρ
  | .tp _, _, _ => none
def bindTs : List Tg → List D → List Sl → Option (List Sl)
  | [], [], ρ => some ρ
  | t :: ts, d :: ds, ρ => match bindT t d ρ with
    | some ρ' => bindTs ts ds ρ'
    | none => none
  | _, _, _ => none
end
def store (ρ : List Sl) (i : Nat) (t : T) : Option (List Sl) :=
  match t with
  | .d d => if bindable ρ i then some (ρ.set i (.d d)) else none
  | .new o => if bindable ρ i then some (ρ.set i (.own o)) else none
  | .sl j => match settle ρ (.sl j) with
    | some (d, ρ') => if bindable ρ' i then some (ρ'.set i (.d d)) else none
    | none => none
def toArg (ρ : List Sl) : T → Option Arg
  | .d d => some (.fr d)
  | .new o => some (.bo o)
  | .sl i => match ρ[i]? with
    | some (.own o) => some (.bo o)
    | some (.bor o) => some (.bo o)
    | some (.d d) => some (.fr d)
    | some (.fz d) => some (.fr d)
    | _ => none
def toArgs (ρ : List Sl) : List T → Option (List Arg)
  | [] => some []
  | t :: ts => match toArg ρ t, toArgs ρ ts with
    | some a, some as => some (a :: as)
    | _, _ => none
/-- how many new things are handed over -/
def news : List T → Nat
  | [] => 0
  | .new _ :: ts => news ts + 1
  | _ :: ts => news ts
/-- the slots that are lent -/
def lent (ρ : List Sl) : List T → List Nat
  | [] => []
  | .sl i :: ts => match ρ[i]? with
    | some (.own _) => i :: lent ρ ts
    | some (.bor _) => i :: lent ρ ts
    | _ => lent ρ ts
  | _ :: ts => lent ρ ts
/-- an object comes back to the slot that lent it -/
def back1 (s b : Sl) : Option Sl := match s, b with
  | .own _, .bor o => some (.own o)
  | .bor _, .bor o => some (.bor o)
  | .own _, .fz d => some (.d d)
  | .bor _, .fz d => some (.fz d)
  | _, _ => none
def backs (ρ : List Sl) : List T → List Sl → Option (List (Nat × Sl))
  | [], [] => some []
  | .sl i :: ts, b :: bs => match ρ[i]? with
    | some (.own o) => (back1 (.own o) b).bind fun s => (backs ρ ts bs).map fun r => (i, s) :: r
    | some (.bor o) => (back1 (.bor o) b).bind fun s => (backs ρ ts bs).map fun r => (i, s) :: r
    | _ => backs ρ ts bs
  | .d _ :: ts, _ :: bs => backs ρ ts bs
  | .new _ :: ts, _ :: bs => backs ρ ts bs
  | _, _ => none
def setAll (ρ : List Sl) : List (Nat × Sl) → List Sl
  | [] => ρ
  | p :: r => (setAll ρ r).set p.1 p.2
def views (ρ : List Sl) : List T → Option (List D)
  | [] => some []
  | t :: ts => match view ρ t, views ρ ts with
    | some d, some ds => some (d :: ds)
    | _, _ => none
def wipeS (ρ : List Sl) : List Nat → List Sl
  | [] => ρ
  | v :: vs => (wipeS ρ vs).set v .no
def restS (ρ0 ρ : List Sl) : List Nat → List Sl
  | [] => ρ
  | v :: vs => (restS ρ0 ρ vs).set v ((ρ0[v]?).getD .no)
def noOwn (ρ : List Sl) (vs : List Nat) : Bool := vs.all fun v => match ρ[v]? with
  | some (.own _) => false
  | some (.bor _) => false
  | some (.fz _) => false
  | some _ => true
  | none => false
/-- how an argument is taken: 0 as it is, 1 a new thing is frozen, 2 frozen -/
def taken (m : Nat) (ρ : List Sl) (t : T) : Option (T × List Sl) :=
  match m with
  | 0 => some (t, ρ)
  | 1 => match t with
    | .new o => some (.d o.frz, ρ)
    | t => some (t, ρ)
  | _ => match settle ρ t with
    | some (d, ρ') => some (.d d, ρ')
    | none => none
def Ds : List T → Option (List D)
  | [] => some []
  | .d d :: ts => (Ds ts).map (d :: ·)
  | _ :: _ => none
/-- a comprehension's turns -/
def turns (f : D → List Sl → Option (List D × List Sl)) : List D → List Sl → Option (List D × List Sl)
  | [], ρ => some ([], ρ)
  | d :: ds, ρ => match f d ρ with
    | some (x, ρ1) => (match turns f ds ρ1 with
      | some (r, ρ2) => some (x ++ r, ρ2)
      | none => none)
    | none => none
def setO (ρ : List Sl) (i : Nat) (o : O) : Option (List Sl) := match ρ[i]? with
  | some (.own _) => some (ρ.set i (.own o))
  | some (.bor _) => some (ρ.set i (.bor o))
  | _ => none
def getO (ρ : List Sl) (i : Nat) : Option O := match ρ[i]? with
  | some (.own o) => some o
  | some (.bor o) => some o
  | _ => none
/-- a method that changes the list in slot i -/
def mutF : Mt → List D → List D → Option (D × List D)
  | .append, xs, [d] => if xs.length < sizeLine then some (.non, xs ++ [d]) else none
  | .extend, xs, [d] => (seqOf d).bind fun ys => if xs.length + ys.length ≤ sizeLine then some (.non, xs ++ ys) else none
  | .pop, xs, [] => (xs[xs.length - 1]?).map fun d => (d, xs.dropLast)
  | _, _, _ => none

inductive Fl where
  | nx | bk | ct | rt (t : T)

mutual
def Tg.ix : Tg → List Nat
  | .nm i => [i]
  | .tp ts => Tg.ixs ts
def Tg.ixs : List Tg → List Nat
  | [] => []
  | t :: ts => t.ix ++ Tg.ixs ts
end
def IE.isNop : IE → Bool
  | .nop => true
  | _ => false
abbrev Rs (α : Type) : Type := Option (α × List Sl)
def asB (r : Rs T) : Rs Bool := r.bind fun r => match r.1 with
  | .d (.bl b) => some (b, r.2)
  | _ => none
def asC (n : Bool) (r : Rs T) (ρ : List Sl) : Rs Bool := bif n then some (true, ρ) else asB r
def asP (n : Bool) (r : Rs T) (ρ : List Sl) : Rs (Option Int) := bif n then some (none, ρ) else r.bind fun r => match r.1 with
  | .d (.int i) => some (some i, r.2)
  | _ => none
def asD (r : Rs T) : Rs D := r.bind fun r => settle r.2 r.1
def vw2 (f : D → D → Option T) (ρ : List Sl) (t u : T) : Rs T := (view ρ t).bind fun x => (view ρ u).bind fun y => (f x y).map fun z => (z, ρ)
def vw1 (f : D → Option T) (ρ : List Sl) (t : T) : Rs T := (view ρ t).bind fun x => (f x).map fun z => (z, ρ)
def vws (f : List D → Option T) (ρ : List Sl) (ts : List T) : Rs T := (views ρ ts).bind fun xs => (f xs).map fun z => (z, ρ)
def dB (o : Option Bool) : Option T := o.map fun b => .d (.bl b)
def rngsF (f : Bool) (ds : List D) : Option T := (rngF ds).bind fun xs => if xs.length ≤ 16777216 then some (bif f then .d (.tup xs) else .new (.lst xs)) else none
def lrevF : D → Option T
  | .lst xs => some (.new (.lst xs.reverse))
  | _ => none
def tupF (ts : List T) : Option T := (Ds ts).bind fun ds => if ds.length ≤ sizeLine then some (.d (.tup ds)) else none
def lstF (ts : List T) : Option T := (Ds ts).bind fun ds => if ds.length ≤ sizeLine then some (.new (.lst ds)) else none
def callF (call : Str → List Arg → Option (T × List Sl)) (f : Str) (ts : List T) (ρ : List Sl) : Rs T :=
  (toArgs ρ ts).bind fun args => if (lent ρ ts).Nodup ∧ news ts ≤ 1 then (call f args).bind fun r => (match r.1 with
    | .sl _ => none
    | t => (backs ρ ts r.2).map fun l => (t, setAll ρ l)) else none
def mthF (m : Mt) (i : Nat) (ts : List T) (ρ : List Sl) : Rs T :=
  (views ρ ts).bind fun ds => (getO ρ i).bind fun o => match o with
    | .lst xs => (mutF m xs ds).bind fun r => (setO ρ i (.lst r.2)).map fun ρ3 => (.d r.1, ρ3)
def slOf : T → Option Nat
  | .sl i => some i
  | _ => none
def zipF (d e : D) : Option (List D) := (seqOf d).bind fun xs => (seqOf e).map fun ys => (xs.zip ys).map fun p => .tup [p.1, p.2]
def enmF : D → Option (List D)
  | .lst xs => some (xs.zipIdx.map fun p => .tup [.int p.2, p.1])
  | _ => none
def kixF (kv : List (Str × D)) : D → Option T
  | .str z => (kv.lookup z).map T.d
  | _ => none
/-- a comprehension's end -/
def lcEnd (ρ1 : List Sl) (own : List Nat) (r : Rs (List D)) : Rs T := r.bind fun r => if r.1.length ≤ sizeLine then some (.new (.lst r.1), restS ρ1 r.2 own) else none
/-- a comprehension's turn -/
def lcTurn (own : List Nat) (tg : Tg) (c : List Sl → Rs Bool) (e : List Sl → Rs D) (x : D) (ρ : List Sl) : Rs (List D) :=
  (bindT tg x ρ).bind fun ρ3 => (c ρ3).bind fun r => if r.1 then (e r.2).bind fun s => some ([s.1], wipeS s.2 own) else some ([], wipeS r.2 own)

/-- a turn of a comprehension with a second source -/
def lcTurn2 (own : List Nat) (tg : Tg) (vs1 : List Nat) (f : List Sl → Rs (List D)) (tg1 : Tg) (c : List Sl → Rs Bool) (e : List Sl → Rs D) (x : D) (ρ : List Sl) : Rs (List D) :=
  (bindT tg x ρ).bind fun ρ3 => (f ρ3).bind fun r => if noOwn r.2 vs1 then (turns (lcTurn vs1 tg1 c e) r.1 (wipeS r.2 vs1)).bind fun s => some (s.1, wipeS (restS r.2 s.2 vs1) own) else none

section
variable (C : Cfg)
mutual
def evE : IE → List Sl → Rs T
  | .var i, ρ => (ρ[i]?).bind fun s => match s with
    | .d d => some (.d d, ρ)
    | .own _ => some (.sl i, ρ)
    | .bor _ => some (.sl i, ρ)
    | .fz d => some (.d d, ρ)
    | .no => none
  | .non, ρ => some (.d .non, ρ)
  | .bl b, ρ => some (.d (.bl b), ρ)
  | .int i, ρ => some (.d (.int i), ρ)
  | .str s, ρ => some (.d (.str s), ρ)
  | .glo x, ρ => (C.glo x).map fun d => (.d d, ρ)
  | .bin op a b, ρ => (evE a ρ).bind fun r => (evE b r.2).bind fun s => vw2 (binF op) s.2 r.1 s.1
  | .neg a, ρ => (evE a ρ).bind fun r => vw1 negF r.2 r.1
  | .cmp op a b, ρ => (evE a ρ).bind fun r => (evE b r.2).bind fun s => vw2 (fun x y => dB (cmpF op x y)) s.2 r.1 s.1
  | .chn op op' a b c, ρ => (evE a ρ).bind fun r => (evE b r.2).bind fun s => (asB (vw2 (fun x y => dB (cmpF op x y)) s.2 r.1 s.1)).bind fun q =>
      if q.1 then (evE c q.2).bind fun w => vw2 (fun x y => dB (cmpF op' x y)) w.2 s.1 w.1 else some (.d (.bl false), q.2)
  | .and_ a b, ρ => (asB (evE a ρ)).bind fun r => if r.1 then evE b r.2 else some (.d (.bl false), r.2)
  | .or_ a b, ρ => (asB (evE a ρ)).bind fun r => if r.1 then some (.d (.bl true), r.2) else evE b r.2
  | .one a, ρ => evE a ρ
  | .not_ a, ρ => (asB (evE a ρ)).bind fun r => some (.d (.bl (!r.1)), r.2)
  | .ife c a b, ρ => (asB (evE c ρ)).bind fun r => if r.1 then evE a r.2 else evE b r.2
  | .kix x a, ρ => (C.kd x).bind fun kv => (evE a ρ).bind fun r => vw1 (kixF kv) r.2 r.1
  | .ix a b, ρ => (evE a ρ).bind fun r => (evE b r.2).bind fun s => vw2 ixF s.2 r.1 s.1
  | .slc a lo hi, ρ => (evE a ρ).bind fun r => (asP lo.isNop (evE lo r.2) r.2).bind fun l => (asP hi.isNop (evE hi l.2) l.2).bind fun h => vw1 (fun x => slF x l.1 h.1) h.2 r.1
  | .nop, _ => none
  | .tup as, ρ => (evA 2 as ρ).bind fun r => (tupF r.1).map fun t => (t, r.2)
  | .lst as, ρ => (evA 2 as ρ).bind fun r => (lstF r.1).map fun t => (t, r.2)
  | .frz a, ρ => (asD (evE a ρ)).map fun r => (.d r.1, r.2)
  | .call f as, ρ => (evA 0 as ρ).bind fun r => callF C.call f r.1 r.2
  | .blt f as, ρ => (evA 0 as ρ).bind fun r => vws (bltF f) r.2 r.1
  | .isi a ts, ρ => (evE a ρ).bind fun r => vw1 (fun d => dB (isiF d ts)) r.2 r.1
  | .rngs f as, ρ => (evA 0 as ρ).bind fun r => vws (rngsF f) r.2 r.1
  | .lrev a, ρ => (evE a ρ).bind fun r => vw1 lrevF r.2 r.1
  | .mth m o as, ρ => (evE o ρ).bind fun r => (slOf r.1).bind fun i => (evA (if m = .append then 2 else 0) as r.2).bind fun s => mthF m i s.1 s.2
  | .lc it tg c e own, ρ => if noOwn ρ own then (evI it ρ).bind fun r => if noOwn r.2 own then
      lcEnd r.2 own (turns (lcTurn own tg (fun ρ3 => asC c.isNop (evE c ρ3) ρ3) (fun ρ4 => asD (evE e ρ4))) r.1 (wipeS r.2 own)) else none else none
  | .lc2 it tg it1 tg1 c e own, ρ => if noOwn ρ own then (evI it ρ).bind fun r => if noOwn r.2 own then
      lcEnd r.2 own (turns (lcTurn2 own tg tg1.ix (fun ρ3 => evI it1 ρ3) tg1 (fun ρ3 => asC c.isNop (evE c ρ3) ρ3) (fun ρ4 => asD (evE e ρ4))) r.1 (wipeS r.2 own)) else none else none
def evA (m : Nat) : IAs → List Sl → Rs (List T)
  | .nil, ρ => some ([], ρ)
  | .cons a r, ρ => (evE a ρ).bind fun x => (taken m x.2 x.1).bind fun y => (evA m r y.2).bind fun z => some (y.1 :: z.1, z.2)
def evI : II → List Sl → Rs (List D)
  | .seq e, ρ => (asD (evE e ρ)).bind fun r => (items r.1).map fun xs => (xs, r.2)
  | .rng as, ρ => (evA 0 as ρ).bind fun r => (views r.2 r.1).bind fun ds => (rngF ds).map fun xs => (xs, r.2)
  | .zip a b, ρ => (asD (evE a ρ)).bind fun r => (asD (evE b r.2)).bind fun s => (zipF r.1 s.1).map fun xs => (xs, s.2)
  | .enm a, ρ => (asD (evE a ρ)).bind fun r => (enmF r.1).map fun xs => (xs, r.2)
  | .rev a, ρ => (asD (evE a ρ)).bind fun r => (seqOf r.1).map fun xs => (xs.reverse, r.2)
end

/-- the turns of a for -/
def forS (f : List Sl → Rs Fl) (tg : Tg) : List D → List Sl → Rs Fl
  | [], ρ => some (.nx, ρ)
  | d :: ds, ρ => (bindT tg d ρ).bind fun ρ1 => (f ρ1).bind fun r => match r.1 with
    | .nx => forS f tg ds r.2
    | .ct => forS f tg ds r.2
    | .bk => some (.nx, r.2)
    | .rt t => some (.rt t, r.2)
def whlS (c : List Sl → Rs Bool) (f : List Sl → Rs Fl) : Nat → List Sl → Rs Fl
  | 0, _ => none
  | n + 1, ρ => (c ρ).bind fun q => if q.1 then (f q.2).bind fun r => (match r.1 with
    | .nx => whlS c f n r.2
    | .ct => whlS c f n r.2
    | .bk => some (.nx, r.2)
    | .rt t => some (.rt t, r.2)) else some (.nx, q.2)
def augF (op : Operator) (x : Sl) (y : D) : Option D := match x, y with
  | .d (.int i), .int j => (match op with
    | .Add => some (.int (i + j))
    | .Sub => some (.int (i - j))
    | _ => none)
  | _, _ => none
/-- what a return hands back -/
def retT (ρ : List Sl) : T → Rs T
  | .d d => some (.d d, ρ)
  | .new o => some (.new o, ρ)
  | .sl i => (ρ[i]?).bind fun s => match s with
    | .own o => some (.new o, ρ.set i .no)
    | .bor o => some (.d o.frz, ρ.set i (.fz o.frz))
    | .d d => some (.d d, ρ)
    | .fz d => some (.d d, ρ)
    | .no => none
def setF (ρ : List Sl) (i : Nat) (k : D) (x : D) : Option (List Sl) := (getO ρ i).bind fun o => match o, k with
  | .lst xs, .int k => (ixN xs.length k).bind fun j => setO ρ i (.lst (xs.set j x))
  | _, _ => none
mutual
def exS : IS → List Sl → Rs Fl
  | .asg i e, ρ => (evE C e ρ).bind fun r => (store r.2 i r.1).map fun ρ2 => (.nx, ρ2)
  | .asgT t e, ρ => (asD (evE C e ρ)).bind fun r => (bindT t r.1 r.2).map fun ρ2 => (.nx, ρ2)
  | .par i j a b, ρ => (asD (evE C a ρ)).bind fun r => (asD (evE C b r.2)).bind fun s => if bindable s.2 i && bindable s.2 j then some (.nx, (s.2.set i (.d r.1)).set j (.d s.1)) else none
  | .aug i op e, ρ => (asD (evE C e ρ)).bind fun r => ((ρ[i]?).bind fun s => augF op s r.1).bind fun z => (bindT (.nm i) z r.2).map fun ρ2 => (.nx, ρ2)
  | .setI o i e, ρ => (asD (evE C e ρ)).bind fun r => (evE C o r.2).bind fun s => (slOf s.1).bind fun j => (asD (evE C i s.2)).bind fun k => (setF k.2 j k.1 r.1).map fun ρ2 => (.nx, ρ2)
  | .ex e, ρ => (evE C e ρ).bind fun r => some (.nx, r.2)
  | .if_ c a b, ρ => (asB (evE C c ρ)).bind fun r => if r.1 then exSs a r.2 else exSs b r.2
  | .for_ t it body, ρ => (evI C it ρ).bind fun r => forS (fun ρ => exSs body ρ) t r.1 r.2
  | .whl c body, ρ => whlS (fun ρ => asB (evE C c ρ)) (fun ρ => exSs body ρ) C.wf ρ
  | .ret e, ρ => (evE C e ρ).bind fun r => (retT r.2 r.1).map fun s => (.rt s.1, s.2)
  | .retN, ρ => some (.rt (.d .non), ρ)
  | .brk, ρ => some (.bk, ρ)
  | .cnt, ρ => some (.ct, ρ)
  | .pass, ρ => some (.nx, ρ)
  | .nvr, _ => none
def exSs : ISs → List Sl → Rs Fl
  | .nil, ρ => some (.nx, ρ)
  | .cons s r, ρ => (exS s ρ).bind fun q => match q.1 with
    | .nx => exSs r q.2
    | _ => some q
end
end
/-- a def of the program: its name, how many parameters and slots it has, its body -/
structure Fd where
  name : Str
  ps : List Str
  N : List Str
  body : ISs
def argSl : Arg → Sl
  | .fr d => .d d
  | .bo o => .bor o
def runF (C : Cfg) (fd : Fd) (args : List Arg) : Option (T × List Sl) :=
  if args.length = fd.ps.length then (exSs C fd.body (args.map argSl ++ List.replicate (fd.N.length - args.length) .no)).bind fun r => match r.1 with
    | .nx => some (.d .non, r.2.take args.length)
    | .rt (.sl _) => none
    | .rt t => some (t, r.2.take args.length)
    | _ => none
  else none
def callN (tab : List Fd) (glo : Str → Option D) (wf : Nat) (kd : Str → Option (List (Str × D))) : Nat → Str → List Arg → Option (T × List Sl)
  | 0, _, _ => none
  | n + 1, f, args => (tab.find? fun d => d.name == f).bind fun fd => runF ⟨callN tab glo wf kd n, glo, wf, kd⟩ fd args
end Fw

set_option maxHeartbeats 4000000
/-! Fw3: the operations by values are what the rules ask. -/
namespace Fw
open PySem PySem.Spec PyProof.Rows L2

section
variable {K : PySem.W.Frag} {G H G' H' : Hp}
theorem Rep.tupI {v : V} {ds : List D} (h : Rep K G v (.tup ds)) : ∃ a vs, v = .ref a ∧ SqT K G a vs ∧ RepL K G vs ds := by
  cases h with
  | tup e l => exact ⟨_, _, rfl, e, l⟩
theorem VRep.tupI (s : Same G H) {v : V} {ds : List D} (h : VRep K G H v (.tup ds)) : ∃ a vs, v = .ref a ∧ SqT K H a vs ∧ SqT K G a vs ∧ RepL K G vs ds := by
  obtain ⟨a, vs, e, q, l⟩ := Rep.tupI h
  exact ⟨a, vs, e, sqT_mono s q, q, l⟩
theorem VRep.int {v : V} {i : Int} (h : VRep K G H v (.int i)) : v = .int i := by cases (show Rep K G v (.int i) from h); rfl
theorem VRep.str {v : V} {i : Str} (h : VRep K G H v (.str i)) : v = .str i := by cases (show Rep K G v (.str i) from h); rfl
theorem VRep.bl {v : V} {i : Bool} (h : VRep K G H v (.bl i)) : v = .bl i := by cases (show Rep K G v (.bl i) from h); rfl
theorem VRep.non {v : V} (h : VRep K G H v .non) : v = .non := by cases (show Rep K G v .non from h); rfl
/-- the tuple, laid anew -/
theorem Rep.newTup {p : Addr} {vs : List V} {ds : List D} (s : Same G H) (hp : H p = none) (l : RepL K G vs ds) : Rep K (upd G p (.tup vs)) (.ref p) (.tup ds) :=
  .tup (.inl (.inl upd_same)) (l.mono (same_upd (s.free hp)))
theorem PRep.newLst {p : Addr} {vs : List V} {ds : List D} (s : Same G H) (hp : H p = none) (l : RepL K G vs ds) : PRep K H G (upd H p (.lst vs)) (.ref p) (.new (.lst ds)) :=
  ⟨p, rfl, ⟨vs, upd_same, s.free hp, l⟩, hp⟩
theorem RepL.nilV {ds : List D} (h : RepL K G [] ds) : ds = [] := by cases h; rfl
theorem cut_rep {vs : List V} {ds : List D} (l : RepL K G vs ds) (lo hi : Option Int) : RepL K G (cutV vs lo hi) (cutD ds lo hi) := by
  unfold cutV cutD
  rw [l.length]
  exact (l.drop _).take _
theorem atI_rep {vs : List V} {ds : List D} {i : Int} {d : D} (l : RepL K G vs ds) (h : atI ds i = some d) : ∃ v, atI vs i = some v ∧ Rep K G v d := by
  unfold atI at h ⊢
  rw [l.length]
  cases q : ixN ds.length i with
  | none => rw [q] at h; cases h
  | some j =>
    rw [q] at h
    obtain ⟨v, e, r⟩ := l.get (show ds[j]? = some d from h)
    exact ⟨v, e, r⟩
theorem rgV_rep {a b : Int} : RepL K G (rgV a b) (rngL a b) := by
  unfold rgV rngL
  generalize List.range (b - a).toNat = l
  induction l with
  | nil => exact .nil
  | cons x r ih => exact .cons (.int _) ih
theorem flat_rep : ∀ {vs : List V} {ds : List D}, RepL K G vs ds → ds.all D.flat = true → vs = ds.map D.v0 ∧ vs.all flatV = true
  | _, _, .nil, _ => ⟨rfl, rfl⟩
  | _, _, .cons h l, f => by
    rw [List.all_cons, Bool.and_eq_true] at f
    obtain ⟨e1, e2⟩ := flat_rep l f.2
    cases h with
    | non => exact ⟨by rw [e1]; rfl, by rw [List.all_cons, e2]; rfl⟩
    | bl b => exact ⟨by rw [e1]; rfl, by rw [List.all_cons, e2]; rfl⟩
    | int b => exact ⟨by rw [e1]; rfl, by rw [List.all_cons, e2]; rfl⟩
    | str b => exact ⟨by rw [e1]; rfl, by rw [List.all_cons, e2]; rfl⟩
    | tup _ _ => cases f.1
    | lst _ _ => cases f.1
    | rd _ _ => cases f.1
theorem flat1 {v : V} {d : D} (h : VRep K G H v d) (f : d.flat = true) : v = d.v0 ∧ flatV v = true := by
  cases d with
  | non => rw [VRep.non h]; exact ⟨rfl, rfl⟩
  | bl b => rw [VRep.bl h]; exact ⟨rfl, rfl⟩
  | int b => rw [VRep.int h]; exact ⟨rfl, rfl⟩
  | str b => rw [VRep.str h]; exact ⟨rfl, rfl⟩
  | _ => cases f
mutual
theorem Rep.dp : ∀ {v : V} {d : D}, Rep K G v d → Dp K G v d.pd
  | _, _, .non => .non
  | _, _, .bl b => .bl b
  | _, _, .int i => .int i
  | _, _, .str x => .str x
  | _, _, .tup h l => .tup h (RepL.dp l)
  | _, _, .lst h l => .lst (.inl (.inl h)) (RepL.dp l)
  | _, _, .rd h l => .lst h (RepL.dp l)
theorem RepL.dp : ∀ {vs : List V} {ds : List D}, RepL K G vs ds → DpAll K G vs (D.pds ds)
  | _, _, .nil => .nil
  | _, _, .cons h l => .cons (Rep.dp h) (RepL.dp l)
end
theorem VRep.dp (s : Same G H) {v : V} {d : D} (h : VRep K G H v d) : Dp K H v d.pd := by
  cases d with
  | lst ds =>
    obtain ⟨a, vs, rfl, e, l⟩ := h
    exact .lst (.inl (.inl e)) (RepL.dp (l.mono s))
  | non => exact Rep.dp (Rep.mono s h)
  | bl b => exact Rep.dp (Rep.mono s h)
  | int b => exact Rep.dp (Rep.mono s h)
  | str b => exact Rep.dp (Rep.mono s h)
  | tup b => exact Rep.dp (Rep.mono s h)
  | rd b => exact Rep.dp (Rep.mono s h)
def D.tyN : D → String
  | .non => "NoneType" | .bl _ => "bool" | .int _ => "int" | .str _ => "str" | .tup _ => "tuple" | .lst _ => "list" | .rd _ => "list"
theorem VRep.tyX (s : Same G H) {v : V} {d : D} (h : VRep K G H v d) (n : ∀ xs, d ≠ .rd xs) : TyX K H v (.type d.tyN) := by
  cases d with
  | lst ds =>
    obtain ⟨a, vs, rfl, e, l⟩ := h
    exact .base (.lst e)
  | non => cases VRep.non h; exact .base .non
  | bl b => cases VRep.bl h; exact .base (.bl b)
  | int b => cases VRep.int h; exact .base (.int b)
  | str b => cases VRep.str h; exact .base (.str b)
  | tup b =>
    obtain ⟨a, vs, rfl, e, _, l⟩ := VRep.tupI s h
    rcases e with (e | ⟨o, e⟩) | ⟨o, its, n, e, c, _⟩
    · exact .base (.tup e)
    · exact .fTuple e
    · exact .kTuple e c
  | rd b => exact absurd rfl (n b)
end

/-! ### readings by trees -/
def Fin1 (K : PySem.W.Frag) (G H : Hp) (t : T) (Q : VK) : Prop := ∀ v G' H', Gro G H G' H' → PRep K H G' H' v t → Q v H'
def rD2 (K : PySem.W.Frag) (f : D → D → Option T) : R2 := fun x y H Q => ∃ G d e t, Same G H ∧ VRep K G H x d ∧ VRep K G H y e ∧ f d e = some t ∧ Fin1 K G H t Q
def rD1 (K : PySem.W.Frag) (f : D → Option T) : V → Hp → VK → Prop := fun x H Q => ∃ G d t, Same G H ∧ VRep K G H x d ∧ f d = some t ∧ Fin1 K G H t Q
def VRepL (K : PySem.W.Frag) (G H : Hp) : List V → List D → Prop
  | [], [] => True
  | v :: vs, d :: ds => VRep K G H v d ∧ VRepL K G H vs ds
  | _, _ => False
def rDn (K : PySem.W.Frag) (f : List D → Option T) : List V → Hp → VK → Prop := fun xs H Q => ∃ G ds t, Same G H ∧ VRepL K G H xs ds ∧ f ds = some t ∧ Fin1 K G H t Q
def rDsl (K : PySem.W.Frag) : V → Option Int → Option Int → Hp → VK → Prop := fun x lo hi H Q => ∃ G d t, Same G H ∧ VRep K G H x d ∧ slF d lo hi = some t ∧ Fin1 K G H t Q
theorem VRepL.one {K : PySem.W.Frag} {G H : Hp} {vs : List V} {d : D} (h : VRepL K G H vs [d]) : ∃ v, vs = [v] ∧ VRep K G H v d := by
  match vs, h with
  | [v], h => exact ⟨v, rfl, h.1⟩
theorem VRepL.two {K : PySem.W.Frag} {G H : Hp} {vs : List V} {d e : D} (h : VRepL K G H vs [d, e]) : ∃ v w, vs = [v, w] ∧ VRep K G H v d ∧ VRep K G H w e := by
  match vs, h with
  | [v, w], h => exact ⟨v, w, rfl, h.1, h.2.1⟩
theorem VRepL.zero {K : PySem.W.Frag} {G H : Hp} {vs : List V} (h : VRepL K G H vs []) : vs = [] := by
  match vs, h with
  | [], _ => rfl

section
variable {X : Cx}
theorem fin_d {K : PySem.W.Frag} {G H : Hp} {d : D} {Q : VK} {v : V} (s : Same G H) (q : Fin1 K G H (.d d) Q) (h : Rep K G v d) : Q v H := q v G H (Gro.refl s) h
theorem fin_tup {K : PySem.W.Frag} {G H : Hp} {ds : List D} {Q : VK} {vs : List V} (s : Same G H) (q : Fin1 K G H (.d (.tup ds)) Q) (l : RepL K G vs ds) (p : Addr) (hp : H p = none) : Q (.ref p) (upd H p (.tup vs)) :=
  q _ _ _ (Gro.new s hp) (Rep.newTup s hp l)
theorem fin_lst {K : PySem.W.Frag} {G H : Hp} {ds : List D} {Q : VK} {vs : List V} (s : Same G H) (q : Fin1 K G H (.new (.lst ds)) Q) (l : RepL K G vs ds) (p : Addr) (hp : H p = none) : Q (.ref p) (upd H p (.lst vs)) :=
  q _ _ _ (Gro.tmp s hp) (PRep.newLst s hp l)
theorem rep_flat {K : PySem.W.Frag} {G : Hp} {vs : List V} {ds : List D} (n : Nat) (l : RepL K G vs ds) : RepL K G (List.replicate n vs).flatten (List.replicate n ds).flatten := by
  induction n with
  | zero => exact .nil
  | succ n ih => rw [List.replicate_succ, List.replicate_succ, List.flatten_cons, List.flatten_cons]; exact l.append ih

theorem opr_bin (op : Operator) : OpR X (binaryOp op) (rD2 X.K (binF op)) := by
  intro pins s σ H x y v u Q I rx ry ⟨G, d, e, t, sg, hx, hy, hf, q⟩
  unfold binF at hf
  split at hf
  · cases hf; cases VRep.int hx; cases VRep.int hy
    exact op_add pins s σ H _ _ v u Q I rx ry ⟨_, _, rfl, rfl, fin_d sg q (.int _)⟩
  · split at hf
    · rename_i hz; cases hf; cases VRep.str hx; cases VRep.str hy
      exact op_add_str pins s σ H _ _ v u Q I rx ry ⟨_, _, rfl, rfl, hz, fin_d sg q (.str _)⟩
    · cases hf
  · split at hf
    · rename_i xs ys hz; cases hf
      obtain ⟨a, vs, rfl, q1, q1', l1⟩ := VRep.tupI sg hx
      obtain ⟨b, ws, rfl, q2, q2', l2⟩ := VRep.tupI sg hy
      refine op_catA pins s σ H _ _ v u Q I rx ry ⟨a, b, vs, ws, rfl, rfl, q1, q2, by rw [l1.length, l2.length]; exact hz, fun e => ?_, fun _ e => ?_, fun _ _ p hp => fin_tup sg q (l1.append l2) p hp⟩
      · subst e
        rw [l1.nilV] at q
        exact fin_d sg q (.tup q2' l2)
      · subst e
        rw [l2.nilV, List.append_nil] at q
        exact fin_d sg q (.tup q1' l1)
    · cases hf
  · split at hf
    · rename_i xs ys hz; cases hf
      obtain ⟨a, vs, rfl, q1, l1⟩ := hx
      obtain ⟨b, ws, rfl, q2, l2⟩ := hy
      exact op_cat pins s σ H _ _ v u Q I rx ry ⟨a, b, vs, ws, rfl, rfl, q1, q2, by rw [l1.length, l2.length]; exact hz, fun p hp => fin_lst sg q (l1.append l2) p hp⟩
    · cases hf
  · cases hf; cases VRep.int hx; cases VRep.int hy
    exact op_sub pins s σ H _ _ v u Q I rx ry ⟨_, _, rfl, rfl, fin_d sg q (.int _)⟩
  · split at hf
    · rename_i hz; cases hf; cases VRep.int hx; cases VRep.int hy
      exact op_mul pins s σ H _ _ v u Q I rx ry ⟨_, _, rfl, rfl, hz, fin_d sg q (.int _)⟩
    · cases hf
  · split at hf
    · rename_i hz; cases hf; cases VRep.int hy
      obtain ⟨a, vs, rfl, q1, l1⟩ := hx
      exact op_rep pins s σ H _ _ v u Q I rx ry ⟨a, _, vs, rfl, rfl, q1, hz.1, hz.2.1, by rw [l1.length]; exact hz.2.2, fun p hp => fin_lst sg q (rep_flat _ l1) p hp⟩
    · cases hf
  · split at hf
    · rename_i hz; cases hf; cases VRep.int hx; cases VRep.int hy
      exact op_fdivN pins s σ H _ _ v u Q I rx ry ⟨_, _, rfl, rfl, hz, fin_d sg q (.int _)⟩
    · cases hf
  · split at hf
    · rename_i hz; cases hf; cases VRep.int hx; cases VRep.int hy
      exact op_modN pins s σ H _ _ v u Q I rx ry ⟨_, _, rfl, rfl, hz, fin_d sg q (.int _)⟩
    · cases hf
  · split at hf
    · rename_i hz; cases hf; cases VRep.int hx; cases VRep.int hy
      exact op_pow pins s σ H _ _ v u Q I rx ry ⟨_, _, rfl, rfl, hz, fin_d sg q (.int _)⟩
    · cases hf
  · cases hf
theorem unr_neg : UnR X (unaryOp .USub) (rD1 X.K negF) := by
  intro pins s σ H x v Q I rx ⟨G, d, t, sg, hx, hf, q⟩
  unfold negF at hf
  split at hf
  · cases hf; cases VRep.int hx
    exact un_neg pins s σ H _ v Q I rx ⟨_, rfl, fin_d sg q (.int _)⟩
  · cases hf
theorem scal_eq {K : PySem.W.Frag} {G H : Hp} {x y : V} {d e : D} {b : Bool} (hx : VRep K G H x d) (hy : VRep K G H y e) (h : d.scalEq e = some b) : scal x y = true ∧ decide (x = y) = b := by
  unfold D.scalEq at h
  split at h <;> cases h <;>
    (first | cases VRep.non hx | cases VRep.int hx | cases VRep.bl hx | cases VRep.str hx) <;>
    (first | cases VRep.non hy | cases VRep.int hy | cases VRep.bl hy | cases VRep.str hy) <;> refine ⟨rfl, ?_⟩ <;> first | rfl | simp
theorem eqF_inv {d e : D} {b : Bool} (h : eqF d e = some b) : d.scalEq e = some b ∨ (SeqAt.shaped d.pd = true ∧ SeqAt.shaped e.pd = true ∧ PyData.eqv d.pd e.pd = b) := by
  unfold eqF at h
  split at h
  · rename_i c hc; cases h; exact .inl hc
  · split at h
    · rename_i hz; cases h; exact .inr ⟨hz.1, hz.2, rfl⟩
    · cases h
theorem dB_some {o : Option Bool} {t : T} (h : dB o = some t) : ∃ b, o = some b ∧ t = .d (.bl b) := by
  cases o with
  | none => cases h
  | some b => cases h; exact ⟨b, rfl, rfl⟩
theorem opr_eq (hu : X.A.units + 64 < cLine) : OpR X (compareOp .Eq) (rD2 X.K fun d e => dB (eqF d e)) := by
  intro pins s σ H x y v u Q I rx ry ⟨G, d, e, t, sg, hx, hy, hf, q⟩
  obtain ⟨b, hb, rfl⟩ := dB_some hf
  rcases eqF_inv hb with hb | ⟨h1, h2, h3⟩
  · obtain ⟨h1, h2⟩ := scal_eq hx hy hb
    refine op_eq pins s σ H x y v u Q I rx ry ⟨h1, ?_⟩
    rw [h2]
    exact fin_d sg q (.bl _)
  · exact op_eqD hu pins s σ H x y v u Q I rx ry ⟨_, _, VRep.dp sg hx, VRep.dp sg hy, h1, h2, by rw [h3]; exact fin_d sg q (.bl _)⟩
theorem opr_ne (hu : X.A.units + 64 < cLine) : OpR X (compareOp .NotEq) (rD2 X.K fun d e => dB ((eqF d e).map (!·))) := by
  intro pins s σ H x y v u Q I rx ry ⟨G, d, e, t, sg, hx, hy, hf, q⟩
  obtain ⟨b', hb', rfl⟩ := dB_some hf
  obtain ⟨b, hb, rfl⟩ := Option.map_eq_some_iff.mp hb'
  rcases eqF_inv hb with hb | ⟨h1, h2, h3⟩
  · obtain ⟨h1, h2⟩ := scal_eq hx hy hb
    refine op_ne pins s σ H x y v u Q I rx ry ⟨h1, ?_⟩
    rw [h2]
    exact fin_d sg q (.bl _)
  · exact op_neD hu pins s σ H x y v u Q I rx ry ⟨_, _, VRep.dp sg hx, VRep.dp sg hy, h1, h2, by rw [h3]; exact fin_d sg q (.bl _)⟩
theorem in_rep {K : PySem.W.Frag} {G H : Hp} {x y : V} {d e : D} {b : Bool} (sg : Same G H) (hx : VRep K G H x d) (hy : VRep K G H y e) (h : inF d e = some b) :
    ∃ p xs, y = .ref p ∧ (SqL K H p xs ∨ SqT K H p xs) ∧ flatV x = true ∧ xs.all flatV = true ∧ inV x xs = b := by
  unfold inF at h
  split at h
  · split at h
    · rename_i hz; cases h
      obtain ⟨a, vs, rfl, q1, _, l1⟩ := VRep.tupI sg hy
      obtain ⟨e1, e2⟩ := flat1 hx hz.1
      obtain ⟨e3, e4⟩ := flat_rep l1 hz.2
      exact ⟨a, vs, rfl, .inr q1, e2, e4, by rw [e1, e3]⟩
    · cases h
  · split at h
    · rename_i hz; cases h
      obtain ⟨a, vs, rfl, q1, l1⟩ := hy
      obtain ⟨e1, e2⟩ := flat1 hx hz.1
      obtain ⟨e3, e4⟩ := flat_rep l1 hz.2
      exact ⟨a, vs, rfl, .inl (.inl (.inl q1)), e2, e4, by rw [e1, e3]⟩
    · cases h
  · cases h
theorem opr_cmp (hu : X.A.units + 64 < cLine) (op : CmpOp) : OpR X (compareOp op) (rD2 X.K fun d e => dB (cmpF op d e)) := by
  cases op with
  | Eq => exact opr_eq hu
  | NotEq => exact opr_ne hu
  | In =>
    intro pins s σ H x y v u Q I rx ry ⟨G, d, e, t, sg, hx, hy, hf, q⟩
    cases hb : inF d e with
    | none => simp [cmpF, hb, dB] at hf
    | some b =>
      simp [cmpF, hb, dB] at hf; subst hf
      obtain ⟨p, xs, e1, e2, e3, e4, e5⟩ := in_rep sg hx hy hb
      exact op_in_seq pins s σ H x y v u Q I rx ry ⟨p, xs, e1, e2, e3, e4, by rw [if_neg Bool.false_ne_true, e5]; exact fin_d sg q (.bl _)⟩
  | NotIn =>
    intro pins s σ H x y v u Q I rx ry ⟨G, d, e, t, sg, hx, hy, hf, q⟩
    cases hb : inF d e with
    | none => simp [cmpF, hb, dB] at hf
    | some b =>
      simp [cmpF, hb, dB] at hf; subst hf
      obtain ⟨p, xs, e1, e2, e3, e4, e5⟩ := in_rep sg hx hy hb
      exact op_notIn_seq pins s σ H x y v u Q I rx ry ⟨p, xs, e1, e2, e3, e4, by rw [if_pos rfl, e5]; exact fin_d sg q (.bl _)⟩
  | Lt =>
    intro pins s σ H x y v u Q I rx ry ⟨G, d, e, t, sg, hx, hy, hf, q⟩
    cases d <;> cases e <;> first | (cases hf; done) | skip
    cases hf; cases VRep.int hx; cases VRep.int hy
    exact op_lt pins s σ H _ _ v u Q I rx ry ⟨_, _, rfl, rfl, fin_d sg q (.bl _)⟩
  | LtE =>
    intro pins s σ H x y v u Q I rx ry ⟨G, d, e, t, sg, hx, hy, hf, q⟩
    cases d <;> cases e <;> first | (cases hf; done) | skip
    cases hf; cases VRep.int hx; cases VRep.int hy
    exact op_le pins s σ H _ _ v u Q I rx ry ⟨_, _, rfl, rfl, fin_d sg q (.bl _)⟩
  | Gt =>
    intro pins s σ H x y v u Q I rx ry ⟨G, d, e, t, sg, hx, hy, hf, q⟩
    cases d <;> cases e <;> first | (cases hf; done) | skip
    cases hf; cases VRep.int hx; cases VRep.int hy
    exact op_gt pins s σ H _ _ v u Q I rx ry ⟨_, _, rfl, rfl, fin_d sg q (.bl _)⟩
  | GtE =>
    intro pins s σ H x y v u Q I rx ry ⟨G, d, e, t, sg, hx, hy, hf, q⟩
    cases d <;> cases e <;> first | (cases hf; done) | skip
    cases hf; cases VRep.int hx; cases VRep.int hy
    exact op_ge pins s σ H _ _ v u Q I rx ry ⟨_, _, rfl, rfl, fin_d sg q (.bl _)⟩
  | Is =>
    intro pins s σ H x y v u Q I rx ry ⟨G, d, e, t, sg, hx, hy, hf, q⟩
    cases e <;> (try cases d) <;> first | (cases hf; done) | skip
    all_goals
      cases hf; cases VRep.non hy
      refine op_isN pins s σ H _ _ v u Q I rx ry ⟨rfl, ?_⟩
      first
        | (cases VRep.non hx; exact fin_d sg q (.bl _))
        | (cases VRep.bl hx; exact fin_d sg q (.bl _))
        | (cases VRep.int hx; exact fin_d sg q (.bl _))
        | (cases VRep.str hx; exact fin_d sg q (.bl _))
        | (obtain ⟨a, vs, rfl, _⟩ := VRep.tupI sg hx; exact fin_d sg q (.bl _))
        | (obtain ⟨a, vs, rfl, _⟩ := hx; exact fin_d sg q (.bl _))
  | IsNot =>
    intro pins s σ H x y v u Q I rx ry ⟨G, d, e, t, sg, hx, hy, hf, q⟩
    cases e <;> (try cases d) <;> first | (cases hf; done) | skip
    all_goals
      cases hf; cases VRep.non hy
      refine op_notN pins s σ H _ _ v u Q I rx ry ⟨rfl, ?_⟩
      first
        | (cases VRep.non hx; exact fin_d sg q (.bl _))
        | (cases VRep.bl hx; exact fin_d sg q (.bl _))
        | (cases VRep.int hx; exact fin_d sg q (.bl _))
        | (cases VRep.str hx; exact fin_d sg q (.bl _))
        | (obtain ⟨a, vs, rfl, _⟩ := VRep.tupI sg hx; exact fin_d sg q (.bl _))
        | (obtain ⟨a, vs, rfl, _⟩ := hx; exact fin_d sg q (.bl _))
theorem ixr : IxR X (rD2 X.K ixF) := by
  intro value slice pins s σ H x y v u Q I rx ry ⟨G, d, e, t, sg, hx, hy, hf, q⟩ hs
  unfold ixF at hf
  split at hf
  · rename_i xs i
    cases VRep.int hy
    obtain ⟨a, vs, rfl, q1, _, l1⟩ := VRep.tupI sg hx
    cases hz : atI xs i with
    | none => rw [hz] at hf; cases hf
    | some z =>
      rw [hz] at hf; cases hf
      obtain ⟨w, e1, r⟩ := atI_rep l1 hz
      exact ix_tup value slice pins s σ H _ _ v u Q I rx ry ⟨a, vs, i, w, rfl, rfl, q1, e1, fin_d sg q r⟩ hs
  · rename_i xs i
    cases VRep.int hy
    obtain ⟨a, vs, rfl, q1, l1⟩ := hx
    cases hz : atI xs i with
    | none => rw [hz] at hf; cases hf
    | some z =>
      rw [hz] at hf; cases hf
      obtain ⟨w, e1, r⟩ := atI_rep l1 hz
      exact ix_list value slice pins s σ H _ _ v u Q I rx ry ⟨a, vs, i, w, rfl, rfl, .inl (.inl q1), e1, fin_d sg q r⟩ hs
  · rename_i xs i
    cases VRep.int hy
    cases (show Rep X.K G x (.rd xs) from hx) with
    | rd q1 l1 =>
    cases hz : atI xs i with
    | none => rw [hz] at hf; cases hf
    | some z =>
      rw [hz] at hf; cases hf
      obtain ⟨w, e1, r⟩ := atI_rep l1 hz
      exact ix_list value slice pins s σ H _ _ v u Q I rx ry ⟨_, _, i, w, rfl, rfl, sqL_mono sg q1, e1, fin_d sg q r⟩ hs
  · rename_i z i
    split at hf
    · rename_i hz
      cases VRep.int hy; cases VRep.str hx
      cases hc : atI z.cps.toList i with
      | none => rw [hc] at hf; cases hf
      | some c =>
        rw [hc] at hf; cases hf
        exact ix_str value slice pins s σ H _ _ v u Q I rx ry ⟨z, i, c, rfl, rfl, hz, hc, fin_d sg q (.str _)⟩ hs
    · cases hf
  · cases hf
theorem slr : SlR X (rDsl X.K) := by
  intro pins s σ H x v vl vu lo hi sl Q I rx hs pl pu ⟨G, d, t, sg, hx, hf, q⟩
  unfold slF at hf
  split at hf
  · cases hf
    obtain ⟨a, vs, rfl, q1, q1', l1⟩ := VRep.tupI sg hx
    refine sl_tupA pins s σ H _ v vl vu lo hi sl Q I rx hs pl pu ⟨a, vs, rfl, q1, fun hw => ?_, fun _ p hp => fin_tup sg q (cut_rep l1 lo hi) p hp⟩
    have e : cutV vs lo hi = vs := by
      unfold cutV
      rw [hw.1, hw.2]
      simp
    have l2 := cut_rep l1 lo hi
    rw [e] at l2
    exact fin_d sg q (.tup q1' l2)
  · cases hf
    obtain ⟨a, vs, rfl, q1, l1⟩ := hx
    exact sl_list pins s σ H _ v vl vu lo hi sl Q I rx hs pl pu ⟨a, vs, rfl, .inl (.inl q1), fun p hp => fin_lst sg q (cut_rep l1 lo hi) p hp⟩
  · cases hf
end
end Fw

set_option maxHeartbeats 4000000
/-! Fw4: the readings of the small language. -/
namespace Fw
open PySem PySem.Spec PyProof.Rows L2

/-! ### weakening -/
section
variable {X : Cx}
theorem PE.imp {e : Expr} {t t' : TE} (h : PE X e t) (f : ∀ σ H Q, t' σ H Q → t σ H Q) : PE X e t' := ⟨fun pins s σ H Q I q => h.run pins s σ H Q I (f _ _ _ q)⟩
theorem PT.imp {e : Expr} {t t' : TT} (h : PT X e t) (f : ∀ σ H Q, t' σ H Q → t σ H Q) : PT X e t' := ⟨fun pins s σ H Q I q => h.run pins s σ H Q I (f _ _ _ q)⟩
theorem PW.imp {e : Expr} {t t' : TT} (h : PW X e t) (f : ∀ σ H Q, t' σ H Q → t σ H Q) : PW X e t' := ⟨fun wh pins s σ H Q I q => h.run wh pins s σ H Q I (f _ _ _ q)⟩
theorem PA.imp {e : List Expr} {t t' : TA} (h : PA X e t) (f : ∀ σ H Q, t' σ H Q → t σ H Q) : PA X e t' := ⟨fun pos pins s σ H Q I q => h.run pos pins s σ H Q I (f _ _ _ q)⟩
theorem PO.imp {e : Option Expr} {t t' : TO} (h : PO X e t) (f : ∀ σ H Q, t' σ H Q → t σ H Q) : PO X e t' := ⟨fun pins s σ H Q I q => h.run pins s σ H Q I (f _ _ _ q)⟩
theorem PI.imp {tg e : Expr} {t t' : TI} (h : PI X tg e t) (f : ∀ σ H Q, t' σ H Q → t σ H Q) : PI X tg e t' := ⟨fun pins s σ H Q I q => h.run pins s σ H Q I (f _ _ _ q)⟩
theorem PS.imp {e : Stmt} {t t' : TS} (h : PS X e t) (f : ∀ D σ H, t' D σ H → t D σ H) : PS X e t' := ⟨fun pins s σ H Q I q => h.run pins s σ H Q I (f _ _ _ q)⟩
theorem PSs.imp {e : List Stmt} {t t' : TS} (h : PSs X e t) (f : ∀ D σ H, t' D σ H → t D σ H) : PSs X e t' := ⟨fun pins s σ H Q I q => h.run pins s σ H Q I (f _ _ _ q)⟩
theorem PG.imp {e : Expr} {t t' : TG} (h : PG X e t) (f : ∀ v σ H Q, t' v σ H Q → t v σ H Q) : PG X e t' := ⟨fun pins s σ H v u Q I r q => h.run pins s σ H v u Q I r (f _ _ _ _ q)⟩
theorem PI.or {tg e : Expr} {t t' : TI} (h : PI X tg e t) (h' : PI X tg e t') : PI X tg e (fun σ H R => t σ H R ∨ t' σ H R) := ⟨fun pins s σ H Q I q => q.elim (h.run pins s σ H Q I) (h'.run pins s σ H Q I)⟩
theorem PE.or {e : Expr} {t t' : TE} (h : PE X e t) (h' : PE X e t') : PE X e (fun σ H R => t σ H R ∨ t' σ H R) := ⟨fun pins s σ H Q I q => q.elim (h.run pins s σ H Q I) (h'.run pins s σ H Q I)⟩
theorem CallR.or {f : Value} {r r' : List V → Hp → VK → Prop} (h : CallR X f r) (h' : CallR X f r') : CallR X f (fun xs H Q => r xs H Q ∨ r' xs H Q) := by
  intro pins s σ H xs us Q I r q
  rcases q with q | q
  · exact h pins s σ H xs us Q I r q
  · exact h' pins s σ H xs us Q I r q
end

/-! ### readings -/
def TRepL (K : PySem.W.Frag) (Hs G H : Hp) (σ : St) : List V → List T → Prop
  | [], [] => True
  | v :: vs, t :: ts => TRep K Hs G H σ v t ∧ TRepL K Hs G H σ vs ts
  | _, _ => False
section
variable (K : PySem.W.Frag) (B : Nat → Option Addr) (H0 : Hp)
def tM (m : List Sl → Rs T) : TE := fun σ H Q => ∃ G ρ t ρ', StRep K B H0 G H σ ρ ∧ m ρ = some (t, ρ') ∧ ∀ v G' H', EI K B H0 σ G H ρ G' H' ρ' → TRep K H G' H' σ v t → Q v H'
def tMD (m : List Sl → Rs D) : TE := fun σ H Q => ∃ G ρ t ρ', StRep K B H0 G H σ ρ ∧ m ρ = some (t, ρ') ∧ ∀ v G' H', EI K B H0 σ G H ρ G' H' ρ' → Rep K G' v t → Q v H'
def tMB (m : List Sl → Rs Bool) : TT := fun σ H Q => ∃ G ρ t ρ', StRep K B H0 G H σ ρ ∧ m ρ = some (t, ρ') ∧ ∀ G' H', EI K B H0 σ G H ρ G' H' ρ' → Q t H'
def tMP (m : List Sl → Rs (Option Int)) : TO := fun σ H Q => ∃ G ρ t ρ', StRep K B H0 G H σ ρ ∧ m ρ = some (t, ρ') ∧ ∀ G' H', EI K B H0 σ G H ρ G' H' ρ' → Q t H'
def tMA (m : List Sl → Rs (List T)) : TA := fun σ H Q => ∃ G ρ t ρ', StRep K B H0 G H σ ρ ∧ m ρ = some (t, ρ') ∧ ∀ v G' H', EI K B H0 σ G H ρ G' H' ρ' → TRepL K H G' H' σ v t → Q v H'
/-- what is walked gives these -/
def ItOk (K : PySem.W.Frag) (G0 : Hp) (J : It) (ds : List D) : Prop := ∀ i G H, Same G0 G → Same G H →
  (∀ d, ds[i]? = some d → J.go i H ∧ ∀ x H', J.yld i H x H' → ∃ G', Gro G H G' H' ∧ Rep K G' x d) ∧ (ds.length ≤ i → J.stop i H)
def tMI (m : List Sl → Rs (List D)) : TI := fun σ H R => ∃ G ρ ds ρ', StRep K B H0 G H σ ρ ∧ m ρ = some (ds, ρ') ∧ ∀ J G' H', EI K B H0 σ G H ρ G' H' ρ' → ItOk K G' J ds → R J H'
end

section
variable {K : PySem.W.Frag} {B : Nat → Option Addr} {H0 G H G' H' G1 H1 G2 H2 Gs Hs : Hp} {σ : St} {ρ ρ' ρs ρ1 ρ2 : List Sl}
theorem vw2_inv {f : D → D → Option T} {t u z : T} (h : vw2 f ρ t u = some (z, ρ')) : ∃ x y, view ρ t = some x ∧ view ρ u = some y ∧ f x y = some z ∧ ρ' = ρ := by
  unfold vw2 at h
  obtain ⟨x, e1, h⟩ := Option.bind_eq_some_iff.mp h
  obtain ⟨y, e2, h⟩ := Option.bind_eq_some_iff.mp h
  obtain ⟨w, e3, h⟩ := Option.map_eq_some_iff.mp h
  cases h
  exact ⟨x, y, e1, e2, e3, rfl⟩
theorem vw1_inv {f : D → Option T} {t z : T} (h : vw1 f ρ t = some (z, ρ')) : ∃ x, view ρ t = some x ∧ f x = some z ∧ ρ' = ρ := by
  unfold vw1 at h
  obtain ⟨x, e1, h⟩ := Option.bind_eq_some_iff.mp h
  obtain ⟨w, e3, h⟩ := Option.map_eq_some_iff.mp h
  cases h
  exact ⟨x, e1, e3, rfl⟩
theorem vws_inv {f : List D → Option T} {ts : List T} {z : T} (h : vws f ρ ts = some (z, ρ')) : ∃ xs, views ρ ts = some xs ∧ f xs = some z ∧ ρ' = ρ := by
  unfold vws at h
  obtain ⟨x, e1, h⟩ := Option.bind_eq_some_iff.mp h
  obtain ⟨w, e3, h⟩ := Option.map_eq_some_iff.mp h
  cases h
  exact ⟨x, e1, e3, rfl⟩
theorem TRepL.move {vs : List V} {ts : List T} (a : EI K B H0 σ Gs Hs ρs G1 H1 ρ1) (b : EI K B H0 σ G1 H1 ρ1 G2 H2 ρ2) (h : TRepL K Hs G1 H1 σ vs ts) : TRepL K Hs G2 H2 σ vs ts := by
  induction vs generalizing ts with
  | nil => cases ts with
    | nil => trivial
    | cons => exact h
  | cons v vs ih => cases ts with
    | nil => exact h
    | cons t ts => exact ⟨TRep.move a b h.1, ih h.2⟩
theorem TRepL.back {vs : List V} {ts : List T} (a : EI K B H0 σ Gs Hs ρs G1 H1 ρ1) (h : TRepL K H1 G2 H2 σ vs ts) : TRepL K Hs G2 H2 σ vs ts := by
  induction vs generalizing ts with
  | nil => cases ts with
    | nil => trivial
    | cons => exact h
  | cons v vs ih => cases ts with
    | nil => exact h
    | cons t ts => exact ⟨TRep.back a h.1, ih h.2⟩
theorem views_ok {vs : List V} {ts : List T} {ds : List D} (s : StRep K B H0 G H σ ρ) (h : TRepL K Hs G H σ vs ts) (e : views ρ ts = some ds) : VRepL K G H vs ds := by
  induction vs generalizing ts ds with
  | nil => cases ts with
    | nil => cases e; trivial
    | cons => exact h.elim
  | cons v vs ih => cases ts with
    | nil => exact h.elim
    | cons t ts =>
      unfold views at e
      split at e
      · rename_i d ds' e1 e2
        cases e
        exact ⟨view_ok s h.1 e1, ih h.2 e2⟩
      · cases e
/-- frozen -/
theorem tMD_of {m : List Sl → Rs T} {Q : VK} (h : tMD K B H0 (fun ρ => asD (m ρ)) σ H Q) : tM K B H0 m σ H Q := by
  obtain ⟨G, ρ, d, ρ', s, e, q⟩ := h
  obtain ⟨⟨t, ρ1⟩, e1, e2⟩ := Option.bind_eq_some_iff.mp e
  refine ⟨G, ρ, t, ρ1, s, e1, fun v G1 H1 E T => ?_⟩
  obtain ⟨G2, E2, _, r⟩ := settle_ok E T e2
  exact q v G2 H1 E2 r
theorem asB_inv {r : Rs T} {b : Bool} (h : asB r = some (b, ρ)) : r = some (.d (.bl b), ρ) := by
  obtain ⟨⟨t, ρ1⟩, e1, e2⟩ := Option.bind_eq_some_iff.mp h
  dsimp only at e2
  split at e2
  · cases e2; exact e1
  · cases e2
theorem tMB_of {m : List Sl → Rs T} {Q : Bool → Hp → Prop} (h : tMB K B H0 (fun ρ => asB (m ρ)) σ H Q) : tM K B H0 m σ H (fun x H' => ∃ c, x = .bl c ∧ Q c H') := by
  obtain ⟨G, ρ, b, ρ', s, e, q⟩ := h
  refine ⟨G, ρ, _, ρ', s, asB_inv e, fun v G1 H1 E T => ?_⟩
  cases (show Rep K G1 v (.bl b) from T)
  exact ⟨b, rfl, q G1 H1 E⟩
end

/-! ### the static side -/
structure Sx where
  N : List Str
  sc : Scope
  fn : Str → Bool
  fns : Str → Option Nat
  gl : Str → Bool
def Bl.nm : Bl → Str
  | .len => "len" | .abs => "abs" | .min => "min" | .max => "max" | .int => "int" | .str => "str" | .tuple => "tuple" | .list => "list"
def Ty.nm : Ty → Str
  | .str => "str" | .int => "int" | .bool => "bool" | .tuple => "tuple" | .list => "list"
def Mt.nm : Mt → Str
  | .append => "append" | .extend => "extend" | .pop => "pop"
def bltNames : List Str := ["len", "abs", "min", "max", "int", "str", "tuple", "list", "bool", "isinstance", "range", "zip", "enumerate", "reversed"]
def isVis (sc : Scope) (x : Str) : Bool := match sc.names.lookup x with
  | some .local => true
  | some .cell => true
  | some .free => true
  | _ => false
def isGl (sc : Scope) (x : Str) : Bool := match sc.names.lookup x with
  | some .globalImplicit => true
  | _ => false
def isLoc (S : Sx) (x : Str) : Bool := match S.sc.names.lookup x with
  | some .local => true
  | some .cell => S.fn x
  | _ => false
def blkS (S : Sx) (scope : Scope) : Sx := { S with sc := relS scope S.sc, fn := fun x => scope.names.lookup x == some .cell }
def plainE : Expr → Bool
  | .Starred .. => false
  | .Slice .. => false
  | .Set .. => false
  | _ => true
/-- expressions whose test is their value's -/
def valE : Expr → Bool
  | .UnaryOp .Not _ _ => false
  | .BoolOp .. => false
  | .IfExp .. => false
  | .Compare .. => false
  | _ => true
def compE : Expr → Bool
  | .ListComp .. => true
  | .SetComp .. => true
  | .DictComp .. => true
  | _ => false
def isTupE : Expr → Bool
  | .Tuple .. => true
  | .List .. => true
  | _ => false
def nameOf : Expr → Option Str
  | .Name x _ => some x
  | _ => none
def okVar (S : Sx) (i : Nat) (x : Str) : Bool := decide (S.N[i]? = some x) && isVis S.sc x && !(x == ("__debug__" : Str)) && !(x == ("__classdict__" : Str))
mutual
def okTg (S : Sx) : Tg → Expr → Bool
  | .nm i, e => match e with
    | .Name x _ => decide (S.N[i]? = some x) && isLoc S x
    | _ => false
  | .tp ts, e => match e with
    | .Tuple es _ _ => okTgs S ts es
    | _ => false
def okTgs (S : Sx) : List Tg → List Expr → Bool
  | [], es => es.isEmpty
  | t :: ts, es => match es with
    | e :: es => plainE e && okTg S t e && okTgs S ts es
    | [] => false
end
mutual
def okE (S : Sx) : IE → Expr → Bool
  | .var i, e => (match e with
    | .Name x _ => okVar S i x
    | _ => false)
  | .non, e => (match e with
    | .Constant .none _ _ => true
    | _ => false)
  | .bl b, e => (match e with
    | .Constant (.bool c) _ _ => b == c
    | _ => false)
  | .int i, e => (match e with
    | .Constant (.int j) _ _ => decide (i = j)
    | _ => false)
  | .str s, e => (match e with
    | .Constant (.str z) _ _ => decide (s = z)
    | _ => false)
  | .glo x, e => (match e with
    | .Name y _ => decide (x = y) && isGl S.sc y && S.gl y && !(y == ("__debug__" : Str))
    | _ => false)
  | .bin op a b, e => (match e with
    | .BinOp x o y _ => decide (op = o) && okE S a x && okE S b y
    | _ => false)
  | .neg a, e => (match e with
    | .UnaryOp .USub x _ => okE S a x
    | _ => false)
  | .cmp op a b, e => (match e with
    | .Compare x [o] [y] _ => decide (op = o) && okE S a x && okE S b y
    | _ => false)
  | .chn op op' a b c, e => (match e with
    | .Compare x [o, o'] [y, z] _ => decide (op = o) && decide (op' = o') && okE S a x && okE S b y && okE S c z
    | _ => false)
  | .and_ a b, e => (match e with
    | .BoolOp .And (x :: y :: r) p => okE S a x && okE S b (.BoolOp .And (y :: r) p)
    | _ => false)
  | .or_ a b, e => (match e with
    | .BoolOp .Or (x :: y :: r) p => okE S a x && okE S b (.BoolOp .Or (y :: r) p)
    | _ => false)
  | .one a, e => (match e with
    | .BoolOp _ [x] _ => okE S a x
    | _ => false)
  | .not_ a, e => (match e with
    | .UnaryOp .Not x _ => okE S a x
    | _ => false)
  | .ife c a b, e => (match e with
    | .IfExp x y z _ => okE S c x && okE S a y && okE S b z
    | _ => false)
  | .kix x a, e => (match e with
    | .Subscript (.Name y _) z _ => decide (x = y) && isGl S.sc y && !(y == ("__debug__" : Str)) && okE S a z
    | _ => false)
  | .frz a, e => plainE e && valE e && okE S a e
  | .ix a b, e => (match e with
    | .Subscript x y _ => okE S a x && okE S b y
    | _ => false)
  | .slc a lo hi, e => (match e with
    | .Subscript x (.Slice l h none _) _ => okE S a x && (match l with | none => lo.isNop | some l => okE S lo l) && (match h with | none => hi.isNop | some h => okE S hi h)
    | _ => false)
  | .nop, _ => false
  | .tup as, e => (match e with
    | .Tuple es _ _ => okA S as es
    | _ => false)
  | .lst as, e => (match e with
    | .List es _ => okA S as es
    | _ => false)
  | .call f as, e => (match e with
    | .Call (.Name x _) es [] _ => decide (f = x) && isGl S.sc x && !(x == ("__debug__" : Str)) && decide (S.fns f = some es.length) && okA S as es
    | _ => false)
  | .blt f as, e => (match e with
    | .Call (.Name x _) (a :: es) [] _ => decide (f.nm = x) && isGl S.sc x && okA S as (a :: es)
    | _ => false)
  | .isi a ts, e => (match e with
    | .Call (.Name x _) [y, z] [] _ => decide (x = ("isinstance" : Str)) && isGl S.sc x && okE S a y && (match z, ts with
      | .Name t _, [t'] => decide (t = t'.nm) && isGl S.sc t
      | _, _ => false)
    | _ => false)
  | .rngs f as, e => (match e with
    | .Call (.Name x _) [.Call (.Name y _) es [] _] [] _ => decide (x = (bif f then ("tuple" : Str) else "list")) && isGl S.sc x && decide (y = ("range" : Str)) && isGl S.sc y && okA S as es && (match es with
      | [_] => true
      | [_, _] => true
      | _ => false)
    | _ => false)
  | .lrev a, e => (match e with
    | .Call (.Name x _) [.Call (.Name y _) [z] [] _] [] _ => decide (x = ("list" : Str)) && isGl S.sc x && decide (y = ("reversed" : Str)) && isGl S.sc y && okE S a z
    | _ => false)
  | .mth m o as, e => (match e with
    | .Call (.Attribute (.Name x p) n ap) es [] cp => okE S o (.Name x p) && decide (m.nm = n) && (ap.endLine == cp.line) && okA S as es && (match m, es with
      | .append, [_] => true
      | .extend, [_] => true
      | .pop, [] => true
      | _, _ => false)
    | _ => false)
  | .lc it tg c el own, e => (match e with
    | .ListComp el' [⟨tg', it', ifs, 0⟩] scope _ => plainE it' && okI S it it' tg' && blkC S.N S.sc scope (own.map fun i => (S.N.getD i "", i)) && okTg (blkS S scope) tg tg' && tg.ix.all (fun i => own.contains i) && okE (blkS S scope) el el' && (match ifs with
      | [] => c.isNop
      | [x] => okE (blkS S scope) c x
      | _ => false)
    | _ => false)
  | .lc2 it tg it1 tg1 c el own, e => (match e with
    | .ListComp el' [⟨tg', it', [], 0⟩, ⟨tg1', it1', ifs, 0⟩] scope _ => plainE it' && plainE it1' && okI S it it' tg' && blkC S.N S.sc scope (own.map fun i => (S.N.getD i "", i)) && okTg (blkS S scope) tg tg' && tg.ix.all (fun i => own.contains i) &&
        okI (blkS S scope) it1 it1' tg1' && okTg (blkS S scope) tg1 tg1' && tg1.ix.all (fun i => own.contains i) && okE (blkS S scope) el el' && (match ifs with
      | [] => c.isNop
      | [x] => okE (blkS S scope) c x
      | _ => false)
    | _ => false)
def okA (S : Sx) : IAs → List Expr → Bool
  | .nil, es => es.isEmpty
  | .cons a r, es => (match es with
    | e :: es => okE S a e && okA S r es
    | [] => false)
def okI (S : Sx) : II → Expr → Expr → Bool
  | .seq a, e, _ => okE S a e
  | .rng as, e, _ => (match e with
    | .Call (.Name x _) es [] _ => decide (x = ("range" : Str)) && isGl S.sc x && okA S as es && (match es with
      | [_] => true
      | [_, _] => true
      | _ => false)
    | _ => false)
  | .zip a b, e, tg => (match e, tg with
    | .Call (.Name x _) [y, z] [] _, .Tuple .. => decide (x = ("zip" : Str)) && isGl S.sc x && okE S a y && okE S b z
    | _, _ => false)
  | .enm a, e, tg => (match e, tg with
    | .Call (.Name x _) [y] [] _, .Tuple .. => decide (x = ("enumerate" : Str)) && isGl S.sc x && okE S a y
    | _, _ => false)
  | .rev a, e, _ => (match e with
    | .Call (.Name x _) [y] [] _ => decide (x = ("reversed" : Str)) && isGl S.sc x && okE S a y
    | _ => false)
end
end Fw

set_option maxHeartbeats 4000000
/-! Fw5: calls; what the context must be. -/
namespace Fw
open PySem PySem.Spec PyProof.Rows L2

/-! ### a call's two sides -/
structure ArgsOk (K : PySem.W.Frag) (G H : Hp) (vs : List V) (args : List Arg) : Prop where
  len : vs.length = args.length
  fr : ∀ (i : Nat) (d : D), args[i]? = some (Arg.fr d) → ∃ v, vs[i]? = some v ∧ Rep K G v d
  bo : ∀ (i : Nat) (o : O), args[i]? = some (Arg.bo o) → ∃ a, vs[i]? = some (V.ref a) ∧ ORep K G H a o
  inj : ∀ (i j : Nat) (o o' : O) (a : Addr), args[i]? = some (Arg.bo o) → args[j]? = some (Arg.bo o') → vs[i]? = some (V.ref a) → vs[j]? = some (V.ref a) → i = j
def Lent (vs : List V) (args : List Arg) (b : Addr) : Prop := ∃ (i : Nat) (o : O), args[i]? = some (Arg.bo o) ∧ vs[i]? = some (V.ref b)
structure CallPost (K : PySem.W.Frag) (G H : Hp) (vs : List V) (args : List Arg) (G' H' : Hp) (bs : List Sl) : Prop where
  same : Same G G'
  sub : Same G' H'
  keep : ∀ b o, H b = some o → ¬ Lent vs args b → H' b = some o ∧ (G b = none → G' b = none)
  alive : ∀ b, H b ≠ none → H' b ≠ none
  bs : ∀ (i : Nat) (o : O) (a : Addr) (s : Sl), args[i]? = some (Arg.bo o) → vs[i]? = some (V.ref a) → bs[i]? = some s → (∃ o', s = Sl.bor o' ∧ ORep K G' H' a o') ∨ (∃ d, s = Sl.fz d ∧ Rep K G' (.ref a) d)
def spF (K : PySem.W.Frag) (call : Str → List Arg → Option (T × List Sl)) (f : Str) (np : Nat) : Sp := fun vs H Q _ => ∃ G args t bs, Same G H ∧ ArgsOk K G H vs args ∧ call f args = some (t, bs) ∧ vs.length = np ∧
  ∀ v G' H', CallPost K G H vs args G' H' bs → PRep K H G' H' v t → Q v H'

structure CxOk (n : Nat) (C : Cfg) (S : Sx) (X : Cx) : Prop where
  calm : X.calm = true
  room : Room n X.A
  N : X.N = S.N
  nd : S.N.Nodup
  sc : X.env.scope = S.sc
  fn : X.fn = S.fn
  xe : X.xe = fun _ _ => False
  gl : ∀ x, S.gl x = true → ∀ d, C.glo x = some d → ∃ u v, X.mg x = some u ∧ RelV v u ∧ ∀ G, Rep X.K G v d
  kd : ∀ x kv, C.kd x = some kv → ∃ p, X.mg x = some (.ref p) ∧ ∀ z d, kv.lookup z = some d → ∃ v, KDct X.K X.w p z v ∧ ∀ G, Rep X.K G v d
  bl : ∀ x, bltNames.contains x = true → X.mg x = none
  fns : ∀ f np, S.fns f = some np → ∃ fa fd ps, X.mg f = some (.ref fa) ∧ PySem.W.keepIn X.K (.ref fa) = true ∧ Binds X.K fd ps [] ∧ FnOk X.prog X.w X.K X.mg X.base CX0 n fa fd ps (spF X.K C.call f np)
theorem CxOk.blk {n : Nat} {C : Cfg} {S : Sx} {X : Cx} (c : CxOk n C S X) (scope : Scope) (s : Shared) (H : Hp) (Ca : Addr) (cl : List (Str × Addr)) (fp : List Addr) : CxOk n C (blkS S scope) (X.blk s H scope (compEnvC scope cl Ca X.env) fp) where
  calm := c.calm
  room := c.room
  N := c.N
  nd := c.nd
  sc := by
    show relS scope X.env.scope = relS scope S.sc
    rw [c.sc]
  fn := rfl
  xe := rfl
  gl := c.gl
  kd := c.kd
  bl := c.bl
  fns := c.fns

section
variable {n : Nat} {C : Cfg} {S : Sx} {X : Cx} {env : Env} {e : Expr} {es : List Expr}
theorem CxOk.gl_of (c : CxOk n C S X) {x : Str} (h : isGl S.sc x = true) : Gl X x := by
  unfold isGl at h
  show X.env.scope.names.lookup x = some .globalImplicit
  rw [c.sc]
  split at h
  · assumption
  · cases h
theorem CxOk.vis_of (c : CxOk n C S X) {x : Str} (h : isVis S.sc x = true) : Vis X.env.scope x := by
  unfold isVis at h
  unfold Vis
  rw [c.sc]
  split at h
  · exact .inl (by assumption)
  · exact .inr (.inl (by assumption))
  · exact .inr (.inr (by assumption))
  · cases h
theorem CxOk.loc_of (c : CxOk n C S X) {x : Str} (h : isLoc S x = true) : L2.Loc X.env.scope x ∧ (X.fn x = true ∨ X.env.scope.names.lookup x = some .local) := by
  unfold isLoc at h
  unfold L2.Loc
  rw [c.sc, c.fn]
  split at h
  · rename_i q; exact ⟨.inl q, .inr q⟩
  · rename_i q; exact ⟨.inr q, .inl h⟩
  · cases h
theorem star_ok (h : plainE e = true) : starEach (e :: es) env = (false, eval e env) :: starEach es env := by
  cases e <;> first | rfl | cases h
theorem plain_ix (h : plainE e = true) : PlainIx e := by
  intro o i
  cases e <;> first | rfl | cases h
theorem set_ok (h : plainE e = true) (x : Value) : foldedSetIterable e env x = pure x := by
  cases e <;> first | rfl | cases h
theorem mark_ok (op : CmpOp) (h : plainE e = true) : behindInMarks op e = false := by
  cases e <;> first | rfl | cases h
theorem assign_ok (h : plainE e = true) : (assignEach (e :: es) env).map (·.2) = assign e env :: (assignEach es env).map (·.2) := by
  cases e <;> first | rfl | cases h
theorem swap_ok (h : compE e = false) (t : Option Expr) (l : Nat) : swapsWith e t l env = pure false := by
  cases e <;> first | rfl | cases h
theorem okA_star {S : Sx} : ∀ {as : IAs} {es : List Expr}, (∀ a e, okE S a e = true → plainE e = true) → okA S as es = true → ∀ env, (starEach es env).any (·.1) = false
  | .nil, es, _, h, env => by
    unfold okA at h
    cases es with
    | nil => rfl
    | cons => cases h
  | .cons a r, es, hp, h, env => by
    unfold okA at h
    cases es with
    | nil => cases h
    | cons e es =>
      simp only [Bool.and_eq_true] at h
      rw [star_ok (hp a e h.1), List.any_cons, okA_star hp h.2 env]; rfl
theorem okE_plain {S : Sx} (a : IE) (e : Expr) (h : okE S a e = true) : plainE e = true := by
  cases a <;> cases e <;> first | rfl | (simp [okE] at h; done) | (simp [okE, plainE] at h; done)
theorem back_any {pos : Pos} {l : List (Bool × Sem Value)} (h : l.any (·.1) = false) : (backTo pos l).any (·.1) = false := by
  unfold backTo
  rw [List.any_map]
  exact h
theorem okA_any {S : Sx} {as : IAs} (h : okA S as es = true) {pos : Pos} : (backTo pos (starEach es env)).any (·.1) = false := back_any (okA_star okE_plain h env)
end

/-! ### lending -/
section
variable {K : PySem.W.Frag} {B : Nat → Option Addr} {H0 G H G' H' G1 H1 G2 H2 Gs Hs : Hp} {σ : St} {ρ ρ' ρs ρ1 ρ2 : List Sl}
theorem toArgs_len : ∀ {ts : List T} {args : List Arg}, toArgs ρ ts = some args → ts.length = args.length
  | [], args, h => by cases h; rfl
  | t :: ts, args, h => by
    unfold toArgs at h
    split at h
    · rename_i a as e1 e2; cases h
      rw [List.length_cons, List.length_cons, toArgs_len e2]
    · cases h
theorem toArgs_get : ∀ {ts : List T} {args : List Arg} {i : Nat} {a : Arg}, toArgs ρ ts = some args → args[i]? = some a → ∃ t, ts[i]? = some t ∧ toArg ρ t = some a
  | [], args, i, a, h, e => by cases h; simp at e
  | t :: ts, args, i, a, h, e => by
    unfold toArgs at h
    split at h
    · rename_i a' as e1 e2; cases h
      cases i with
      | zero => simp at e; subst e; exact ⟨t, rfl, e1⟩
      | succ i => obtain ⟨u, h1, h2⟩ := toArgs_get e2 (i := i) (a := a) (by simpa using e); exact ⟨u, by simpa using h1, h2⟩
    · cases h
theorem TRepL.len {vs : List V} {ts : List T} (h : TRepL K Hs G H σ vs ts) : vs.length = ts.length := by
  induction vs generalizing ts with
  | nil => cases ts with
    | nil => rfl
    | cons => exact h.elim
  | cons v vs ih => cases ts with
    | nil => exact h.elim
    | cons t ts => rw [List.length_cons, List.length_cons, ih h.2]
theorem TRepL.get {vs : List V} {ts : List T} {i : Nat} {t : T} (h : TRepL K Hs G H σ vs ts) (e : ts[i]? = some t) : ∃ v, vs[i]? = some v ∧ TRep K Hs G H σ v t := by
  induction vs generalizing ts i with
  | nil => cases ts with
    | nil => simp at e
    | cons => exact h.elim
  | cons v vs ih => cases ts with
    | nil => exact h.elim
    | cons u ts =>
      cases i with
      | zero => simp at e; subst e; exact ⟨v, rfl, h.1⟩
      | succ i => obtain ⟨w, h1, h2⟩ := ih h.2 (i := i) (by simpa using e); exact ⟨w, by simpa using h1, h2⟩
theorem toArg_bo {t : T} {o : O} (h : toArg ρ t = some (.bo o)) : t = .new o ∨ ∃ i, t = .sl i ∧ (ρ[i]? = some (.own o) ∨ ρ[i]? = some (.bor o)) := by
  unfold toArg at h
  split at h
  · cases h
  · cases h; exact .inl rfl
  · rename_i i
    split at h <;> first | (cases h; done) | skip
    · rename_i q; cases h; exact .inr ⟨i, rfl, .inl q⟩
    · rename_i q; cases h; exact .inr ⟨i, rfl, .inr q⟩
theorem news_pos : ∀ {ts : List T} {i : Nat} {o : O}, ts[i]? = some (.new o) → 1 ≤ news ts
  | [], i, o, h => by simp at h
  | t :: ts, i, o, h => by
    cases i with
    | zero => simp at h; subst h; exact Nat.le_add_left ..
    | succ i =>
      have q := news_pos (ts := ts) (i := i) (o := o) (by simpa using h)
      cases t with
      | d d => exact q
      | new d => exact Nat.le_add_left ..
      | sl k => exact q
theorem news_one : ∀ {ts : List T} {i j : Nat} {o o' : O}, news ts ≤ 1 → ts[i]? = some (.new o) → ts[j]? = some (.new o') → i = j
  | [], i, j, o, o', _, h, _ => by simp at h
  | t :: ts, i, j, o, o', n, hi, hj => by
    cases i with
    | zero =>
      cases j with
      | zero => rfl
      | succ j =>
        simp at hi; subst hi
        have q := news_pos (ts := ts) (i := j) (o := o') (by simpa using hj)
        have n' : news ts + 1 ≤ 1 := n
        omega
    | succ i =>
      have q := news_pos (ts := ts) (i := i) (o := o) (by simpa using hi)
      cases j with
      | zero =>
        simp at hj; subst hj
        have n' : news ts + 1 ≤ 1 := n
        omega
      | succ j =>
        have n' : news ts ≤ 1 := by
          cases t with
          | d d => exact n
          | sl k => exact n
          | new d =>
            have n' : news ts + 1 ≤ 1 := n
            omega
        rw [news_one (ts := ts) (i := i) (j := j) n' (by simpa using hi) (by simpa using hj)]
theorem lent_mem : ∀ {ts : List T} {i j : Nat} {o : O}, ts[j]? = some (.sl i) → (ρ[i]? = some (.own o) ∨ ρ[i]? = some (.bor o)) → i ∈ lent ρ ts
  | [], i, j, o, h, _ => by simp at h
  | t :: ts, i, j, o, h, q => by
    cases j with
    | zero =>
      simp at h; subst h
      unfold lent
      rcases q with q | q <;> rw [q] <;> simp
    | succ j =>
      have m := lent_mem (ts := ts) (i := i) (j := j) (o := o) (by simpa using h) q
      cases t with
      | d d => exact m
      | new d => exact m
      | sl k =>
        unfold lent
        split <;> first | exact List.mem_cons_of_mem _ m | exact m
theorem lent_inj : ∀ {ts : List T} {i j k : Nat} {o : O}, (lent ρ ts).Nodup → ts[j]? = some (.sl i) → ts[k]? = some (.sl i) → (ρ[i]? = some (.own o) ∨ ρ[i]? = some (.bor o)) → j = k
  | [], i, j, k, o, _, h, _, _ => by simp at h
  | t :: ts, i, j, k, o, nd, hj, hk, q => by
    have nd' : (lent ρ ts).Nodup := by
      cases t with
      | d d => exact nd
      | new d => exact nd
      | sl k =>
        unfold lent at nd
        split at nd <;> first | exact (List.nodup_cons.mp nd).2 | exact nd
    have out : t = .sl i → i ∉ lent ρ ts := fun e => by
      subst e
      unfold lent at nd
      rcases q with q | q <;> (rw [q] at nd; exact (List.nodup_cons.mp nd).1)
    cases j with
    | zero =>
      cases k with
      | zero => rfl
      | succ k => exact absurd (lent_mem (by simpa using hk) q) (out (by simpa using hj))
    | succ j =>
      cases k with
      | zero => exact absurd (lent_mem (by simpa using hj) q) (out (by simpa using hk))
      | succ k => rw [lent_inj nd' (i := i) (j := j) (k := k) (by simpa using hj) (by simpa using hk) q]
theorem args_ok {vs : List V} {ts : List T} {args : List Arg} (s : StRep K B H0 G H σ ρ) (h : TRepL K Hs G H σ vs ts) (al : ∀ b, Ow σ ρ b → Hs b ≠ none) (e : toArgs ρ ts = some args) (nd : (lent ρ ts).Nodup) (nw : news ts ≤ 1) : ArgsOk K G H vs args := by
  have own : ∀ {i : Nat} {o : O}, args[i]? = some (.bo o) → ∃ (a : Addr), vs[i]? = some (V.ref a) ∧ ORep K G H a o ∧ ((ts[i]? = some (.new o) ∧ Hs a = none) ∨ ∃ k, ts[i]? = some (T.sl k) ∧ (ρ[k]? = some (Sl.own o) ∨ ρ[k]? = some (Sl.bor o)) ∧ OwnAt σ ρ k a) := fun {i o} ea => by
    obtain ⟨t, e1, e2⟩ := toArgs_get e ea
    rcases toArg_bo e2 with rfl | ⟨k, rfl, q⟩
    · obtain ⟨v, e3, a, rfl, r, f⟩ := h.get e1
      exact ⟨a, e3, r, .inl ⟨e1, f⟩⟩
    · obtain ⟨v, e3, e4⟩ := h.get e1
      have e4' : σ[k]? = some (some v) := e4
      rcases q with q | q
      · obtain ⟨a, e5, r, _⟩ := s.at_ k _ q
        rw [e5] at e4'; cases e4'
        exact ⟨a, e3, r, .inr ⟨k, e1, .inl q, e5, _, q, rfl⟩⟩
      · obtain ⟨a, e5, r⟩ := s.at_ k _ q
        rw [e5] at e4'; cases e4'
        exact ⟨a, e3, r, .inr ⟨k, e1, .inr q, e5, _, q, rfl⟩⟩
  refine ⟨by rw [h.len, toArgs_len e], fun i d ea => ?_, fun i o ea => ?_, fun i j o o' a e1 e2 e3 e4 => ?_⟩
  · obtain ⟨t, e1, e2⟩ := toArgs_get e ea
    obtain ⟨v, e3, e4⟩ := h.get e1
    refine ⟨v, e3, ?_⟩
    unfold toArg at e2
    split at e2
    · cases e2; exact e4
    · cases e2
    · rename_i k
      have e4' : σ[k]? = some (some v) := e4
      split at e2 <;> first | (cases e2; done) | skip
      all_goals
        rename_i q; cases e2
        obtain ⟨w, e5, r⟩ := s.at_ k _ q
        rw [e5] at e4'; cases e4'
        exact r
  · obtain ⟨a, e3, r, _⟩ := own ea
    exact ⟨a, e3, r⟩
  · obtain ⟨b, f1, _, f2⟩ := own e1
    obtain ⟨c, g1, _, g2⟩ := own e2
    rw [e3] at f1; cases f1
    rw [e4] at g1; cases g1
    rcases f2 with ⟨f2, f3⟩ | ⟨k, f2, f3, f4⟩
    · rcases g2 with ⟨g2, _⟩ | ⟨k', _, _, g4⟩
      · exact news_one nw f2 g2
      · exact absurd f3 (al a ⟨k', g4⟩)
    · rcases g2 with ⟨_, g3⟩ | ⟨k', g2, g3, g4⟩
      · exact absurd g3 (al a ⟨k, f4⟩)
      · have ek := s.inj k k' a f4 g4
        subst ek
        exact lent_inj nd f2 g2 f3
theorem backs_keys : ∀ {ts : List T} {bs : List Sl} {l : List (Nat × Sl)}, backs ρ ts bs = some l → l.map (·.1) = lent ρ ts
  | [], [], l, h => by cases h; rfl
  | [], _ :: _, l, h => by cases h
  | .d _ :: ts, [], l, h => by cases h
  | .new _ :: ts, [], l, h => by cases h
  | .sl _ :: ts, [], l, h => by cases h
  | .d _ :: ts, b :: bs, l, h => backs_keys (ts := ts) (bs := bs) h
  | .new _ :: ts, b :: bs, l, h => backs_keys (ts := ts) (bs := bs) h
  | .sl i :: ts, b :: bs, l, h => by
    unfold backs at h
    unfold lent
    split at h
    · rename_i q
      obtain ⟨s, _, h⟩ := Option.bind_eq_some_iff.mp h
      obtain ⟨r, e2, h⟩ := Option.map_eq_some_iff.mp h
      subst h
      show i :: r.map (·.1) = i :: lent ρ ts
      rw [backs_keys e2]
    · rename_i q
      obtain ⟨s, _, h⟩ := Option.bind_eq_some_iff.mp h
      obtain ⟨r, e2, h⟩ := Option.map_eq_some_iff.mp h
      subst h
      show i :: r.map (·.1) = i :: lent ρ ts
      rw [backs_keys e2]
    · have e := backs_keys h
      first
        | exact e
        | (split <;> first | exact e | (rename_i q; exact absurd q (by assumption)))
theorem backs_mem : ∀ {ts : List T} {bs : List Sl} {l : List (Nat × Sl)} {i : Nat} {s : Sl}, backs ρ ts bs = some l → (i, s) ∈ l →
    ∃ (j : Nat) (b : Sl) (o : O), ts[j]? = some (T.sl i) ∧ bs[j]? = some b ∧ ((ρ[i]? = some (.own o) ∧ back1 (.own o) b = some s) ∨ (ρ[i]? = some (.bor o) ∧ back1 (.bor o) b = some s))
  | [], [], l, i, s, h, m => by cases h; cases m
  | [], _ :: _, l, i, s, h, m => by cases h
  | .d _ :: ts, [], l, i, s, h, m => by cases h
  | .new _ :: ts, [], l, i, s, h, m => by cases h
  | .sl _ :: ts, [], l, i, s, h, m => by cases h
  | .d _ :: ts, b :: bs, l, i, s, h, m => by
    obtain ⟨j, c, o, h1, h2, h3⟩ := backs_mem (ts := ts) (bs := bs) h m
    exact ⟨j + 1, c, o, by simpa using h1, by simpa using h2, h3⟩
  | .new _ :: ts, b :: bs, l, i, s, h, m => by
    obtain ⟨j, c, o, h1, h2, h3⟩ := backs_mem (ts := ts) (bs := bs) h m
    exact ⟨j + 1, c, o, by simpa using h1, by simpa using h2, h3⟩
  | .sl k :: ts, b :: bs, l, i, s, h, m => by
    have up : ∀ {r}, backs ρ ts bs = some r → (i, s) ∈ r → ∃ (j : Nat) (b' : Sl) (o : O), (T.sl k :: ts)[j]? = some (T.sl i) ∧ (b :: bs)[j]? = some b' ∧ ((ρ[i]? = some (.own o) ∧ back1 (.own o) b' = some s) ∨ (ρ[i]? = some (.bor o) ∧ back1 (.bor o) b' = some s)) := fun {r} h m => by
      obtain ⟨j, c, o, h1, h2, h3⟩ := backs_mem (ts := ts) (bs := bs) h m
      exact ⟨j + 1, c, o, by simpa using h1, by simpa using h2, h3⟩
    unfold backs at h
    split at h
    · rename_i o q
      obtain ⟨s', e1, h⟩ := Option.bind_eq_some_iff.mp h
      obtain ⟨r, e2, h⟩ := Option.map_eq_some_iff.mp h
      subst h
      rcases List.mem_cons.mp m with e | m
      · cases e; exact ⟨0, b, o, rfl, rfl, .inl ⟨q, e1⟩⟩
      · exact up e2 m
    · rename_i o q
      obtain ⟨s', e1, h⟩ := Option.bind_eq_some_iff.mp h
      obtain ⟨r, e2, h⟩ := Option.map_eq_some_iff.mp h
      subst h
      rcases List.mem_cons.mp m with e | m
      · cases e; exact ⟨0, b, o, rfl, rfl, .inr ⟨q, e1⟩⟩
      · exact up e2 m
    · exact up h m
theorem setAll_len : ∀ {l : List (Nat × Sl)}, (setAll ρ l).length = ρ.length
  | [] => rfl
  | p :: r => by unfold setAll; rw [List.length_set, setAll_len]
theorem setAll_get : ∀ {l : List (Nat × Sl)} {i : Nat} {s : Sl}, (setAll ρ l)[i]? = some s → (i, s) ∈ l ∨ (i ∉ l.map (·.1) ∧ ρ[i]? = some s)
  | [], i, s, h => .inr ⟨by simp, h⟩
  | p :: r, i, s, h => by
    unfold setAll at h
    rcases getset h with ⟨rfl, rfl, _⟩ | ⟨ne, h⟩
    · exact .inl List.mem_cons_self
    · rcases setAll_get h with m | ⟨m, e⟩
      · exact .inl (List.mem_cons_of_mem _ m)
      · refine .inr ⟨?_, e⟩
        rw [List.map_cons, List.mem_cons, not_or]
        exact ⟨fun z => ne z.symm, m⟩
theorem setAll_some {l : List (Nat × Sl)} {i : Nat} (h : i < ρ.length) : ∃ s, (setAll ρ l)[i]? = some s := by
  refine ⟨(setAll ρ l)[i]'(by rw [setAll_len]; exact h), List.getElem?_eq_getElem _⟩
theorem back_ok {vs : List V} {ts : List T} {args : List Arg} {bs : List Sl} {l : List (Nat × Sl)} (a : EI K B H0 σ Gs Hs ρs G H ρ) (h : TRepL K Hs G H σ vs ts) (e : toArgs ρ ts = some args) (nd : (lent ρ ts).Nodup)
    (p : CallPost K G H vs args G' H' bs) (hb : backs ρ ts bs = some l) : EI K B H0 σ Gs Hs ρs G' H' (setAll ρ l) := by
  have s := a.s1
  -- what is lent
  have lentOw : ∀ b, Lent vs args b → Hs b = none ∨ (Ow σ ρ b ∧ ∃ k, k ∈ lent ρ ts ∧ OwnAt σ ρ k b) := fun b ⟨j, o, e1, e2⟩ => by
    obtain ⟨t, f1, f2⟩ := toArgs_get e e1
    rcases toArg_bo f2 with rfl | ⟨k, rfl, q⟩
    · obtain ⟨v, f3, a', rfl, _, f⟩ := h.get f1
      rw [e2] at f3; cases f3
      exact .inl f
    right
    obtain ⟨v, f3, f4⟩ := h.get f1
    rw [e2] at f3; cases f3
    have f4' : σ[k]? = some (some (.ref b)) := f4
    have oa : OwnAt σ ρ k b := by
      rcases q with q | q
      · exact ⟨f4', _, q, rfl⟩
      · exact ⟨f4', _, q, rfl⟩
    exact ⟨⟨k, oa⟩, k, lent_mem f1 q, oa⟩
  have one : ∀ {i s'}, (i, s') ∈ l → ∃ a, σ[i]? = some (some (.ref a)) ∧ OwnAt σ ρ i a ∧ ((∃ o o', ρ[i]? = some (.own o) ∧ s' = .own o' ∧ ORep K G' H' a o' ∧ H0 a = none) ∨ (∃ o o', ρ[i]? = some (.bor o) ∧ s' = .bor o' ∧ ORep K G' H' a o') ∨
      (∃ o d, ρ[i]? = some (.own o) ∧ s' = .d d ∧ Rep K G' (.ref a) d) ∨ (∃ o d, ρ[i]? = some (.bor o) ∧ s' = .fz d ∧ Rep K G' (.ref a) d)) := fun {i s'} m => by
    obtain ⟨j, b, o, f1, f2, f3⟩ := backs_mem hb m
    obtain ⟨v, g1, g2⟩ := h.get f1
    have g2' : σ[i]? = some (some v) := g2
    have hj : j < args.length := by
      rw [← toArgs_len e]
      exact (List.getElem?_eq_some_iff.mp f1).1
    obtain ⟨t, k1, k2⟩ := toArgs_get e (List.getElem?_eq_getElem hj)
    rw [f1] at k1; cases k1
    rcases f3 with ⟨q, w⟩ | ⟨q, w⟩
    · obtain ⟨a, z1, z2, z3⟩ := s.at_ i _ q
      rw [z1] at g2'; cases g2'
      have ea : args[j]? = some (.bo o) := by
        rw [List.getElem?_eq_getElem hj, ← k2]
        unfold toArg
        simp [q]
      refine ⟨a, z1, ⟨z1, _, q, rfl⟩, ?_⟩
      rcases p.bs j o a b ea g1 f2 with ⟨o', rfl, r⟩ | ⟨d, rfl, r⟩
      · cases w; exact .inl ⟨o, o', q, rfl, r, z3⟩
      · cases w; exact .inr (.inr (.inl ⟨o, d, q, rfl, r⟩))
    · obtain ⟨a, z1, z2⟩ := s.at_ i _ q
      rw [z1] at g2'; cases g2'
      have ea : args[j]? = some (.bo o) := by
        rw [List.getElem?_eq_getElem hj, ← k2]
        unfold toArg
        simp [q]
      refine ⟨a, z1, ⟨z1, _, q, rfl⟩, ?_⟩
      rcases p.bs j o a b ea g1 f2 with ⟨o', rfl, r⟩ | ⟨d, rfl, r⟩
      · cases w; exact .inr (.inl ⟨o, o', q, rfl, r⟩)
      · cases w; exact .inr (.inr (.inr ⟨o, d, q, rfl, r⟩))
  have ownb : ∀ {i b}, OwnAt σ (setAll ρ l) i b → OwnAt σ ρ i b := fun {i b} ⟨e1, s1, e2, e3⟩ => by
    rcases setAll_get e2 with m | ⟨_, q⟩
    · obtain ⟨a, z1, z2, _⟩ := one m
      rw [e1] at z1; cases z1
      exact z2
    · exact ⟨e1, s1, q, e3⟩
  refine ⟨a.s0, ⟨fun i a hB => ?_, fun b z => p.alive b (s.ali b z), p.sub, by rw [setAll_len]; exact s.len, fun i s' q => ?_, fun i j a u1 u2 => s.inj i j a (ownb u1) (ownb u2)⟩, ⟨a.st.same.trans p.same, fun b o eb nb => ?_, fun b z => p.alive b (a.st.alive b z)⟩, fun b ⟨i, hi⟩ => a.ow b ⟨i, ownb hi⟩⟩
  rotate_left 2
  · obtain ⟨k1, k2⟩ := a.st.keep b o eb nb
    obtain ⟨k3, k4⟩ := p.keep b o k1 fun z => (lentOw b z).elim (fun q => by rw [eb] at q; cases q) fun q => nb (a.ow b q.1)
    exact ⟨k3, fun z => k4 (k2 z)⟩
  · obtain ⟨z1, s1, z2, z3⟩ := s.pin i a hB
    refine ⟨z1, ?_⟩
    obtain ⟨s2, z4⟩ := setAll_some (ρ := ρ) (l := l) (List.getElem?_eq_some_iff.mp z2).1
    refine ⟨s2, z4, ?_⟩
    rcases setAll_get z4 with m | ⟨_, q⟩
    · obtain ⟨b, _, _, r⟩ := one m
      rcases r with ⟨o, o', q, rfl, _⟩ | ⟨o, o', q, rfl, _⟩ | ⟨o, d, q, rfl, _⟩ | ⟨o, d, q, rfl, _⟩
      · rw [z2] at q; cases q; cases z3
      · rfl
      · rw [z2] at q; cases q; cases z3
      · rfl
    · rw [z2] at q; cases q; exact z3
  · rcases setAll_get q with m | ⟨nm, q⟩
    · obtain ⟨a, z1, _, r⟩ := one m
      rcases r with ⟨o, o', _, rfl, r, f⟩ | ⟨o, o', _, rfl, r⟩ | ⟨o, d, _, rfl, r⟩ | ⟨o, d, _, rfl, r⟩
      · exact ⟨a, z1, r, f⟩
      · exact ⟨a, z1, r⟩
      · exact ⟨_, z1, r⟩
      · exact ⟨_, z1, r⟩
    · have z := s.at_ i s' q
      have nl : ∀ b, OwnAt σ ρ i b → ¬ Lent vs args b := fun b oa ln => by
        rcases lentOw b ln with f | ⟨_, k, hk, ok⟩
        · exact a.s0.alive (a.ow b ⟨i, oa⟩) f
        have := s.inj i k b oa ok
        subst this
        exact nm (by rw [backs_keys hb]; exact hk)
      cases s' with
      | no => trivial
      | d d => obtain ⟨v, e5, r⟩ := z; exact ⟨v, e5, r.mono p.same⟩
      | own o1 => obtain ⟨b, e5, r, f⟩ := z; exact ⟨b, e5, r.move p.same fun y ey => p.keep b y ey (nl b ⟨e5, _, q, rfl⟩), f⟩
      | bor o1 => obtain ⟨b, e5, r⟩ := z; exact ⟨b, e5, r.move p.same fun y ey => p.keep b y ey (nl b ⟨e5, _, q, rfl⟩)⟩
      | fz d => obtain ⟨v, e5, r⟩ := z; exact ⟨v, e5, r.mono p.same⟩
end
end Fw

set_option maxHeartbeats 4000000
/-! Fw6: built-ins by trees; an expression's soundness, step by step. -/
namespace Fw
open PySem PySem.Spec PyProof.Rows L2

section
variable {X : Cx}
theorem cr_len : CallR X (.builtin "len") (rDn X.K (bltF .len)) := by
  intro pins s σ H xs us Q I r ⟨G, ds, t, sg, hx, hf, q⟩
  unfold bltF at hf
  split at hf <;> first | (cases hf; done) | (rename_i e; cases e; done) | skip
  · cases hf; obtain ⟨v, rfl, h⟩ := hx.one; obtain ⟨a, vs, rfl, q1, _, l⟩ := VRep.tupI sg h
    exact call_len_seq pins s σ H _ us Q I r ⟨a, vs, rfl, .inr q1, by rw [l.length]; exact fin_d sg q (.int _)⟩
  · cases hf; obtain ⟨v, rfl, h⟩ := hx.one; obtain ⟨a, vs, rfl, q1, l⟩ := h
    exact call_len_seq pins s σ H _ us Q I r ⟨a, vs, rfl, .inl (.inl (.inl q1)), by rw [l.length]; exact fin_d sg q (.int _)⟩
  · cases hf; obtain ⟨v, rfl, h⟩ := hx.one
    cases (show Rep X.K G v (.rd _) from h) with
    | rd q1 l => exact call_len_seq pins s σ H _ us Q I r ⟨_, _, rfl, .inl (sqL_mono sg q1), by rw [l.length]; exact fin_d sg q (.int _)⟩
  · split at hf
    · rename_i hz; cases hf; obtain ⟨v, rfl, h⟩ := hx.one; cases VRep.str h
      exact call_len_str pins s σ H _ us Q I r ⟨_, rfl, hz, fin_d sg q (.int _)⟩
    · cases hf
theorem cr_abs : CallR X (.builtin "abs") (rDn X.K (bltF .abs)) := by
  intro pins s σ H xs us Q I r ⟨G, ds, t, sg, hx, hf, q⟩
  unfold bltF at hf
  split at hf <;> first | (cases hf; done) | (rename_i e; cases e; done) | skip
  cases hf; obtain ⟨v, rfl, h⟩ := hx.one; cases VRep.int h
  exact call_abs pins s σ H _ us Q I r ⟨_, rfl, fin_d sg q (.int _)⟩
theorem cr_min (hc : X.calm = true) : CallR X (.builtin "min") (rDn X.K (bltF .min)) := by
  intro pins s σ H xs us Q I r ⟨G, ds, t, sg, hx, hf, q⟩
  unfold bltF at hf
  split at hf <;> first | (cases hf; done) | (rename_i e; cases e; done) | skip
  cases hf; obtain ⟨v, w, rfl, h1, h2⟩ := hx.two; cases VRep.int h1; cases VRep.int h2
  exact call_min2 hc pins s σ H _ us Q I r ⟨_, _, rfl, fin_d sg q (.int _)⟩
theorem cr_max (hc : X.calm = true) : CallR X (.builtin "max") (rDn X.K (bltF .max)) := by
  intro pins s σ H xs us Q I r ⟨G, ds, t, sg, hx, hf, q⟩
  unfold bltF at hf
  split at hf <;> first | (cases hf; done) | (rename_i e; cases e; done) | skip
  cases hf; obtain ⟨v, w, rfl, h1, h2⟩ := hx.two; cases VRep.int h1; cases VRep.int h2
  exact call_max2 hc pins s σ H _ us Q I r ⟨_, _, rfl, fin_d sg q (.int _)⟩
theorem cr_int : CallR X (.type "int") (rDn X.K (bltF .int)) := by
  intro pins s σ H xs us Q I r ⟨G, ds, t, sg, hx, hf, q⟩
  unfold bltF at hf
  split at hf <;> first | (cases hf; done) | (rename_i e; cases e; done) | skip
  · cases hf; obtain ⟨v, rfl, h1⟩ := hx.one; cases VRep.int h1
    exact call_int1 pins s σ H _ us Q I r (.inl ⟨_, rfl, fin_d sg q (.int _)⟩)
  · cases hf; obtain ⟨v, rfl, h1⟩ := hx.one; cases VRep.bl h1
    exact call_int1 pins s σ H _ us Q I r (.inr ⟨_, rfl, fin_d sg q (.int _)⟩)
  · split at hf
    · rename_i hz
      obtain ⟨n, e1, e2⟩ := Option.map_eq_some_iff.mp hf
      cases e2
      obtain ⟨v, rfl, h1⟩ := hx.one; cases VRep.str h1
      exact call_int_str pins s σ H _ us Q I r ⟨_, n, rfl, e1, hz, fin_d sg q (.int _)⟩
    · cases hf
theorem cr_str : CallR X (.type "str") (rDn X.K (bltF .str)) := by
  intro pins s σ H xs us Q I r ⟨G, ds, t, sg, hx, hf, q⟩
  unfold bltF at hf
  split at hf <;> first | (cases hf; done) | (rename_i e; cases e; done) | skip
  split at hf
  · rename_i hz; cases hf; obtain ⟨v, rfl, h1⟩ := hx.one; cases VRep.int h1
    exact call_str_int pins s σ H _ us Q I r ⟨_, rfl, hz, fin_d sg q (.str _)⟩
  · cases hf
theorem cr_tuple : CallR X (.type "tuple") (rDn X.K (bltF .tuple)) := by
  intro pins s σ H xs us Q I r ⟨G, ds, t, sg, hx, hf, q⟩
  unfold bltF at hf
  split at hf <;> first | (cases hf; done) | (rename_i e; cases e; done) | skip
  · cases hf; obtain ⟨v, rfl, h⟩ := hx.one; obtain ⟨a, vs, rfl, q1, q1', l⟩ := VRep.tupI sg h
    exact call_tuple_of pins s σ H _ us Q I r ⟨a, vs, rfl, .inr ⟨q1, fin_d sg q (.tup q1' l)⟩⟩
  · cases hf; obtain ⟨v, rfl, h⟩ := hx.one; obtain ⟨a, vs, rfl, q1, l⟩ := h
    exact call_tuple_of pins s σ H _ us Q I r ⟨a, vs, rfl, .inl ⟨.inl (.inl q1), fun p hp => fin_tup sg q l p hp⟩⟩
theorem cr_list : CallR X (.type "list") (rDn X.K (bltF .list)) := by
  intro pins s σ H xs us Q I r ⟨G, ds, t, sg, hx, hf, q⟩
  unfold bltF at hf
  split at hf <;> first | (cases hf; done) | (rename_i e; cases e; done) | skip
  · cases hf; obtain ⟨v, rfl, h⟩ := hx.one; obtain ⟨a, vs, rfl, q1, _, l⟩ := VRep.tupI sg h
    exact call_list_of pins s σ H _ us Q I r ⟨a, vs, rfl, .inr q1, fun p hp => fin_lst sg q l p hp⟩
  · cases hf; obtain ⟨v, rfl, h⟩ := hx.one; obtain ⟨a, vs, rfl, q1, l⟩ := h
    exact call_list_of pins s σ H _ us Q I r ⟨a, vs, rfl, .inl (.inl (.inl q1)), fun p hp => fin_lst sg q l p hp⟩
/-- a built-in by its name -/
theorem pe_blt {n : Nat} {C : Cfg} {S : Sx} (c : CxOk n C S X) (f : Bl) {x : Str} {e : Expr} {es : List Expr} {p pos : Pos} {t : TA} (hx : f.nm = x) (hg : isGl S.sc x = true) (ha : PA X (e :: es) t)
    (hp : plainE e = true) (hany : (backTo pos (starEach es X.env)).any (·.1) = false) : PE X (.Call (.Name x p) (e :: es) [] pos) (tCB (rDn X.K (bltF f)) t) := by
  subst hx
  have g := c.gl_of hg
  have m : X.mg f.nm = none := c.bl _ (by cases f <;> decide)
  cases f with
  | len => exact pe_callB cr_len g m (by decide +kernel) ha (by decide) (by decide) (star_ok hp) hany
  | abs => exact pe_callB cr_abs g m (by decide +kernel) ha (by decide) (by decide) (star_ok hp) hany
  | min => exact pe_callB (cr_min c.calm) g m (by decide +kernel) ha (by decide) (by decide) (star_ok hp) hany
  | max => exact pe_callB (cr_max c.calm) g m (by decide +kernel) ha (by decide) (by decide) (star_ok hp) hany
  | int => exact pe_callTy cr_int g m (by decide +kernel) ha (by decide) (by decide) (star_ok hp) hany
  | str => exact pe_callTy cr_str g m (by decide +kernel) ha (by decide) (by decide) (star_ok hp) hany
  | tuple => exact pe_callTy cr_tuple g m (by decide +kernel) ha (by decide) (by decide) (star_ok hp) hany
  | list => exact pe_callTy cr_list g m (by decide +kernel) ha (by decide) (by decide) (star_ok hp) hany
/-- isinstance, one class -/
def Ty.s : Ty → String
  | .str => "str" | .int => "int" | .bool => "bool" | .tuple => "tuple" | .list => "list"
theorem kit_non (t : Ty) : kitB "NoneType" t.s = some false := by cases t <;> decide +kernel
theorem kit_bl (t : Ty) : kitB "bool" t.s = some (decide (t = .bool) || decide (t = .int)) := by cases t <;> decide +kernel
theorem kit_int (t : Ty) : kitB "int" t.s = some (decide (t = .int)) := by cases t <;> decide +kernel
theorem kit_str (t : Ty) : kitB "str" t.s = some (decide (t = .str)) := by cases t <;> decide +kernel
theorem kit_tup (t : Ty) : kitB "tuple" t.s = some (decide (t = .tuple)) := by cases t <;> decide +kernel
theorem kit_lst (t : Ty) : kitB "list" t.s = some (decide (t = .list)) := by cases t <;> decide +kernel
def rIsD (K : PySem.W.Frag) (t : Ty) : List V → Hp → VK → Prop := fun xs H Q => ∃ G x d b, xs = [x, V.ty t.s] ∧ Same G H ∧ VRep K G H x d ∧ d.isTy t = some b ∧ Q (.bl b) H
theorem cr_isi (t : Ty) : CallR X (.builtin "isinstance") (rIsD X.K t) := by
  intro pins s σ H xs us Q I r ⟨G, x, d, b, e, sg, h, hb, q⟩
  subst e
  refine call_isi pins s σ H _ us Q I r ⟨x, _, .type d.tyN, _, b, rfl, .ty _, VRep.tyX sg h (fun ys e => by subst e; cases hb), ?_, q⟩
  cases d with
  | rd _ => cases hb
  | non => cases hb; exact kit_ty (kit_non t)
  | bl _ => cases hb; exact kit_ty (kit_bl t)
  | int _ => cases hb; exact kit_ty (kit_int t)
  | str _ => cases hb; exact kit_ty (kit_str t)
  | tup _ => cases hb; exact kit_ty (kit_tup t)
  | lst _ => cases hb; exact kit_ty (kit_lst t)
end
end Fw

set_option maxHeartbeats 4000000
/-! Fw7: a construct's reading from its parts' (expressions). -/
namespace Fw
open PySem PySem.Spec PyProof.Rows L2

section
variable {K : PySem.W.Frag} {B : Nat → Option Addr} {H0 G H G' H' G1 H1 G2 H2 Gs Hs : Hp} {σ : St} {ρ ρ' ρs ρ1 ρ2 : List Sl}
theorem two_ok {F : D → D → Option T} {f g : List Sl → Rs T} {Q : VK} (h : tM K B H0 (fun ρ => (f ρ).bind fun r => (g r.2).bind fun s => vw2 F s.2 r.1 s.1) σ H Q) :
    tM K B H0 f σ H fun x H1 => tM K B H0 g σ H1 fun y H2 => rD2 K F x y H2 Q := by
  obtain ⟨G, ρ, t, ρ', s, e, q⟩ := h
  obtain ⟨⟨t1, ρ1⟩, e1, e⟩ := Option.bind_eq_some_iff.mp e
  obtain ⟨⟨t2, ρ2⟩, e2, e⟩ := Option.bind_eq_some_iff.mp e
  obtain ⟨x, y, v1, v2, hf, rfl⟩ := vw2_inv e
  refine ⟨G, ρ, t1, ρ1, s, e1, fun a G1 H1 E1 T1 => ⟨G1, ρ1, t2, _, E1.s1, e2, fun b G2 H2 E2 T2 => ?_⟩⟩
  have E := E1.trans E2
  exact ⟨G2, x, y, t, E.s1.sub, view_ok E.s1 (T1.move E1 E2) v1, view_ok E.s1 T2 v2, hf, fun v G3 H3 g p => q v G3 H3 (E.gro g) (p.t E)⟩
theorem one_ok {F : D → Option T} {f : List Sl → Rs T} {Q : VK} (h : tM K B H0 (fun ρ => (f ρ).bind fun r => vw1 F r.2 r.1) σ H Q) : tM K B H0 f σ H fun x H1 => rD1 K F x H1 Q := by
  obtain ⟨G, ρ, t, ρ', s, e, q⟩ := h
  obtain ⟨⟨t1, ρ1⟩, e1, e⟩ := Option.bind_eq_some_iff.mp e
  obtain ⟨x, v1, hf, rfl⟩ := vw1_inv e
  exact ⟨G, ρ, t1, _, s, e1, fun a G1 H1 E1 T1 => ⟨G1, x, t, E1.s1.sub, view_ok E1.s1 T1 v1, hf, fun v G3 H3 g p => q v G3 H3 (E1.gro g) (p.t E1)⟩⟩
theorem many_ok {F : List D → Option T} {f : List Sl → Rs (List T)} {Q : VK} (h : tM K B H0 (fun ρ => (f ρ).bind fun r => vws F r.2 r.1) σ H Q) : tMA K B H0 f σ H fun xs H1 => rDn K F xs H1 Q := by
  obtain ⟨G, ρ, t, ρ', s, e, q⟩ := h
  obtain ⟨⟨t1, ρ1⟩, e1, e⟩ := Option.bind_eq_some_iff.mp e
  obtain ⟨x, v1, hf, rfl⟩ := vws_inv e
  exact ⟨G, ρ, t1, _, s, e1, fun a G1 H1 E1 T1 => ⟨G1, x, t, E1.s1.sub, views_ok E1.s1 T1 v1, hf, fun v G3 H3 g p => q v G3 H3 (E1.gro g) (p.t E1)⟩⟩
theorem c_ok {d : D} {v : V} {Q : VK} (h : tM K B H0 (fun ρ => some (.d d, ρ)) σ H Q) (r : ∀ G, Rep K G v d) : Q v H := by
  obtain ⟨G, ρ, t, ρ', s, e, q⟩ := h
  cases e
  exact q v G H (EI.refl s) (r G)
theorem bind_okT {f : List Sl → Rs T} {g : Bool → List Sl → Rs T} {Q : VK} (h : tM K B H0 (fun ρ => (asB (f ρ)).bind fun r => g r.1 r.2) σ H Q) :
    tMB K B H0 (fun ρ => asB (f ρ)) σ H fun b H1 => tM K B H0 (g b) σ H1 Q := by
  obtain ⟨G, ρ, t, ρ', s, e, q⟩ := h
  obtain ⟨⟨b, ρ1⟩, e1, e⟩ := Option.bind_eq_some_iff.mp e
  exact ⟨G, ρ, b, ρ1, s, e1, fun G1 H1 E1 => ⟨G1, ρ1, t, ρ', E1.s1, e, fun v G2 H2 E2 T2 => q v G2 H2 (E1.trans E2) (T2.back E1)⟩⟩
theorem bind_okB {f : List Sl → Rs T} {g : Bool → List Sl → Rs T} {Q : Bool → Hp → Prop} (h : tMB K B H0 (fun ρ => asB ((asB (f ρ)).bind fun r => g r.1 r.2)) σ H Q) :
    tMB K B H0 (fun ρ => asB (f ρ)) σ H fun b H1 => tMB K B H0 (fun ρ => asB (g b ρ)) σ H1 Q := by
  obtain ⟨G, ρ, t, ρ', s, e, q⟩ := h
  have e' := asB_inv e
  obtain ⟨⟨b, ρ1⟩, e1, e2⟩ := Option.bind_eq_some_iff.mp e'
  exact ⟨G, ρ, b, ρ1, s, e1, fun G1 H1 E1 => ⟨G1, ρ1, t, ρ', E1.s1, by dsimp only at e2 ⊢; rw [e2]; rfl, fun G2 H2 E2 => q G2 H2 (E1.trans E2)⟩⟩
theorem if_t {b : Bool} {f g : List Sl → Rs T} {Q : VK} (h : tM K B H0 (fun ρ => if b = true then f ρ else g ρ) σ H Q) : if b = true then tM K B H0 f σ H Q else tM K B H0 g σ H Q := by
  cases b <;> exact h
theorem if_b {b : Bool} {f g : List Sl → Rs T} {Q : Bool → Hp → Prop} (h : tMB K B H0 (fun ρ => asB (if b = true then f ρ else g ρ)) σ H Q) : if b = true then tMB K B H0 (fun ρ => asB (f ρ)) σ H Q else tMB K B H0 (fun ρ => asB (g ρ)) σ H Q := by
  cases b <;> exact h
theorem cB_ok {b : Bool} {Q : Bool → Hp → Prop} (h : tMB K B H0 (fun ρ => asB (some (.d (.bl b), ρ))) σ H Q) : Q b H := by
  obtain ⟨G, ρ, t, ρ', s, e, q⟩ := h
  cases e
  exact q G H (EI.refl s)

/-! ### parts of a slice -/
theorem asP_none {f : List Sl → Rs T} {Q : Option Int → Hp → Prop} (h : tMP K B H0 (fun ρ => asP true (f ρ) ρ) σ H Q) : tNoPart σ H Q := by
  obtain ⟨G, ρ, t, ρ', s, e, q⟩ := h
  cases e
  exact q G H (EI.refl s)
theorem asP_some {f : List Sl → Rs T} {Q : Option Int → Hp → Prop} (h : tMP K B H0 (fun ρ => asP false (f ρ) ρ) σ H Q) : tPart (tM K B H0 f) σ H Q := by
  obtain ⟨G, ρ, t, ρ', s, e, q⟩ := h
  obtain ⟨⟨t1, ρ1⟩, e1, e2⟩ := Option.bind_eq_some_iff.mp e
  refine ⟨G, ρ, t1, ρ1, s, e1, fun v G1 H1 E T => ?_⟩
  dsimp only at e2
  split at e2
  · rename_i i
    cases e2
    cases (show Rep K G1 v (.int i) from T)
    exact ⟨i, rfl, q G1 H1 E⟩
  · cases e2
theorem slc_ok {f g h' : List Sl → Rs T} {b c : Bool} {Q : VK} (h : tM K B H0 (fun ρ => (f ρ).bind fun r => (asP b (g r.2) r.2).bind fun l => (asP c (h' l.2) l.2).bind fun u => vw1 (fun x => slF x l.1 u.1) u.2 r.1) σ H Q) :
    tM K B H0 f σ H fun x H1 => tMP K B H0 (fun ρ => asP b (g ρ) ρ) σ H1 fun l H2 => tMP K B H0 (fun ρ => asP c (h' ρ) ρ) σ H2 fun u H3 => rDsl K x l u H3 Q := by
  obtain ⟨G, ρ, t, ρ', s, e, q⟩ := h
  obtain ⟨⟨t1, ρ1⟩, e1, e⟩ := Option.bind_eq_some_iff.mp e
  obtain ⟨⟨l, ρ2⟩, e2, e⟩ := Option.bind_eq_some_iff.mp e
  obtain ⟨⟨u, ρ3⟩, e3, e⟩ := Option.bind_eq_some_iff.mp e
  obtain ⟨x, v1, hf, rfl⟩ := vw1_inv e
  refine ⟨G, ρ, t1, ρ1, s, e1, fun a G1 H1 E1 T1 => ⟨G1, ρ1, l, ρ2, E1.s1, e2, fun G2 H2 E2 => ⟨G2, ρ2, u, _, E2.s1, e3, fun G3 H3 E3 => ?_⟩⟩⟩
  have E := E1.trans (E2.trans E3)
  exact ⟨G3, x, t, E.s1.sub, view_ok E.s1 (T1.move E1 (E2.trans E3)) v1, hf, fun v G4 H4 g p => q v G4 H4 (E.gro g) (p.t E)⟩
/-- a op b op' c -/
theorem chn_ok {F F' : D → D → Option Bool} {f g h' : List Sl → Rs T} {Q : VK}
    (h : tM K B H0 (fun ρ => (f ρ).bind fun r => (g r.2).bind fun s => (asB (vw2 (fun x y => dB (F x y)) s.2 r.1 s.1)).bind fun q => if q.1 then (h' q.2).bind fun w => vw2 (fun x y => dB (F' x y)) w.2 s.1 w.1 else some (.d (.bl false), q.2)) σ H Q) :
    tChain (rD2 K fun x y => dB (F x y)) (rD2 K fun x y => dB (F' x y)) (tM K B H0 f) (tM K B H0 g) (tM K B H0 h') σ H Q := by
  obtain ⟨G, ρ, t, ρ', s, e, q⟩ := h
  obtain ⟨⟨t1, ρ1⟩, e1, e⟩ := Option.bind_eq_some_iff.mp e
  obtain ⟨⟨t2, ρ2⟩, e2, e⟩ := Option.bind_eq_some_iff.mp e
  obtain ⟨⟨b, ρ3⟩, e3, e⟩ := Option.bind_eq_some_iff.mp e
  obtain ⟨x, y, v1, v2, hf, rfl⟩ := vw2_inv (asB_inv e3)
  refine ⟨G, ρ, t1, ρ1, s, e1, fun a G1 H1 E1 T1 => ⟨G1, ρ1, t2, _, E1.s1, e2, fun b' G2 H2 E2 T2 => ?_⟩⟩
  have E := E1.trans E2
  refine ⟨G2, x, y, _, E.s1.sub, view_ok E.s1 (T1.move E1 E2) v1, view_ok E.s1 T2 v2, hf, fun v G3 H3 g p => ?_⟩
  cases (show Rep K G3 v (.bl b) from p)
  refine ⟨b, rfl, ?_⟩
  have E3 := E.gro g
  have g3 : EI K B H0 σ G2 H2 ρ3 G3 H3 ρ3 := (EI.refl E.s1).gro g
  dsimp only at e
  cases b with
  | false => rw [if_neg Bool.false_ne_true] at e ⊢; cases e; exact q _ G3 H3 E3 (.bl false)
  | true =>
    rw [if_pos rfl] at e ⊢
    obtain ⟨⟨t3, ρ4⟩, e4, e⟩ := Option.bind_eq_some_iff.mp e
    obtain ⟨x', y', w1, w2, hf', rfl⟩ := vw2_inv e
    refine ⟨G3, ρ3, t3, _, E3.s1, e4, fun c G4 H4 E4 T4 => ?_⟩
    have EE := E3.trans E4
    exact ⟨G4, x', y', t, EE.s1.sub, view_ok EE.s1 (TRep.move E (g3.trans E4) (T2.back E1)) w1, view_ok EE.s1 T4 w2, hf', fun v G5 H5 g p => q v G5 H5 (EE.gro g) (p.t EE)⟩

/-! ### lists of values -/
theorem taken_ok {m : Nat} {v : V} {t u : T} (a : EI K B H0 σ Gs Hs ρs G H ρ) (h : TRep K Hs G H σ v t) (e : taken m ρ t = some (u, ρ')) : ∃ G', EI K B H0 σ Gs Hs ρs G' H ρ' ∧ Same G G' ∧ TRep K Hs G' H σ v u := by
  unfold taken at e
  split at e
  · cases e; exact ⟨G, a, Same.refl _, h⟩
  · split at e
    · cases e
      obtain ⟨p, rfl, r, f⟩ := h
      obtain ⟨G', E, s, rp⟩ := a.freezeNew r f
      exact ⟨G', E, s, rp⟩
    · cases e; exact ⟨G, a, Same.refl _, h⟩
  · split at e
    · rename_i d ρ'' e1
      cases e
      obtain ⟨G', E, s, rp⟩ := settle_ok a h e1
      exact ⟨G', E, s, rp⟩
    · cases e
theorem cons_ok {m : Nat} {f : List Sl → Rs T} {g : List Sl → Rs (List T)} {Q : List V → Hp → Prop} (h : tMA K B H0 (fun ρ => (f ρ).bind fun x => (taken m x.2 x.1).bind fun y => (g y.2).bind fun z => some (y.1 :: z.1, z.2)) σ H Q) :
    tCons (tM K B H0 f) (tMA K B H0 g) σ H Q := by
  obtain ⟨G, ρ, t, ρ', s, e, q⟩ := h
  obtain ⟨⟨t1, ρ1⟩, e1, e⟩ := Option.bind_eq_some_iff.mp e
  obtain ⟨⟨u, ρ2⟩, e2, e⟩ := Option.bind_eq_some_iff.mp e
  obtain ⟨⟨us, ρ3⟩, e3, e⟩ := Option.bind_eq_some_iff.mp e
  cases e
  refine ⟨G, ρ, t1, ρ1, s, e1, fun a G1 H1 E1 T1 => ?_⟩
  obtain ⟨G2, E2, _, T2⟩ := taken_ok E1 T1 e2
  exact ⟨G2, ρ2, us, ρ3, E2.s1, e3, fun vs G3 H3 E3 T3 => q (a :: vs) G3 H3 (E2.trans E3) ⟨T2.move E2 E3, T3.back E2⟩⟩
theorem nil_ok {Q : List V → Hp → Prop} (h : tMA K B H0 (fun ρ => some ([], ρ)) σ H Q) : tNil σ H Q := by
  obtain ⟨G, ρ, t, ρ', s, e, q⟩ := h
  cases e
  exact q [] G H (EI.refl s) trivial
theorem Ds_ok {vs : List V} {ts : List T} {ds : List D} (h : TRepL K Hs G H σ vs ts) (e : Ds ts = some ds) : RepL K G vs ds := by
  induction vs generalizing ts ds with
  | nil => cases ts with
    | nil => cases e; exact .nil
    | cons => exact h.elim
  | cons v vs ih => cases ts with
    | nil => exact h.elim
    | cons t ts =>
      cases t with
      | d d =>
        obtain ⟨r, e1, e2⟩ := Option.map_eq_some_iff.mp (show (Ds ts).map (d :: ·) = some ds from e)
        subst e2
        exact .cons h.1 (ih h.2 e1)
      | new o => cases e
      | sl i => cases e
theorem tup_ok {g : List Sl → Rs (List T)} {Q : VK} (h : tM K B H0 (fun ρ => (g ρ).bind fun r => (tupF r.1).map fun t => (t, r.2)) σ H Q) : tTup (tMA K B H0 g) σ H Q := by
  obtain ⟨G, ρ, t, ρ', s, e, q⟩ := h
  obtain ⟨⟨ts, ρ1⟩, e1, e⟩ := Option.bind_eq_some_iff.mp e
  obtain ⟨u, e2, e⟩ := Option.map_eq_some_iff.mp e
  cases e
  obtain ⟨ds, e3, e⟩ := Option.bind_eq_some_iff.mp e2
  split at e
  · rename_i hz
    cases e
    refine ⟨G, ρ, ts, ρ1, s, e1, fun vs G1 H1 E T => ?_⟩
    have l := Ds_ok T e3
    exact ⟨by rw [l.length]; exact hz, fun p hp => q _ _ _ (E.gro (Gro.new E.s1.sub hp)) (Rep.newTup E.s1.sub hp l)⟩
  · cases e
theorem lst_ok {g : List Sl → Rs (List T)} {Q : VK} (h : tM K B H0 (fun ρ => (g ρ).bind fun r => (lstF r.1).map fun t => (t, r.2)) σ H Q) : tLst (tMA K B H0 g) σ H Q := by
  obtain ⟨G, ρ, t, ρ', s, e, q⟩ := h
  obtain ⟨⟨ts, ρ1⟩, e1, e⟩ := Option.bind_eq_some_iff.mp e
  obtain ⟨u, e2, e⟩ := Option.map_eq_some_iff.mp e
  cases e
  obtain ⟨ds, e3, e⟩ := Option.bind_eq_some_iff.mp e2
  split at e
  · rename_i hz
    cases e
    refine ⟨G, ρ, ts, ρ1, s, e1, fun vs G1 H1 E T => ?_⟩
    have l := Ds_ok T e3
    exact ⟨by rw [l.length]; exact hz, fun p hp => q _ _ _ (E.gro (Gro.tmp E.s1.sub hp)) ((PRep.newLst E.s1.sub hp l).t E)⟩
  · cases e
/-- a call of a def -/
theorem frz_ok {f : List Sl → Rs T} {Q : VK} (h : tM K B H0 (fun ρ => (asD (f ρ)).map fun r => (.d r.1, r.2)) σ H Q) : tM K B H0 f σ H Q := by
  obtain ⟨G, ρ, t, ρ', s, e, q⟩ := h
  obtain ⟨⟨d, ρ1⟩, e1, e2⟩ := Option.map_eq_some_iff.mp e
  cases e2
  obtain ⟨t1, ρ2, e3, e4⟩ := Option.bind_eq_some_iff.mp e1 |> fun ⟨⟨t1, ρ2⟩, z1, z2⟩ => (⟨t1, ρ2, z1, z2⟩ : ∃ t1 ρ2, f ρ = some (t1, ρ2) ∧ settle ρ2 t1 = some (d, ρ1))
  refine ⟨G, ρ, t1, ρ2, s, e3, fun v G1 H1 E T => ?_⟩
  obtain ⟨G2, E2, _, r⟩ := settle_ok E T e4
  exact q v G2 H1 E2 r
theorem call_ok {call : Str → List Arg → Option (T × List Sl)} {f : Str} {np : Nat} {g : List Sl → Rs (List T)} {Q : VK} (h : tM K B H0 (fun ρ => (g ρ).bind fun r => callF call f r.1 r.2) σ H Q)
    (hl : ∀ ρ ts ρ', g ρ = some (ts, ρ') → ts.length = np) : tCall (spF K call f np) [] E0 (tMA K B H0 g) σ H Q := by
  obtain ⟨G, ρ, t, ρ', s, e, q⟩ := h
  obtain ⟨⟨ts, ρ1⟩, e1, e⟩ := Option.bind_eq_some_iff.mp e
  dsimp only at e
  unfold callF at e
  obtain ⟨args, e2, e⟩ := Option.bind_eq_some_iff.mp e
  split at e
  · rename_i nd
    obtain ⟨⟨t0, bs⟩, e3, e⟩ := Option.bind_eq_some_iff.mp e
    refine ⟨G, ρ, ts, ρ1, s, e1, fun vs G1 H1 E T => ?_⟩
    have fin : ∀ l, t0 = t → backs ρ1 ts bs = some l → ρ' = setAll ρ1 l → spF K call f np (vs ++ []) H1 Q E0 := fun l ht hb hr => by
      subst ht hr
      rw [List.append_nil]
      exact ⟨G1, args, t0, bs, E.s1.sub, args_ok E.s1 T (fun b z => E.s0.alive (E.ow b z)) e2 nd.1 nd.2, e3, by rw [T.len]; exact hl _ _ _ e1, fun v G2 H2 cp pr => q v G2 H2 (back_ok E T e2 nd.1 cp hb) (pr.t E)⟩
    dsimp only at e
    split at e
    · cases e
    · rename_i t1 _
      obtain ⟨l, e4, e⟩ := Option.map_eq_some_iff.mp e
      cases e
      exact fin l rfl e4 rfl
  · cases e
end
end Fw

set_option maxHeartbeats 4000000
/-! FwX: two rules of the machine that the layer lacks: list(reversed(list)), list.extend(tuple). -/
namespace FwX
open PySem PySem.Spec PyProof.Rows L2 RT

section
variable {prog : Program} {w : World} {A : Around} {E : Value → Shared → Prop} {s : Shared}
theorem list_init_rev {R : Result → Shared → Prop} {it l S : Addr} {items : Array Value} (hh : A.handled = none) (hit : s.heap.IsRevIter it l ((items.size : Int) - 1)) (hl : s.heap.IsList l items) (hne : l ≠ it) (hn : items.size ≤ sizeLine)
    (hS : s.heap.get? S = some { cls := .type "list", data := .seq #[] }) (hSi : S ≠ it) (hSl : S ≠ l)
    (hR : ∀ (h' : Heap) (tk : Nat) (acc : Array Value) (c : Nat), (∀ b o, b ≠ it → b ≠ S → s.heap.get? b = some o → h'.get? b = some o) → h'.get? S = some { cls := .type "list", dict := none, data := .seq acc c, slots := #[] } →
      ItemsOf (fun i v => items[items.size - 1 - i]? = some v) acc items.size → R (.ok (.ret .none)) { s with heap := h', toks := tk }) :
    wpAny (model prog w) A.in1 (Builtin.«list.__init__» ⟨[.ref S, .ref it], []⟩)
      (fun fin s' => match fin with | .done f => R (.ok f) s' | .again c' => c'.quiet = true ∧ codeAny (model prog w) A c' R s') (fun e s' => R (.error e) s') s := by
  show wpAny _ _ (do let old ← Builtin.List.listItems (.ref S); Builtin.List.listUpdate (.ref S) (fun _ => #[]); letGo old.toList.reverse; Builtin.List.listExtendWith (.ref S) (.ref it) .none) _ _ s
  refine wpAny_bind ?_
  unfold Builtin.List.listItems
  refine wpAny_bind (wpAny_seqItems hS rfl (wpAny_pure ?_))
  show wpAny _ _ (updateSeq S (fun _ => #[]) >>= fun _ => letGo (#[] : Array Value).toList.reverse >>= fun _ => Builtin.List.listExtendWith (.ref S) (.ref it) .none) _ _ s
  refine wpAny_bind (wpAny_updateSeq hS rfl ?_)
  have z2 := Heap.get?_update_self (Obj.mapSeq (fun _ => (#[] : Array Value))) hS rfl
  have oth : ∀ b o, b ≠ S → s.heap.get? b = some o → (s.heap.update S (Obj.mapSeq (fun _ => (#[] : Array Value)))).get? b = some o := fun b o hb e => (Heap.get?_update_other _ _ (Ne.symm hb)).trans e
  refine wpAny_bind (wpAny_letGo ?_)
  have W := (Walks.listRev (prog := prog) (w := w) (A := A.in1) hh it l hne items).toS
  have hSf : S ∉ [it, l] := by simp only [List.mem_cons, List.not_mem_nil, or_false, not_or]; exact ⟨hSi, hSl⟩
  have i1 : (s.heap.update S (Obj.mapSeq (fun _ => (#[] : Array Value)))).IsRevIter it l ((items.size : Int) - 1) := hit.at fun o e => oth _ _ (Ne.symm hSi) e
  have l1 : (s.heap.update S (Obj.mapSeq (fun _ => (#[] : Array Value)))).IsList l items := by
    obtain ⟨o, ho, r⟩ := hl
    exact ⟨o, oth _ _ (Ne.symm hSl) ho, r⟩
  have hT : ({ s with heap := s.heap.update S (Obj.mapSeq (fun _ => (#[] : Array Value))) } : Shared).TypeIs (.ref it) "list_reverseiterator" := Heap.IsRevIter.typeIs (s := { s with heap := s.heap.update S (Obj.mapSeq (fun _ => (#[] : Array Value))) }) i1
  have h1 : Builtin.List.listSameRef (.ref S) (.ref it) = false := by simp [Builtin.List.listSameRef, hSi]
  unfold Builtin.List.listExtendWith
  refine wpAny_bind (wpAny_typeOf hT ?_)
  rw [if_neg (by rw [h1]; decide)]
  refine wpAny_bind (wpAny_pyIter_revIter (s := { s with heap := s.heap.update S (Obj.mapSeq (fun _ => (#[] : Array Value))) }) i1 ?_)
  refine wpAny_bind (wpAny_holding ?_)
  unfold Builtin.List.listLengthHint
  refine wpAny_bind (wpAny_specialOf hT nolen_lri ?_)
  show wpAny _ A.in1 (specialOf (Value.ref it) (Str.ofString "__length_hint__") >>= _) _ _ _
  refine wpAny_bind (wpAny_specialOf hT hint_lri ?_)
  generalize hid : ("list_reverseiterator.__length_hint__" : String) = id0
  wp_delta
  rw [show splitId id0 = some ("list_reverseiterator", "__length_hint__") from by subst hid; decide +kernel]
  subst hid
  refine wpAny_bind (wpAny_isInstance (b := true) hT (by rw [isSubtype_type]; kernel_rfl) ?_)
  refine wpAny_pure ?_
  rw [if_neg (by decide)]
  have e0 : ((items.size : Nat) : Int) - 1 - ((0 : Nat) : Int) = (items.size : Int) - 1 := by omega
  refine wpAny_pure ⟨plainId_quiet F.plain_extend_loop _, codeAny_extend_loopS W hn _ hSf _ items.size 0 _ _ _ rfl (Nat.zero_le _) ⟨Nat.zero_le _, by rw [e0]; exact i1, l1⟩ z2 (ItemsOf.nil _) fun s' acc' c' hm hS' hacc => ?_⟩
  rw [Moved.eq_with hm]
  refine hR s'.heap s'.toks acc' c' (fun b o hb hbS e => hm.heap b o (fun hmem => ?_) (oth _ _ hbS e)) hS' hacc
  rcases List.mem_cons.mp hmem with e' | hmem
  · exact hbS e'
  · exact hb (List.mem_singleton.mp hmem)
theorem call_list_rev {it l : Addr} {items : Array Value} {Q : Value → Shared → Prop} (hh : A.handled = none) (hit : s.heap.IsRevIter it l ((items.size : Int) - 1)) (hl : s.heap.IsList l items) (hne : l ≠ it) (hn : items.size ≤ sizeLine)
    (hQ : ∀ (h' : Heap) (tk : Nat) (acc : Array Value) (c : Nat), (∀ b o, b ≠ it → s.heap.get? b = some o → h'.get? b = some o) → h'.get? s.heap.objs.size = some { cls := .type "list", dict := none, data := .seq acc c, slots := #[] } →
      ItemsOf (fun i v => items[items.size - 1 - i]? = some v) acc items.size → Q (.ref s.heap.objs.size) { s with heap := h', toks := tk }) :
    wpAny (model prog w) A (call (.type "list") [.ref it]) Q E s := by
  obtain ⟨oi, hoi, _⟩ := id hit
  obtain ⟨ol, hol, _⟩ := id hl
  refine callType_codes (Q₁ := fun obj s₁ => obj = .ref s.heap.objs.size ∧ s₁ = { s with heap := s.heap.push { cls := .type "list", data := .seq #[] } }) F.called_list (F.typeCall_list_1 _) F.entry_list_init
    (code_list_new _ ⟨rfl, rfl⟩) fun obj s₁ h₁ => ?_
  obtain ⟨rfl, rfl⟩ := h₁
  have hS : (s.heap.push { cls := .type "list", data := .seq #[] }).get? s.heap.objs.size = some { cls := .type "list", data := .seq #[] } := Heap.get?_push_size _ rfl
  refine ⟨⟨_, hS, rfl⟩, F.args_list_init_2 _ _, list_init_rev (A := A.in1) (s := { s with heap := s.heap.push { cls := .type "list", data := .seq #[] } }) hh (hit.at fun o e => Heap.get?_push_of_some _ e) (hl.push _) hne hn hS (Nat.ne_of_gt (Heap.lt_size hoi)) (Nat.ne_of_gt (Heap.lt_size hol)) fun h' tk acc c hk hS' hacc => ?_⟩
  exact ⟨rfl, hQ h' tk acc c (fun b o hb e => hk b o hb (Nat.ne_of_lt (Heap.lt_size e)) (Heap.get?_push_of_some _ e)) hS' hacc⟩
end

section
variable {X : Cx}
/-- list(reversed(x)), x a list: a new list -/
def tLstRev (K : PySem.W.Frag) (te : TE) : TE := fun σ H Q => te σ H fun v H1 => ∃ (a : Addr) (xs : List V), v = .ref a ∧ SqL K H1 a xs ∧ ∀ q, H1 q = none → Q (.ref q) (upd H1 q (.lst xs.reverse))
theorem pe_lstRev {e : Expr} {te : TE} {p p2 pos pos2 : Pos} (hc : X.calm = true) (hg : Gl X "list") (hm : X.mg "list" = none) (hg2 : Gl X "reversed") (hm2 : X.mg "reversed" = none) (he : PE X e te)
    (hs : starEach [e] X.env = (false, eval e X.env) :: starEach [] X.env)
    (hs2 : starEach [.Call (.Name "reversed" p2) [e] [] pos2] X.env = (false, eval (.Call (.Name "reversed" p2) [e] [] pos2) X.env) :: starEach [] X.env := by rfl) :
    PE X (.Call (.Name "list" p) [.Call (.Name "reversed" p2) [e] [] pos2] [] pos) (tLstRev X.K te) := by
  refine ⟨fun pins s σ H Q I h => ?_⟩
  refine Call_ (ld_blt I hg hm boot_list (PyProof.Rows.callWith_type1 (args_cons (Call_ (ld_blt I hg2 hm2 PyProof.Rows.boot_reversed (PyProof.Rows.callWith_type1 (args_cons (thn (he.run pins s σ H _ I h) fun u s1 ⟨v, H1, I1, r1, q1⟩ => args_nil ?_) hs) hs rfl))) hs2) hs2 rfl))
  obtain ⟨a, xs, ev, hq, q⟩ := q1
  subst ev
  obtain rfl : u = Value.ref a := r1
  obtain ⟨its, rv, p', hz⟩ := I1.list hq
  refine call_reversed_list p'.isList (args_nil ?_)
  have k0 : ∀ b o, s1.heap.get? b = some o → (s1.heap.push (revObj a ((its.toArray.size : Int) - 1))).get? b = some o := fun b o e => Heap.get?_push_of_some _ e
  have I2 : Inv X pins σ H1 { s1 with heap := s1.heap.push (revObj a ((its.toArray.size : Int) - 1)) } := I1.kept (t' := s1.toks) k0
  obtain ⟨f0, f1, f2, f3, f4, f5⟩ := I1.fpOk (H' := H1) (b := s1.heap.objs.size) (Nat.le_refl _) (I1.hok.fresh (Nat.le_refl _))
  have hl := p'.isList
  obtain ⟨ol, hol, _⟩ := id hl
  have hne : a ≠ s1.heap.objs.size := Nat.ne_of_lt (Heap.lt_size hol)
  have hn : its.toArray.size ≤ sizeLine := by rw [List.size_toArray, ← rv.length]; exact hz
  refine call_list_rev (s := { s1 with heap := s1.heap.push (revObj a ((its.toArray.size : Int) - 1)) }) (I1.ok.hd hc) ⟨_, Heap.get?_push_size _ rfl, rfl, rfl⟩ (hl.push _) hne hn fun h' tk acc c hk hS' hi => ?_
  have hp : H1 (s1.heap.push (revObj a ((its.toArray.size : Int) - 1))).objs.size = none := I2.hok.fresh (Nat.le_refl _)
  have I3 : Inv X pins σ H1 { s1 with heap := h', toks := tk } := I2.turned (t' := tk) (fun b o hb e => hk b o hb e) f0 f1 f3 f4 f5
  generalize hz2 : s1.heap.push (revObj a ((its.toArray.size : Int) - 1)) = h2 at *
  have J : Inv X pins σ (upd H1 h2.objs.size (.lst xs.reverse)) { s1 with heap := h2.push { cls := .type "list", dict := none, data := .seq acc c, slots := #[] } } := by
    refine I2.laid (t' := s1.toks) (fun b o e => Heap.get?_push_of_some _ e) (Nat.le_refl _) (show ObjOk X.prog X.w _ _ _ (.lst xs.reverse) from ⟨by rw [List.length_reverse]; exact hz, acc.toList, c, vals_rev rv hi, ?_⟩)
    rw [Array.toArray_toList]
    exact Heap.get?_push_size _ rfl
  have ne : s1.heap.objs.size ≠ h2.objs.size := by
    rw [← hz2, Heap.size_push]
    exact Nat.ne_of_lt (Nat.lt_succ_self _)
  have I4 : Inv X pins σ (upd H1 h2.objs.size (.lst xs.reverse)) { s1 with heap := h', toks := tk } := by
    refine Inv.turned (s := { s1 with heap := h2.push { cls := .type "list", dict := none, data := .seq acc c, slots := #[] } }) (h' := h') J (it := s1.heap.objs.size) (t' := tk) (fun b o hb e => ?_) (by rw [upd_ne ne]; exact f0) f1 f3 f4 f5
    by_cases hbs : b = h2.objs.size
    · subst hbs
      have e3 := (Heap.get?_push_size h2 (o := { cls := .type "list", dict := none, data := .seq acc c, slots := #[] }) rfl).symm.trans e
      cases e3
      exact hS'
    · refine hk b o hb ?_
      rcases Heap.get?_push_cases e with ⟨e', _⟩ | e'
      · exact absurd e' hbs
      · exact e'
  exact ⟨.ref _, _, I4, rfl, q _ hp⟩
/-- list.extend of a tuple -/
def rExtendT (K : PySem.W.Frag) : V → List V → Hp → VK → Prop := fun x vs H Q => ∃ l b xs zs, x = .ref l ∧ vs = [.ref b] ∧ H l = some (.lst xs) ∧ SqT K H b zs ∧ xs.length + zs.length ≤ sizeLine ∧ Q .non (upd H l (.lst (xs ++ zs)))
end
section
theorem extend_tup (l : Addr) (items : Array Value) (n : Nat) (b : Addr) (ob : Obj) (items2 : Array Value) (n2 : Nat) (hc : ob.cls = .type "tuple") (hd : ob.data = .seq items2 n2)
    (z0 : ¬(!items.isEmpty && Builtin.List.listTooLong (items.size + items2.size)) = true) (z1 : items.size ≤ sizeLine) (z2 : items.size + items2.size ≤ sizeLine + 1) :
    Meets (Builtin.«list.extend» ⟨[.ref l, .ref b], []⟩) (fun _ R s => s.heap.get? l = some { cls := .type "list", dict := none, data := .seq items n, slots := #[] } ∧ s.heap.get? b = some ob ∧ R (.ok (.ret Value.none)) { s with heap := s.heap.update l (Obj.mapSeq fun x => x ++ items2), toks := s.toks }) :=
  .of_wp fun prog w A R s h => by
    obtain ⟨hp, g, d, tk, os⟩ := s
    obtain ⟨hl, hb, h⟩ := h
    obtain ⟨cls, dd, dt, sl⟩ := ob
    simp only at hc hd
    subst hc hd
    have f2 := sub_tuple_tuple; have f3 := sub_list_list; have f4 := sub_tuple_list; have f5 := sub_list_tuple
    have hz' : (items ++ items2).size ≤ sizeLine + 1 := by rw [Array.size_append]; exact z2
    wp_walk using (wpAny_updateSeq hl rfl (hz := z1) (_hz' := hz')), wpAny_loadPart' hl, wpAny_loadPart' hb
    exact ⟨_, rfl, h⟩
end
section
variable {X : Cx}
theorem mt_extendT : MtM X "list.extend" (rExtendT X.K) := by
  intro pins s σ H x vs v us Q I rx rv h
  obtain ⟨l, b, xs, zs, rfl, rfl, hH, hB, hz, q⟩ := h
  cases rx
  obtain ⟨u, rfl, ru⟩ := rv.one
  cases ru
  obtain ⟨z, its, n, r, hl, e⟩ := I.lstM hH
  obtain ⟨its2, r2, ⟨ob, e2, c2, n2, d2⟩, _⟩ := I.tuple hB
  have hl2 := r2.length
  have hsz : its.toArray.size + its2.toArray.size ≤ sizeLine := by rw [List.size_toArray, List.size_toArray]; omega
  refine call_meets F.slot_list_extend ⟨_, e, rfl⟩ F.entry_list_extend (F.args_list_extend_2 _ _)
    (extend_tup l its.toArray n b ob its2.toArray n2 c2 d2 (by rw [notLongL hsz, Bool.and_false]; exact Bool.false_ne_true) (by rw [List.size_toArray]; omega) (by omega)) ⟨e, e2, ?_⟩
  refine ⟨.non, _, I.lset (its' := its ++ its2) hH e (by simp) (r.append r2) (by rw [List.length_append]; omega), rfl, q⟩
end
end FwX

set_option maxHeartbeats 4000000
/-! Fw8: methods that change a list; what is walked; targets; comprehensions. -/
namespace Fw
open PySem PySem.Spec PyProof.Rows L2

section
variable {K : PySem.W.Frag} {B : Nat → Option Addr} {H0 G H G' H' G1 H1 G2 H2 Gs Hs : Hp} {σ σ' σw σ2 : St} {ρ ρ' ρs ρ1 ρ2 : List Sl}
/-- the list of slot i and its change -/
theorem setO_ok {i : Nat} {xs : List D} {v : V} (s : StRep K B H0 G H σ ρ) (g : getO ρ i = some (.lst xs)) (hv : σ[i]? = some (some v)) :
    ∃ a vs, v = .ref a ∧ H a = some (.lst vs) ∧ RepL K G vs xs ∧ Ow σ ρ a ∧ ∀ ws ys ρ', RepL K G ws ys → setO ρ i (.lst ys) = some ρ' → EI K B H0 σ G H ρ G (upd H a (.lst ws)) ρ' := by
  have go : ∀ (s0 s1 : Sl) (a : Addr) (ys : List D) (ws : List V), ρ[i]? = some s0 → σ[i]? = some (some (.ref a)) → s0.isOwn = true → ORep K G H a (.lst xs) → (s1 = .own (.lst ys) ∧ H0 a = none ∧ s0.pinned = false ∨ s1 = .bor (.lst ys)) → RepL K G ws ys → EI K B H0 σ G H ρ G (upd H a (.lst ws)) (ρ.set i s1) := by
    intro s0 s1 a ys ws q ha ho r h1 rw'
    obtain ⟨vs, e1, e2, e3⟩ := r
    have own0 : OwnAt σ ρ i a := ⟨ha, s0, q, ho⟩
    have hs1 : s1.isOwn = true := by rcases h1 with ⟨rfl, _⟩ | rfl <;> rfl
    have ob : ∀ {j b}, OwnAt σ (ρ.set i s1) j b → OwnAt σ ρ j b := fun {j b} ⟨z1, s2, z2, z3⟩ => by
      rcases getset z2 with ⟨rfl, rfl, _⟩ | ⟨_, z4⟩
      · rw [ha] at z1; cases z1; exact own0
      · exact ⟨z1, s2, z4, z3⟩
    have alv : ∀ b, H b ≠ none → upd H a (.lst ws) b ≠ none := fun b z => by
      by_cases hb : b = a
      · subst hb; rw [upd_same]; simp
      · rw [upd_ne hb]; exact z
    refine ⟨s, ⟨fun j b hB => ?_, fun b z => alv b (s.ali b z), fun b o z => ?_, by rw [List.length_set]; exact s.len, fun j s2 z => ?_, fun j k b u1 u2 => s.inj j k b (ob u1) (ob u2)⟩, ⟨Same.refl _, fun b o z n => ?_, alv⟩, fun b ⟨j, hj⟩ => ⟨j, ob hj⟩⟩
    · obtain ⟨p1, s2, p2, p3⟩ := s.pin j b hB
      refine ⟨p1, ?_⟩
      by_cases hij : i = j
      · subst hij
        rw [q] at p2; cases p2
        refine ⟨s1, by rw [List.getElem?_set_self (List.getElem?_eq_some_iff.mp q).1], ?_⟩
        rcases h1 with ⟨_, _, n⟩ | rfl
        · rw [p3] at n; cases n
        · rfl
      · exact ⟨s2, by rw [List.getElem?_set_ne hij]; exact p2, p3⟩
    · have hb : b ≠ a := fun w => by subst w; rw [e2] at z; cases z
      rw [upd_ne hb]; exact s.sub _ _ z
    · rcases getset z with ⟨rfl, rfl, _⟩ | ⟨n, z4⟩
      · rcases h1 with ⟨rfl, f, _⟩ | rfl
        · exact ⟨a, ha, ⟨ws, upd_same, e2, rw'⟩, f⟩
        · exact ⟨a, ha, ⟨ws, upd_same, e2, rw'⟩⟩
      · have y := s.at_ j s2 z4
        have nb : ∀ b, OwnAt σ ρ j b → b ≠ a := fun b hb w => n (s.inj i j a own0 (w ▸ hb))
        cases s2 with
        | no => trivial
        | d d => exact y
        | fz d => exact y
        | own o1 =>
          obtain ⟨b, e5, r, f⟩ := y
          exact ⟨b, e5, r.move (Same.refl _) fun x ex => ⟨by rw [upd_ne (nb b ⟨e5, _, z4, rfl⟩)]; exact ex, fun w => w⟩, f⟩
        | bor o1 =>
          obtain ⟨b, e5, r⟩ := y
          exact ⟨b, e5, r.move (Same.refl _) fun x ex => ⟨by rw [upd_ne (nb b ⟨e5, _, z4, rfl⟩)]; exact ex, fun w => w⟩⟩
    · have hb : b ≠ a := fun w => n (w ▸ ⟨i, own0⟩)
      rw [upd_ne hb]; exact ⟨z, fun w => w⟩
  unfold getO at g
  split at g
  · rename_i o q
    cases g
    obtain ⟨a, e1, r, f⟩ := s.at_ i _ q
    rw [hv] at e1; cases e1
    obtain ⟨vs, h1, h2, h3⟩ := id r
    refine ⟨a, vs, rfl, h1, h3, ⟨i, hv, _, q, rfl⟩, fun ws ys ρ' r2 e => ?_⟩
    simp only [setO, q] at e
    cases e
    exact go _ _ a ys ws q hv rfl r (.inl ⟨rfl, f, rfl⟩) r2
  · rename_i o q
    cases g
    obtain ⟨a, e1, r⟩ := s.at_ i _ q
    rw [hv] at e1; cases e1
    obtain ⟨vs, h1, h2, h3⟩ := id r
    refine ⟨a, vs, rfl, h1, h3, ⟨i, hv, _, q, rfl⟩, fun ws ys ρ' r2 e => ?_⟩
    simp only [setO, q] at e
    cases e
    exact go _ _ a ys ws q hv rfl r (.inr rfl) r2
  · cases g
/-- a slot that owns is a list now -/
theorem ow_lst (s : StRep K B H0 G H σ ρ) {a : Addr} (h : Ow σ ρ a) : ∃ vs, H a = some (.lst vs) := by
  obtain ⟨i, e1, s1, e2, e3⟩ := h
  obtain ⟨b, o, z1, z2, _⟩ := (s.at_ i s1 e2).own_of e3
  rw [e1] at z1; cases z1
  cases o with
  | lst xs => obtain ⟨vs, w, _⟩ := z2; exact ⟨vs, w⟩
def rMut (K : PySem.W.Frag) (m : Mt) : V → List V → Hp → VK → Prop := fun x vs H Q => ∃ G a us xs ds d ys, x = .ref a ∧ H a = some (.lst us) ∧ G a = none ∧ Same G H ∧ RepL K G us xs ∧ VRepL K G H vs ds ∧ mutF m xs ds = some (d, ys) ∧
  (m = .append → ∀ v e, vs = [v] → ds = [e] → Rep K G v e) ∧ ∀ v ws, Rep K G v d → RepL K G ws ys → Q v (upd H a (.lst ws))
theorem mth_ok {m : Mt} {k : Nat} {f : List Sl → Rs T} {g : List Sl → Rs (List T)} {Q : VK} (hk : m = .append → k = 2) (hf : ∀ ρ t ρ', f ρ = some (t, ρ') → ∀ i, t = .sl i → ∃ o, getO ρ' i = some o)
    (hg : m = .append → ∀ ρ ts ρ', g ρ = some (ts, ρ') → ∀ t ∈ ts, ∃ d, t = T.d d)
    (h : tM K B H0 (fun ρ => (f ρ).bind fun r => (slOf r.1).bind fun i => (g r.2).bind fun s => mthF m i s.1 s.2) σ H Q) :
    tM K B H0 f σ H fun x H1 => tyV K "list" x H1 ∧ tMA K B H0 g σ H1 fun vs H2 => rMut K m x vs H2 Q := by
  obtain ⟨G, ρ, t, ρ', s, e, q⟩ := h
  obtain ⟨⟨t1, ρ1⟩, e1, e⟩ := Option.bind_eq_some_iff.mp e
  obtain ⟨i, ei, ea⟩ := Option.bind_eq_some_iff.mp e
  obtain ⟨⟨ts, ρ2⟩, e2, eb⟩ := Option.bind_eq_some_iff.mp ea
  have et : t1 = .sl i := by
    dsimp only at ei
    unfold slOf at ei
    split at ei
    · cases ei; rfl
    · cases ei
  dsimp only at eb e2
  clear ea ei e
  subst et
  unfold mthF at eb
  obtain ⟨ds, e3, ec⟩ := Option.bind_eq_some_iff.mp eb
  obtain ⟨o, e4, ed⟩ := Option.bind_eq_some_iff.mp ec
  clear eb ec
  cases o with
  | lst xs =>
  obtain ⟨⟨d, ys⟩, e5, ef⟩ := Option.bind_eq_some_iff.mp ed
  obtain ⟨ρ3, e6, eg⟩ := Option.map_eq_some_iff.mp ef
  clear ed ef
  cases eg
  refine ⟨G, ρ, _, ρ1, s, e1, fun x G1 H1 E1 T1 => ⟨?_, G1, ρ1, ts, ρ2, E1.s1, e2, fun vs G2 H2 E2 T2 => ?_⟩⟩
  · have hv : σ[i]? = some (some x) := T1
    obtain ⟨o, ho⟩ := hf _ _ _ e1 i rfl
    cases o with
    | lst zs =>
    obtain ⟨a, us, rfl, ha, _⟩ := setO_ok E1.s1 ho hv
    exact .inl ⟨rfl, us, .inl (.inl ha)⟩
  · have hv : σ[i]? = some (some x) := T1
    obtain ⟨a, us, rfl, ha, r, ow, up⟩ := setO_ok E2.s1 e4 hv
    refine ⟨G2, a, us, xs, ds, d, ys, rfl, ha, E2.s1.gnone ow, E2.s1.sub, r, views_ok E2.s1 T2 e3, e5, fun hm v y ev ed => ?_, fun v ws rv rw' => ?_⟩
    · subst ev ed
      match ts, T2, e3, hg hm _ _ _ e2 with
      | [t], T2, e3, hd =>
        obtain ⟨d', rfl⟩ := hd t (by simp)
        simp [views, view] at e3
        subst e3
        exact T2.1
    · have E := up ws ys _ rw' e6
      have EE := E1.trans (E2.trans E)
      exact q v _ _ EE rv

/-! ### what is walked -/
theorem asD_inv {f : List Sl → Rs T} {d : D} (h : asD (f ρ) = some (d, ρ')) : ∃ t ρ1, f ρ = some (t, ρ1) ∧ settle ρ1 t = some (d, ρ') := by
  obtain ⟨⟨t, ρ1⟩, e1, e2⟩ := Option.bind_eq_some_iff.mp h
  exact ⟨t, ρ1, e1, e2⟩
theorem itOk_list {a : Addr} {vs : List V} {ds : List D} (h : G a = some (.lst vs)) (l : RepL K G vs ds) : ItOk K G (Itl K a) ds := by
  intro i G' H' s1 s2
  have hH : SqL K H' a vs := .inl (.inl (s2 _ _ (s1 _ _ h)))
  refine ⟨fun d e => ?_, fun e => ⟨vs, hH, by rw [l.length]; exact e⟩⟩
  obtain ⟨v, e1, r⟩ := l.get e
  refine ⟨⟨vs, v, hH, e1⟩, fun x H'' ⟨z1, z2⟩ => ?_⟩
  subst z1
  have := z2 vs hH
  rw [e1] at this; cases this
  exact ⟨G', Gro.refl s2, r.mono s1⟩
theorem itOk_tup {a : Addr} {vs : List V} {ds : List D} (h : SqT K G a vs) (l : RepL K G vs ds) : ItOk K G (Itt K a) ds := by
  intro i G' H' s1 s2
  have hH : SqT K H' a vs := sqT_mono s2 (sqT_mono s1 h)
  refine ⟨fun d e => ?_, fun e => ⟨vs, hH, by rw [l.length]; exact e⟩⟩
  obtain ⟨v, e1, r⟩ := l.get e
  refine ⟨⟨vs, v, hH, e1⟩, fun x H'' ⟨z1, z2⟩ => ?_⟩
  subst z1
  have := z2 vs hH
  rw [e1] at this; cases this
  exact ⟨G', Gro.refl s2, r.mono s1⟩
theorem itOk_str (z : Str) : ItOk K G (Its z) (z.cps.toList.map fun c => D.str ⟨#[c]⟩) := by
  intro i G' H' s1 s2
  refine ⟨fun d e => ?_, fun e => by rw [List.length_map, Array.length_toList] at e; exact e⟩
  rw [List.getElem?_map] at e
  obtain ⟨c, e1, e2⟩ := Option.map_eq_some_iff.mp e
  subst e2
  have e1' : z.cps[i]? = some c := by rw [← Array.getElem?_toList]; exact e1
  refine ⟨?_, fun x H'' ⟨z1, c', z2, z3⟩ => ?_⟩
  · show i < z.cps.size
    have := (List.getElem?_eq_some_iff.mp e1).1
    rw [Array.length_toList] at this; exact this
  · subst z1 z3
    rw [e1'] at z2; cases z2
    exact ⟨G', Gro.refl s2, .str _⟩
theorem itOk_rng (a b : Int) : ItOk K G (Itr a (b - a).toNat) (rngL a b) := by
  intro i G' H' s1 s2
  have hl : (rngL a b).length = (b - a).toNat := by unfold rngL; rw [List.length_map, List.length_range]
  refine ⟨fun d e => ?_, fun e => by rw [hl] at e; exact e⟩
  have hi : i < (b - a).toNat := by rw [← hl]; exact (List.getElem?_eq_some_iff.mp e).1
  refine ⟨hi, fun x H'' ⟨z1, z2⟩ => ?_⟩
  subst z1 z2
  unfold rngL at e
  rw [List.getElem?_map, List.getElem?_range hi] at e
  cases e
  exact ⟨G', Gro.refl s2, .int _⟩
theorem seq_ok {f : List Sl → Rs T} {R : It → Hp → Prop} (h : tMI K B H0 (fun ρ => (asD (f ρ)).bind fun r => (items r.1).map fun xs => (xs, r.2)) σ H R) :
    (iList K (tM K B H0 f) σ H R ∨ iTup K (tM K B H0 f) σ H R) ∨ iStr (tM K B H0 f) σ H R := by
  obtain ⟨G, ρ, ds, ρ', s, e, q⟩ := h
  obtain ⟨⟨d, ρ1⟩, e1, e⟩ := Option.bind_eq_some_iff.mp e
  obtain ⟨xs, e2, e⟩ := Option.map_eq_some_iff.mp e
  cases e
  obtain ⟨t, ρ2, e3, e4⟩ := asD_inv e1
  dsimp only at e2
  unfold items at e2
  split at e2
  · cases e2
    refine .inl (.inr ⟨G, ρ, t, ρ2, s, e3, fun v G1 H1 E1 T1 => ?_⟩)
    obtain ⟨G2, E2, _, r⟩ := settle_ok E1 T1 e4
    obtain ⟨a, vs, rfl, h1, l⟩ := Rep.tupI r
    exact ⟨a, rfl, ⟨vs, sqT_mono E2.s1.sub h1⟩, q _ G2 H1 E2 (itOk_tup h1 l)⟩
  · cases e2
    refine .inl (.inl ⟨G, ρ, t, ρ2, s, e3, fun v G1 H1 E1 T1 => ?_⟩)
    obtain ⟨G2, E2, _, r⟩ := settle_ok E1 T1 e4
    cases r with
    | lst h1 l => exact ⟨_, rfl, ⟨_, .inl (.inl (E2.s1.sub _ _ h1))⟩, q _ G2 H1 E2 (itOk_list h1 l)⟩
  · cases e2
    refine .inr ⟨G, ρ, t, ρ2, s, e3, fun v G1 H1 E1 T1 => ?_⟩
    obtain ⟨G2, E2, _, r⟩ := settle_ok E1 T1 e4
    cases r
    exact ⟨_, rfl, q _ G2 H1 E2 (itOk_str _)⟩
  · cases e2
theorem rngF_inv {ds zs : List D} (h : rngF ds = some zs) : (∃ b, ds = [.int b] ∧ -(2 ^ 62) ≤ b ∧ b < 2 ^ 62 ∧ zs = rngL 0 b) ∨ (∃ a b, ds = [.int a, .int b] ∧ (-(2 ^ 62) ≤ a ∧ a < 2 ^ 62 ∧ -(2 ^ 62) ≤ b ∧ b < 2 ^ 62) ∧ zs = rngL a b) := by
  unfold rngF at h
  split at h
  · split at h
    · rename_i b hz; cases h; exact .inl ⟨b, rfl, hz.1, hz.2, rfl⟩
    · cases h
  · split at h
    · rename_i a b hz; cases h; exact .inr ⟨a, b, rfl, hz, rfl⟩
    · cases h
  · cases h
theorem rng_ok {g : List Sl → Rs (List T)} {R : It → Hp → Prop} (h : tMI K B H0 (fun ρ => (g ρ).bind fun r => (views r.2 r.1).bind fun ds => (rngF ds).map fun xs => (xs, r.2)) σ H R) :
    tMA K B H0 g σ H fun vs H1 => (∃ j : Int, vs = [.int j] ∧ -(2 ^ 62) ≤ j ∧ j < 2 ^ 62 ∧ R (Itr 0 j.toNat) H1) ∨ (∃ i j : Int, vs = [.int i, .int j] ∧ (-(2 ^ 62) ≤ i ∧ i < 2 ^ 62 ∧ -(2 ^ 62) ≤ j ∧ j < 2 ^ 62) ∧ R (Itr i (j - i).toNat) H1) := by
  obtain ⟨G, ρ, ds, ρ', s, e, q⟩ := h
  obtain ⟨⟨ts, ρ1⟩, e1, e⟩ := Option.bind_eq_some_iff.mp e
  obtain ⟨xs, e2, e⟩ := Option.bind_eq_some_iff.mp e
  obtain ⟨zs, e3, e⟩ := Option.map_eq_some_iff.mp e
  cases e
  refine ⟨G, ρ, ts, ρ1, s, e1, fun vs G1 H1 E1 T1 => ?_⟩
  have w := views_ok E1.s1 T1 e2
  rcases rngF_inv e3 with ⟨b, rfl, h1, h2, rfl⟩ | ⟨a, b, rfl, h1, rfl⟩
  · obtain ⟨v, rfl, w1⟩ := w.one
    cases VRep.int w1
    refine .inl ⟨b, rfl, h1, h2, q _ G1 H1 E1 ?_⟩
    have := itOk_rng (K := K) (G := G1) 0 b
    rw [Int.sub_zero] at this; exact this
  · obtain ⟨v, v', rfl, w1, w2⟩ := w.two
    cases VRep.int w1; cases VRep.int w2
    exact .inr ⟨a, b, rfl, h1, q _ G1 H1 E1 (itOk_rng a b)⟩
end
end Fw

set_option maxHeartbeats 4000000
/-! FwZ: zip of a list or a tuple with a list or a tuple (the layer has the two even cases alone). A Bool says which: true is a tuple. -/
namespace FwZ
open PySem PySem.Spec PyProof.Rows L2 RZ

def ItrAt (k : Bool) (h : Heap) (it l : Addr) (i : Nat) : Prop := match k with
  | true => h.IsTupleIter it l i
  | false => h.IsListIter it l i
def SqAt (k : Bool) (h : Heap) (l : Addr) (xs : Array Value) : Prop := match k with
  | true => h.IsTuple l xs
  | false => h.IsList l xs
theorem ItrAt.mv {k : Bool} {h h' : Heap} {it l : Addr} {i : Nat} (p : ItrAt k h it l i) (e : ∀ o, h.get? it = some o → h'.get? it = some o) : ItrAt k h' it l i := by
  cases k with
  | true => obtain ⟨o, q, r⟩ := p; exact ⟨o, e o q, r⟩
  | false => obtain ⟨o, q, r⟩ := p; exact ⟨o, e o q, r⟩
theorem SqAt.mv {k : Bool} {h h' : Heap} {l : Addr} {xs : Array Value} (p : SqAt k h l xs) (e : ∀ o, h.get? l = some o → h'.get? l = some o) : SqAt k h' l xs := by
  cases k with
  | true => obtain ⟨o, q, r⟩ := p; exact ⟨o, e o q, r⟩
  | false => obtain ⟨o, q, r⟩ := p; exact ⟨o, e o q, r⟩
theorem ItrAt.lt {k : Bool} {h : Heap} {it l : Addr} {i : Nat} (p : ItrAt k h it l i) : it < h.objs.size := by
  cases k with
  | true => obtain ⟨o, q, r⟩ := p; exact Heap.lt_size q
  | false => obtain ⟨o, q, r⟩ := p; exact Heap.lt_size q
theorem SqAt.lt {k : Bool} {h : Heap} {l : Addr} {xs : Array Value} (p : SqAt k h l xs) : l < h.objs.size := by
  cases k with
  | true => obtain ⟨o, q, r⟩ := p; exact Heap.lt_size q
  | false => obtain ⟨o, q, r⟩ := p; exact Heap.lt_size q
section
variable {prog : Program} {w : World} {A : Around} {E : Value → Shared → Prop} {s : Shared} {k k1 k2 : Bool}
theorem nx_item {it l : Addr} {i : Nat} {items : Array Value} {x : Value} {Q : Value → Shared → Prop} (p : ItrAt k s.heap it l i) (q : SqAt k s.heap l items) (hx : items[i]? = some x)
    (hQ : ∀ h', ItrAt k h' it l (i + 1) → Heap.SameBut it s.heap h' → Q x { s with heap := h' }) : wpAny (model prog w) A (Builtin.SmallTypes.nextOf (.ref it)) Q E s := by
  cases k with
  | true => exact nextOf_tuple_item p q hx hQ
  | false => exact wpAny_nextOf_list_item p q hx hQ
theorem nx_end {it l : Addr} {i : Nat} {items : Array Value} {Q : Value → Shared → Prop} (hh : A.handled = none) (p : ItrAt k s.heap it l i) (q : SqAt k s.heap l items) (hx : items[i]? = none)
    (hE : ∀ h' e, Heap.ExtBut it s.heap h' → (∃ o, h'.get? e = some o ∧ o.cls = .type "StopIteration") → E (.ref e) { s with heap := h' }) : wpAny (model prog w) A (Builtin.SmallTypes.nextOf (.ref it)) Q E s := by
  cases k with
  | true => exact nextOf_tuple_end hh p q hx hE
  | false => exact wpAny_nextOf_list_end hh p q hx hE

/-- what is not one of the zip's own objects -/
def Off (z TO i1 i2 : Addr) (h h' : Heap) : Prop := ∀ c o, c ≠ z → c ≠ TO → c ≠ i1 → c ≠ i2 → h.get? c = some o → h'.get? c = some o
theorem mixed_item {z TI TO i1 i2 l1 l2 : Addr} {m : Nat} {xs ys : Array Value} {x y a b : Value} {Q : Value → Shared → Prop} (D : ZipApart z TI TO i1 i2 l1 l2)
    (gz : IsZip s.heap z TI TO .none) (gI : IsPair s.heap TI (.ref i1) (.ref i2)) (gO : IsPair s.heap TO a b)
    (p1 : ItrAt k1 s.heap i1 l1 m) (p2 : ItrAt k2 s.heap i2 l2 m) (q1 : SqAt k1 s.heap l1 xs) (q2 : SqAt k2 s.heap l2 ys) (hx : xs[m]? = some x) (hy : ys[m]? = some y)
    (fin : ∀ h', IsZip h' z TI TO (rawInt s.heap.objs.size) → IsPair h' TO x y → ItrAt k1 h' i1 l1 (m + 1) → ItrAt k2 h' i2 l2 (m + 1) → IsPair h' s.heap.objs.size x y → Off z TO i1 i2 s.heap h' → Q (.ref s.heap.objs.size) { s with heap := h' }) :
    wpAny (model prog w) A (Builtin.«zip.__next__» ⟨[.ref z], []⟩) (fun fin s' => ∃ v, fin = .done (.ret v) ∧ Q v s') E s := by
  show wpAny _ _ (field (.ref z) 2 >>= _) _ _ _
  refine wpAny_bind (wpAny_field gz rfl (x := .bool false) rfl ?_)
  show wpAny _ _ (field (.ref z) 3 >>= _) _ _ _
  refine wpAny_bind (wpAny_field gz rfl (x := .ref TI) rfl ?_)
  refine wpAny_bind (wpAny_seqItems gI rfl ?_)
  show wpAny _ _ (Builtin.SmallTypes.ownedTupleIsFree (.ref z) >>= _) _ _ _
  refine wpAny_bind ?_
  unfold Builtin.SmallTypes.ownedTupleIsFree
  refine wpAny_bind (wpAny_field gz rfl (x := .none) rfl (wpAny_pure ?_))
  simp only [if_true]
  refine wpAny_bind (wpAny_rule ?_)
  refine wpAny_bind (wpAny_field gz rfl (x := .ref TO) rfl ?_)
  refine wpAny_bind (wpAny_setField_rec gz (by simp) fun ha za sa => ?_)
  replace za : IsZip ha z TI TO .ellipsis := za
  have ea := sa.extBut
  refine wpAny_bind ?_
  simp only [List.zipIdx_cons, List.zipIdx_nil, List.forIn_cons, List.forIn_nil]
  refine wpAny_bind (wpAny_bind (wpAny_onRaise ?_))
  show wpAny _ _ (Builtin.SmallTypes.nextOf (.ref i1) >>= _) _ _ _
  refine wpAny_bind (nx_item (p1.mv fun o => ea _ o D.i1z) (q1.mv fun o => ea _ o D.l1z) hx fun hb pb sb => wpAny_pure ?_)
  have eb := sb.extBut
  have ob : IsPair hb TO a b := eb _ _ D.TOi1 (ea _ _ D.TOz gO)
  refine wpAny_bind (wpAny_seqItems ob rfl ?_)
  refine wpAny_bind (wpAny_updateSeq_pair ob fun hc oc sc => ?_)
  have ec := sc.extBut
  replace oc : IsPair hc TO x b := oc
  refine wpAny_bind (wpAny_letGo (wpAny_pure ?_))
  refine wpAny_bind (wpAny_bind (wpAny_onRaise ?_))
  show wpAny _ _ (Builtin.SmallTypes.nextOf (.ref i2) >>= _) _ _ _
  refine wpAny_bind (nx_item (p2.mv fun o q => ec _ o D.TOi2.symm (eb _ o D.i12.symm (ea _ o D.i2z q))) (q2.mv fun o q => ec _ o D.l2TO (eb _ o D.l2i1 (ea _ o D.l2z q))) hy fun hd pd sd => wpAny_pure ?_)
  have ed := sd.extBut
  have od : IsPair hd TO x b := ed _ _ D.TOi2 oc
  refine wpAny_bind (wpAny_seqItems od rfl ?_)
  refine wpAny_bind (wpAny_updateSeq_pair od fun he oe se => ?_)
  have ee := se.extBut
  replace oe : IsPair he TO x y := oe
  refine wpAny_bind (wpAny_letGo (wpAny_pure (wpAny_pure ?_)))
  refine wpAny_bind (wpAny_seqItems oe rfl ?_)
  refine wpAny_bind (wpAny_newTuple ?_)
  have sz : he.objs.size = s.heap.objs.size := by rw [se.1, sd.1, sc.1, sb.1, sa.1]
  have ze : IsZip he z TI TO .ellipsis := ee _ _ D.TOz.symm (ed _ _ D.i2z.symm (ec _ _ D.TOz.symm (eb _ _ D.i1z.symm za)))
  have off : Off z TO i1 i2 s.heap he := fun c o c1 c2 c3 c4 e => ee _ _ c2 (ed _ _ c4 (ec _ _ c2 (eb _ _ c3 (ea _ _ c1 e))))
  have pe1 : ItrAt k1 he i1 l1 (m + 1) := pb.mv fun o q => ee _ o D.TOi1.symm (ed _ o D.i12 (ec _ o D.TOi1.symm q))
  have pe2 : ItrAt k2 he i2 l2 (m + 1) := pd.mv fun o q => ee _ o D.TOi2.symm q
  have zl : z < he.objs.size := Heap.lt_size ze
  show wpAny _ _ (Builtin.SmallTypes.ownedTupleHandOut (.ref z) (.ref he.objs.size) >>= _) _ _ _
  refine wpAny_bind ?_
  unfold Builtin.SmallTypes.ownedTupleHandOut
  have zf : IsZip (he.push { cls := .type "tuple", data := .seq #[x, y] }) z TI TO .ellipsis := Heap.get?_push_of_some _ ze
  refine wpAny_bind (wpAny_setField_rec zf (by simp) fun hf zg sf => ?_)
  replace zg : IsZip hf z TI TO (rawInt he.objs.size) := zg
  refine wpAny_setField_rec zg (by simp) fun hg zh sg => ?_
  replace zh : IsZip hg z TI TO (rawInt he.objs.size) := zh
  have up : ∀ c o, c ≠ z → (he.push { cls := .type "tuple", data := .seq #[x, y] }).get? c = some o → hg.get? c = some o := fun c o c1 e => sg.extBut _ _ c1 (sf.extBut _ _ c1 e)
  have tg : IsPair hg he.objs.size x y := up _ _ (Nat.ne_of_gt zl) (Heap.get?_push_size _ rfl)
  have up' : ∀ c o, c ≠ z → he.get? c = some o → hg.get? c = some o := fun c o c1 e => up c o c1 (Heap.get?_push_of_some _ e)
  rw [sz] at zh tg
  refine wpAny_pure ⟨_, rfl, ?_⟩
  show Q (.ref he.objs.size) _
  rw [sz]
  exact fin hg zh (up' _ _ D.TOz oe) (pe1.mv fun o => up' _ o D.i1z) (pe2.mv fun o => up' _ o D.i2z) tg fun c o c1 c2 c3 c4 e => up' c o c1 (off c o c1 c2 c3 c4 e)

theorem mixed_end {z TI TO i1 i2 l1 l2 : Addr} {m : Nat} {xs ys : Array Value} {a b : Value} {Q : Fin → Shared → Prop} (hh : A.handled = none) (D : ZipApart z TI TO i1 i2 l1 l2)
    (gz : IsZip s.heap z TI TO .none) (gI : IsPair s.heap TI (.ref i1) (.ref i2)) (gO : IsPair s.heap TO a b)
    (p1 : ItrAt k1 s.heap i1 l1 m) (p2 : ItrAt k2 s.heap i2 l2 m) (q1 : SqAt k1 s.heap l1 xs) (q2 : SqAt k2 s.heap l2 ys) (hend : xs[m]? = none ∨ ys[m]? = none)
    (fin : ∀ h' e, Off z TO i1 i2 s.heap h' → (∃ o, h'.get? e = some o ∧ o.cls = .type "StopIteration") → E (.ref e) { s with heap := h' }) :
    wpAny (model prog w) A (Builtin.«zip.__next__» ⟨[.ref z], []⟩) Q E s := by
  show wpAny _ _ (field (.ref z) 2 >>= _) _ _ _
  refine wpAny_bind (wpAny_field gz rfl (x := .bool false) rfl ?_)
  show wpAny _ _ (field (.ref z) 3 >>= _) _ _ _
  refine wpAny_bind (wpAny_field gz rfl (x := .ref TI) rfl ?_)
  refine wpAny_bind (wpAny_seqItems gI rfl ?_)
  show wpAny _ _ (Builtin.SmallTypes.ownedTupleIsFree (.ref z) >>= _) _ _ _
  refine wpAny_bind ?_
  unfold Builtin.SmallTypes.ownedTupleIsFree
  refine wpAny_bind (wpAny_field gz rfl (x := .none) rfl (wpAny_pure ?_))
  simp only [if_true]
  refine wpAny_bind (wpAny_rule ?_)
  refine wpAny_bind (wpAny_field gz rfl (x := .ref TO) rfl ?_)
  refine wpAny_bind (wpAny_setField_rec gz (by simp) fun ha za sa => ?_)
  replace za : IsZip ha z TI TO .ellipsis := za
  have ea := sa.extBut
  refine wpAny_bind ?_
  simp only [List.zipIdx_cons, List.zipIdx_nil, List.forIn_cons, List.forIn_nil]
  refine wpAny_bind (wpAny_bind (wpAny_onRaise ?_))
  show wpAny _ _ (Builtin.SmallTypes.nextOf (.ref i1) >>= _) _ _ _
  have pa := p1.mv (h' := ha) fun o => ea _ o D.i1z
  have qa := q1.mv (h' := ha) fun o => ea _ o D.l1z
  cases hx : xs[m]? with
  | none =>
    refine wpAny_bind (nx_end (s := { s with heap := ha }) hh pa qa hx fun hb e eb re => ?_)
    obtain ⟨oe, ge, ce⟩ := re
    have zb : IsZip hb z TI TO .ellipsis := eb _ _ D.i1z.symm za
    have ne : e ≠ z := fun q => by subst q; rw [zb] at ge; cases ge; simp at ce
    refine wpAny_setField_rec zb (by simp) fun hc _ sc => fin hc e (fun c o c1 _ c3 _ q => sc.extBut _ _ c1 (eb _ _ c3 (ea _ _ c1 q))) ⟨oe, sc.extBut _ _ ne ge, ce⟩
  | some x =>
    have hy : ys[m]? = none := hend.elim (fun q => by rw [hx] at q; cases q) id
    refine wpAny_bind (nx_item (s := { s with heap := ha }) pa qa hx fun hb pb sb => wpAny_pure ?_)
    have eb := sb.extBut
    have ob : IsPair hb TO a b := eb _ _ D.TOi1 (ea _ _ D.TOz gO)
    refine wpAny_bind (wpAny_seqItems ob rfl ?_)
    refine wpAny_bind (wpAny_updateSeq_pair ob fun hc oc sc => ?_)
    have ec := sc.extBut
    refine wpAny_bind (wpAny_letGo (wpAny_pure ?_))
    refine wpAny_bind (wpAny_bind (wpAny_onRaise ?_))
    show wpAny _ _ (Builtin.SmallTypes.nextOf (.ref i2) >>= _) _ _ _
    refine wpAny_bind (nx_end (s := { s with heap := hc }) hh (p2.mv fun o q => ec _ o D.TOi2.symm (eb _ o D.i12.symm (ea _ o D.i2z q))) (q2.mv fun o q => ec _ o D.l2TO (eb _ o D.l2i1 (ea _ o D.l2z q))) hy fun hd e ed re => ?_)
    obtain ⟨oe, ge, ce⟩ := re
    have zd : IsZip hd z TI TO .ellipsis := ed _ _ D.i2z.symm (ec _ _ D.TOz.symm (eb _ _ D.i1z.symm za))
    have ne : e ≠ z := fun q => by subst q; rw [zd] at ge; cases ge; simp at ce
    refine wpAny_setField_rec zd (by simp) fun hf _ sf => fin hf e (fun c o c1 c2 c3 c4 q => sf.extBut _ _ c1 (ed _ _ c4 (ec _ _ c2 (eb _ _ c3 (ea _ _ c1 q))))) ⟨oe, sf.extBut _ _ ne ge, ce⟩

theorem mixed_next {z TI TO i1 i2 l1 l2 : Addr} {m : Nat} {xs ys : Array Value} {x y a b : Value} {Q : Option Value → Shared → Prop} (D : ZipApart z TI TO i1 i2 l1 l2)
    (gz : IsZip s.heap z TI TO .none) (gI : IsPair s.heap TI (.ref i1) (.ref i2)) (gO : IsPair s.heap TO a b)
    (p1 : ItrAt k1 s.heap i1 l1 m) (p2 : ItrAt k2 s.heap i2 l2 m) (q1 : SqAt k1 s.heap l1 xs) (q2 : SqAt k2 s.heap l2 ys) (hx : xs[m]? = some x) (hy : ys[m]? = some y)
    (fin : ∀ h', IsZip h' z TI TO (rawInt s.heap.objs.size) → IsPair h' TO x y → ItrAt k1 h' i1 l1 (m + 1) → ItrAt k2 h' i2 l2 (m + 1) → IsPair h' s.heap.objs.size x y → Off z TO i1 i2 s.heap h' → Q (some (.ref s.heap.objs.size)) { s with heap := h' }) :
    wpAny (model prog w) A (pyNext (.ref z)) Q E s := by
  have ty : s.TypeIs (.ref z) "zip" := ⟨_, gz, rfl⟩
  unfold pyNext
  refine wpAny_bind (wpAny_attempt (wpAny_callSpecial?_slot (name := Str.ofString "__next__") ty F.slot_zip_next (wpAny_call_entry F.slot_zip_next ty F.entry_zip_next ?_ (F.args_zip_next_1 _))))
  exact mixed_item D gz gI gO p1 p2 q1 q2 hx hy fun h' a1 a2 a3 a4 a5 a6 => wpAny_pure (fin h' a1 a2 a3 a4 a5 a6)
theorem mixed_over {z TI TO i1 i2 l1 l2 : Addr} {m : Nat} {xs ys : Array Value} {a b : Value} {Q : Option Value → Shared → Prop} (hh : A.handled = none) (D : ZipApart z TI TO i1 i2 l1 l2)
    (gz : IsZip s.heap z TI TO .none) (gI : IsPair s.heap TI (.ref i1) (.ref i2)) (gO : IsPair s.heap TO a b)
    (p1 : ItrAt k1 s.heap i1 l1 m) (p2 : ItrAt k2 s.heap i2 l2 m) (q1 : SqAt k1 s.heap l1 xs) (q2 : SqAt k2 s.heap l2 ys) (hend : xs[m]? = none ∨ ys[m]? = none)
    (fin : ∀ h', Off z TO i1 i2 s.heap h' → Q none { s with heap := h' }) : wpAny (model prog w) A (pyNext (.ref z)) Q E s := by
  have ty : s.TypeIs (.ref z) "zip" := ⟨_, gz, rfl⟩
  unfold pyNext
  refine wpAny_bind (wpAny_attempt (wpAny_callSpecial?_slot (name := Str.ofString "__next__") ty F.slot_zip_next (wpAny_call_entry F.slot_zip_next ty F.entry_zip_next ?_ (F.args_zip_next_1 _))))
  refine mixed_end hh D gz gI gO p1 p2 q1 q2 hend fun h' e off ⟨o, ho, hc⟩ => ?_
  exact wpAny_bind (wpAny_isInstance (T := "StopIteration") (b := true) ⟨o, ho, hc⟩ isSubtype_stop (wpAny_pure (fin _ off)))
end

/-! ### the call -/
def itObj (k : Bool) (l : Addr) : Obj := { cls := .type (match k with | true => "tuple_iterator" | false => "list_iterator"), data := .fields #[.ref l, .int 0 0] }
abbrev hz1 (k1 : Bool) (h : Heap) (l1 : Addr) : Heap := h.push (itObj k1 l1)
abbrev hz2 (k1 k2 : Bool) (h : Heap) (l1 l2 : Addr) : Heap := (hz1 k1 h l1).push (itObj k2 l2)
abbrev hz3 (k1 k2 : Bool) (h : Heap) (l1 l2 : Addr) : Heap := (hz2 k1 k2 h l1 l2).push { cls := .type "tuple", data := .seq #[.ref h.objs.size, .ref (hz1 k1 h l1).objs.size] }
abbrev hz4 (k1 k2 : Bool) (h : Heap) (l1 l2 : Addr) : Heap := (hz3 k1 k2 h l1 l2).push { cls := .type "tuple", data := .seq #[.none, .none] }
abbrev hz5 (k1 k2 : Bool) (h : Heap) (l1 l2 : Addr) : Heap := (hz4 k1 k2 h l1 l2).push { cls := .type "zip", data := .fields #[.none, .bool false, .bool false, .ref (hz2 k1 k2 h l1 l2).objs.size, .ref (hz3 k1 k2 h l1 l2).objs.size] }
theorem mixed_tl (l1 l2 : Addr) (xs ys : Array Value) :
    Meets (Builtin.«zip.__new__» ⟨[.type "zip", .ref l1, .ref l2], []⟩) (fun _ R s => s.heap.IsTuple l1 xs ∧ s.heap.IsList l2 ys ∧ R (.ok (.ret (.ref (hz4 true false s.heap l1 l2).objs.size))) { s with heap := hz5 true false s.heap l1 l2 }) :=
  .of_wp fun prog w A R s h => by
    obtain ⟨hp, g, d, tk, os⟩ := s; obtain ⟨t1, t2, h⟩ := h
    have hsub := sub_zip
    have u1 : Heap.IsTuple (Shared.heap ⟨hp, g, d, tk, os⟩) l1 xs := t1
    have u2 : Heap.IsList (Shared.heap ⟨hp.push { cls := .type "tuple_iterator", data := .fields #[.ref l1, .int 0 0] }, g, d, tk, os⟩) l2 ys := Heap.IsList.push t2 _
    wp_walk using wpAny_pyIter_tuple u1, wpAny_pyIter_list u2
    exact ⟨_, rfl, h⟩
theorem mixed_lt (l1 l2 : Addr) (xs ys : Array Value) :
    Meets (Builtin.«zip.__new__» ⟨[.type "zip", .ref l1, .ref l2], []⟩) (fun _ R s => s.heap.IsList l1 xs ∧ s.heap.IsTuple l2 ys ∧ R (.ok (.ret (.ref (hz4 false true s.heap l1 l2).objs.size))) { s with heap := hz5 false true s.heap l1 l2 }) :=
  .of_wp fun prog w A R s h => by
    obtain ⟨hp, g, d, tk, os⟩ := s; obtain ⟨t1, t2, h⟩ := h
    have hsub := sub_zip
    have u1 : Heap.IsList (Shared.heap ⟨hp, g, d, tk, os⟩) l1 xs := t1
    have u2 : Heap.IsTuple (Shared.heap ⟨hp.push { cls := .type "list_iterator", data := .fields #[.ref l1, .int 0 0] }, g, d, tk, os⟩) l2 ys := Heap.IsTuple.push t2 _
    wp_walk using wpAny_pyIter_list u1, wpAny_pyIter_tuple u2
    exact ⟨_, rfl, h⟩
theorem mixed_new (k1 k2 : Bool) (l1 l2 : Addr) (xs ys : Array Value) :
    Meets (Builtin.«zip.__new__» ⟨[.type "zip", .ref l1, .ref l2], []⟩) (fun _ R s => SqAt k1 s.heap l1 xs ∧ SqAt k2 s.heap l2 ys ∧ R (.ok (.ret (.ref (hz4 k1 k2 s.heap l1 l2).objs.size))) { s with heap := hz5 k1 k2 s.heap l1 l2 }) := by
  cases k1 with
  | true => cases k2 with
    | true => exact meets_zipT_new l1 l2 xs ys
    | false => exact mixed_tl l1 l2 xs ys
  | false => cases k2 with
    | true => exact mixed_lt l1 l2 xs ys
    | false => exact meets_zip_new l1 l2 xs ys
section
variable {prog : Program} {w : World} {A : Around} {E : Value → Shared → Prop} {s : Shared} {k1 k2 : Bool}
theorem call_mixed {l1 l2 : Addr} {xs ys : Array Value} {Q : Value → Shared → Prop} (q1 : SqAt k1 s.heap l1 xs) (q2 : SqAt k2 s.heap l2 ys)
    (h : ∀ h' n, n = s.heap.objs.size → IsZip h' (n + 4) (n + 2) (n + 3) .none → IsPair h' (n + 2) (.ref n) (.ref (n + 1)) → IsPair h' (n + 3) .none .none → ItrAt k1 h' n l1 0 → ItrAt k2 h' (n + 1) l2 0 →
      (∀ c o, s.heap.get? c = some o → h'.get? c = some o) → Q (.ref (n + 4)) { s with heap := h' }) :
    wpAny (model prog w) A (call (.type "zip") [.ref l1, .ref l2]) Q E s := by
  refine callType_new F.called_zip (by decide) (F.typeCall_zip_2 _ _) (F.newCall_zip_2 _ _) (fun obj => F.args_object_init_3 obj _ _) F.entry_zip_new (mixed_new k1 k2 l1 l2 xs ys) ⟨q1, q2, ?_⟩
  have n1 : (hz1 k1 s.heap l1).objs.size = s.heap.objs.size + 1 := Heap.size_push ..
  have n2 : (hz2 k1 k2 s.heap l1 l2).objs.size = s.heap.objs.size + 2 := by rw [Heap.size_push, n1]
  have n3 : (hz3 k1 k2 s.heap l1 l2).objs.size = s.heap.objs.size + 3 := by rw [Heap.size_push, n2]
  have n4 : (hz4 k1 k2 s.heap l1 l2).objs.size = s.heap.objs.size + 4 := by rw [Heap.size_push, n3]
  have o5 : (hz5 k1 k2 s.heap l1 l2).get? (hz4 k1 k2 s.heap l1 l2).objs.size = some _ := Heap.get?_push_size _ rfl
  have up5 : ∀ c o, (hz4 k1 k2 s.heap l1 l2).get? c = some o → (hz5 k1 k2 s.heap l1 l2).get? c = some o := fun c o => Heap.get?_push_of_some _
  have up4 : ∀ c o, (hz3 k1 k2 s.heap l1 l2).get? c = some o → (hz5 k1 k2 s.heap l1 l2).get? c = some o := fun c o q => up5 c o (Heap.get?_push_of_some _ q)
  have up3 : ∀ c o, (hz2 k1 k2 s.heap l1 l2).get? c = some o → (hz5 k1 k2 s.heap l1 l2).get? c = some o := fun c o q => up4 c o (Heap.get?_push_of_some _ q)
  have up2 : ∀ c o, (hz1 k1 s.heap l1).get? c = some o → (hz5 k1 k2 s.heap l1 l2).get? c = some o := fun c o q => up3 c o (Heap.get?_push_of_some _ q)
  have o4 : (hz5 k1 k2 s.heap l1 l2).get? (hz3 k1 k2 s.heap l1 l2).objs.size = some _ := up5 _ _ (Heap.get?_push_size _ rfl)
  have o3 : (hz5 k1 k2 s.heap l1 l2).get? (hz2 k1 k2 s.heap l1 l2).objs.size = some _ := up4 _ _ (Heap.get?_push_size _ rfl)
  have o2 : (hz5 k1 k2 s.heap l1 l2).get? (hz1 k1 s.heap l1).objs.size = some (itObj k2 l2) := up3 _ _ (Heap.get?_push_size _ (by cases k2 <;> rfl))
  have o1 : (hz5 k1 k2 s.heap l1 l2).get? s.heap.objs.size = some (itObj k1 l1) := up2 _ _ (Heap.get?_push_size _ (by cases k1 <;> rfl))
  show _ ∧ _
  rw [n2, n3, n4] at o5
  rw [n1, n2] at o3
  rw [n3] at o4
  rw [n1] at o2
  rw [n4]
  refine ⟨⟨_, o5, rfl⟩, h _ _ rfl o5 o3 o4 ?_ ?_ fun c o q => up2 c o (Heap.get?_push_of_some _ q)⟩
  · cases k1 with
    | true => exact ⟨_, o1, rfl, rfl⟩
    | false => exact ⟨_, o1, rfl, rfl⟩
  · cases k2 with
    | true => exact ⟨_, o2, rfl, rfl⟩
    | false => exact ⟨_, o2, rfl, rfl⟩
end

/-! ### the layer's rule -/
def SqK (k : Bool) (K : PySem.W.Frag) (H : Hp) (a : Addr) (xs : List V) : Prop := match k with
  | true => SqT K H a xs
  | false => SqL K H a xs
def ItzK (k1 k2 : Bool) (K : PySem.W.Frag) (a b : Addr) : It where
  go := fun i H => ∃ (xs ys : List V) (x y : V), SqK k1 K H a xs ∧ SqK k2 K H b ys ∧ xs[i]? = some x ∧ ys[i]? = some y
  yld := fun i H v H' => ∃ T x y, v = .ref T ∧ H T = none ∧ H' = upd H T (.tup [x, y]) ∧ (∀ xs, SqK k1 K H a xs → xs[i]? = some x) ∧ ∀ ys, SqK k2 K H b ys → ys[i]? = some y
  stop := fun i H => ∃ xs ys : List V, SqK k1 K H a xs ∧ SqK k2 K H b ys ∧ (xs.length ≤ i ∨ ys.length ≤ i)
theorem sqK_at {k : Bool} {X : Cx} {pins : List (Addr × Obj)} {σ : L2.St} {H : Hp} {s : Shared} {a : Addr} {xs : List V} (I : Inv X pins σ H s) (h : SqK k X.K H a xs) :
    ∃ its : List Value, Vals xs its ∧ SqAt k s.heap a its.toArray := by
  cases k with
  | true => obtain ⟨its, r, p, _⟩ := I.tuple h; exact ⟨its, r, p⟩
  | false => obtain ⟨its, r, p, _⟩ := I.list h; exact ⟨its, r, p.isList⟩
theorem sqK_inj {k : Bool} {X : Cx} {pins : List (Addr × Obj)} {σ : L2.St} {H : Hp} {s : Shared} {a : Addr} {xs ys : List V} (I : Inv X pins σ H s) (h : SqK k X.K H a xs) (h2 : SqK k X.K H a ys) : xs = ys := by
  cases k with
  | true => exact I.tuple_inj h h2
  | false => exact I.list_inj h h2
def zObjs (n : Nat) : List Addr := [n + 4, n + 2, n + 3, n, n + 1]
theorem zMem {z TI TO i1 i2 c : Addr} (h : c ∈ [z, TI, TO, i1, i2]) : c = z ∨ c = TI ∨ c = TO ∨ c = i1 ∨ c = i2 := by simpa using h
theorem zNot {z TI TO i1 i2 c : Addr} (h : c ∉ [z, TI, TO, i1, i2]) : c ≠ z ∧ c ≠ TI ∧ c ≠ TO ∧ c ≠ i1 ∧ c ≠ i2 := by simpa using h
theorem itr_obj {k : Bool} {h : Heap} {it l : Addr} {i : Nat} (p : ItrAt k h it l i) : ∃ o fs, h.get? it = some o ∧ o.data = .fields fs := by
  cases k with
  | true => obtain ⟨o, q, _, r⟩ := p; exact ⟨o, _, q, r⟩
  | false => obtain ⟨o, q, _, r⟩ := p; exact ⟨o, _, q, r⟩
theorem turn_mixed {P : Program} {w : World} {K : PySem.W.Frag} {k1 k2 : Bool} {elts : List Expr} {kk : Nat} {tpos : Pos} {a b z TI TO i1 i2 : Addr} (D : ZipApart z TI TO i1 i2 a b) :
    Turn P w K (.Tuple elts kk tpos) (ItzK k1 k2 K a b) [z, TI, TO, i1, i2] z (fun i h => IsZip h z TI TO .none ∧ IsPair h TI (.ref i1) (.ref i2) ∧ (∃ x y, IsPair h TO x y) ∧ ItrAt k1 h i1 a i ∧ ItrAt k2 h i2 b i) where
  mem := List.mem_cons_self ..
  obj := fun i h ⟨gz, gI, ⟨x, y, gO⟩, p1, p2⟩ c hc => by
    obtain ⟨o1, f1, e1, d1⟩ := itr_obj p1
    obtain ⟨o2, f2, e2, d2⟩ := itr_obj p2
    rcases zMem hc with rfl | rfl | rfl | rfl | rfl
    · exact ⟨_, gz, fun v q => nomatch q⟩
    · exact ⟨_, gI, fun v q => nomatch q⟩
    · exact ⟨_, gO, fun v q => nomatch q⟩
    · exact ⟨o1, e1, fun v q => by rw [d1] at q; cases q⟩
    · exact ⟨o2, e2, fun v q => by rw [d2] at q; cases q⟩
  keep := fun i h h' ⟨gz, gI, ⟨x, y, gO⟩, p1, p2⟩ k => ⟨k z (by simp) _ gz, k TI (by simp) _ gI, ⟨x, y, k TO (by simp) _ gO⟩, p1.mv fun o q => k i1 (by simp) o q, p2.mv fun o q => k i2 (by simp) o q⟩
  item := by
    intro X hP hw hK hc i pins s σ H E I hf ⟨gz, gI, ⟨x0, y0, gO⟩, p1, p2⟩ ⟨xs, ys, x, y, hx0, hy0, hx, hy⟩
    subst hP hw hK
    obtain ⟨its, r1, q1⟩ := sqK_at I hx0
    obtain ⟨its2, r2, q2⟩ := sqK_at I hy0
    obtain ⟨u, hu, ru⟩ := r1.get hx
    obtain ⟨u2, hu2, ru2⟩ := r2.get hy
    have zl : z < s.heap.objs.size := Heap.lt_size gz
    refine mixed_next D gz gI gO p1 p2 q1 q2 (x := u) (y := u2) (by simpa using hu) (by simpa using hu2) fun h' gz' gO' p1' p2' gT off => ⟨_, rfl, ?_⟩
    refine wpAny_letOwnedTupleGo_zip (s := { s with heap := h' }) gz' fun h2 gz2 sb => ?_
    have eb := sb.extBut
    have gT2 : h2.get? s.heap.objs.size = some { cls := .type "tuple", data := .seq #[u, u2] } := eb _ _ (Nat.ne_of_gt zl) gT
    have new : ObjOk X.prog X.w (upd H s.heap.objs.size (.tup [x, y])) h2 s.heap.objs.size (.tup [x, y]) := ⟨by show 2 ≤ sizeLine; decide, [u, u2], .cons ru (.cons ru2 .nil), ⟨_, gT2, rfl, _, rfl⟩⟩
    have J : Inv X pins σ (upd H s.heap.objs.size (.tup [x, y])) { s with heap := h2 } :=
      I.turnedNew (t' := s.toks) (ch := [z, TI, TO, i1, i2]) (fun c o hb q => by
        obtain ⟨n1, n2, n3, n4, n5⟩ := zNot hb
        exact eb _ _ n1 (off c o n1 n3 n4 n5 q)) hf (Nat.le_refl _) new
    refine ⟨.ref s.heap.objs.size, _, J, rfl, ⟨_, x, y, rfl, I.hok.fresh (Nat.le_refl _), rfl, fun l hl => by rw [sqK_inj I hl hx0]; exact hx, fun l hl => by rw [sqK_inj I hl hy0]; exact hy⟩,
      ⟨gz2, eb _ _ D.TIz (off _ _ D.TIz D.TITO D.TIi1 D.TIi2 gI), ⟨u, u2, eb _ _ D.TOz gO'⟩, p1'.mv fun o => eb _ o D.i1z, p2'.mv fun o => eb _ o D.i2z⟩, fun c hcm => ?_⟩
    have lt : c < s.heap.objs.size := by
      rcases zMem hcm with rfl | rfl | rfl | rfl | rfl
      · exact zl
      · exact Heap.lt_size gI
      · exact Heap.lt_size gO
      · exact p1.lt
      · exact p2.lt
    rw [upd_ne (Nat.ne_of_lt lt)]
    exact (hf c hcm).1
  done := by
    intro X hP hw hK hc i pins s σ H E I hf ⟨gz, gI, ⟨x0, y0, gO⟩, p1, p2⟩ ⟨xs, ys, hx0, hy0, hend⟩
    subst hP hw hK
    obtain ⟨its, r1, q1⟩ := sqK_at I hx0
    obtain ⟨its2, r2, q2⟩ := sqK_at I hy0
    have e1 := r1.length
    have e2 := r2.length
    refine mixed_over (I.ok.hd hc) D gz gI gO p1 p2 q1 q2 (hend.imp (fun q => by simp; omega) (fun q => by simp; omega)) fun h' off => ⟨rfl, I.turnedL (t' := s.toks) (ch := [z, TI, TO, i1, i2]) (fun c o hb q => ?_) hf⟩
    obtain ⟨n1, n2, n3, n4, n5⟩ := zNot hb
    exact off c o n1 n3 n4 n5 q
  self := fun A i s Q E st h => wpAny_pyIter_zip st.1 h
def iZipK (K : PySem.W.Frag) (ta : TA) : TI := fun σ H R => ta σ H fun vs H1 => ∃ k1 k2 a b xs ys, vs = [.ref a, .ref b] ∧ SqK k1 K H1 a xs ∧ SqK k2 K H1 b ys ∧ R (ItzK k1 k2 K a b) H1
theorem pi_zipK {X : Cx} {e e2 : Expr} {ta : TA} {p pos tpos : Pos} {elts : List Expr} {kk : Nat} (hg : Gl X "zip") (hm : X.mg "zip" = none) (ha : PA X [e, e2] ta)
    (hs : starEach [e, e2] X.env = (false, eval e X.env) :: starEach [e2] X.env) (hpl : (backTo pos (starEach [e2] X.env)).any (·.1) = false) :
    PI X (.Tuple elts kk tpos) (.Call (.Name "zip" p) [e, e2] [] pos) (iZipK X.K ta) := by
  refine ⟨fun pins s σ H R I h => Call_ (ld_blt I hg hm PyProof.Rows.boot_zip (PyProof.Rows.callWith_type1 (thn (ha.run pos pins s σ H _ I h) fun us s1 ⟨vs, H1, J, rv, k1, k2, a, b, xs, ys, ex, hx, hy, q⟩ => ?_) hs hpl))⟩
  subst ex
  obtain ⟨ua, ub, rfl, ra, rb⟩ := vals2 rv
  cases ra
  cases rb
  obtain ⟨its, _, q1⟩ := sqK_at J hx
  obtain ⟨its2, _, q2⟩ := sqK_at J hy
  refine call_mixed q1 q2 fun h' n en gz gI gO p1 p2 hk => wpAny_pyIter_zip gz ?_
  refine ⟨n + 4, zObjs n, _, _, H1, rfl, J.kept (t' := s1.toks) hk, turn_mixed (PySem.W.ktu_apart n a b (en ▸ q1.lt) (en ▸ q2.lt)), ⟨gz, gI, ⟨_, _, gO⟩, p1, p2⟩, fun c hc => ?_, q⟩
  have le : s1.heap.objs.size ≤ c := by
    rw [← en]
    rcases zMem hc with rfl | rfl | rfl | rfl | rfl
    · exact Nat.le_add_right _ _
    · exact Nat.le_add_right _ _
    · exact Nat.le_add_right _ _
    · exact Nat.le_refl _
    · exact Nat.le_add_right _ _
  exact J.fpOk le (J.hok.fresh le)
end FwZ

set_option maxHeartbeats 4000000
/-! Fw9: targets; comprehensions. -/
namespace Fw
open PySem PySem.Spec PyProof.Rows L2

mutual
def gT (K : PySem.W.Frag) : Tg → TG
  | .nm i => gName i
  | .tp ts => gTup K ts.length (gTs K ts)
def gTs (K : PySem.W.Frag) : List Tg → TGs
  | [] => gNil
  | t :: ts => gCons (gT K t) (gTs K ts)
end
theorem assignEach_len : ∀ (es : List Expr) (env : Env), (assignEach es env).length = es.length
  | [], _ => rfl
  | e :: es, env => by
    have ih := assignEach_len es env
    cases e <;> (show (assignEach es env).length + 1 = es.length + 1; rw [ih])
theorem assignEach_star : ∀ (es : List Expr) (env : Env), (∀ e ∈ es, plainE e = true) → (assignEach es env).findIdx? (·.1) = none
  | [], _, _ => rfl
  | e :: es, env, h => by
    have ih := assignEach_star es env fun x hx => h x (List.mem_cons_of_mem _ hx)
    have hp := h e List.mem_cons_self
    have e1 : ∃ f, assignEach (e :: es) env = (false, f) :: assignEach es env := by
      cases e <;> first | exact ⟨_, rfl⟩ | cases hp
    obtain ⟨f, e1⟩ := e1
    rw [e1, List.findIdx?_cons]
    simp [ih]
theorem okTgs_len {S : Sx} : ∀ {ts : List Tg} {es : List Expr}, okTgs S ts es = true → ts.length = es.length ∧ ∀ e ∈ es, plainE e = true
  | [], es, h => by
    unfold okTgs at h
    cases es with
    | nil => exact ⟨rfl, fun e he => by cases he⟩
    | cons => cases h
  | t :: ts, es, h => by
    unfold okTgs at h
    cases es with
    | nil => cases h
    | cons e es =>
      simp only [Bool.and_eq_true] at h
      obtain ⟨h1, h2⟩ := okTgs_len h.2
      refine ⟨by rw [List.length_cons, List.length_cons, h1], fun x hx => ?_⟩
      rcases List.mem_cons.mp hx with rfl | hx
      · exact h.1.1
      · exact h2 x hx
mutual
theorem pg_ok {n : Nat} {C : Cfg} {S : Sx} {X : Cx} (c : CxOk n C S X) : ∀ (t : Tg) (e : Expr), okTg S t e = true → PG X e (gT X.K t)
  | .nm i, e, h => by
    unfold okTg at h
    split at h
    · rename_i x _
      simp only [Bool.and_eq_true, decide_eq_true_eq] at h
      obtain ⟨l1, l2⟩ := c.loc_of h.2
      exact pg_name (by rw [c.N]; exact c.nd) (by rw [c.N]; exact h.1) l1 l2
    · cases h
  | .tp ts, e, h => by
    unfold okTg at h
    split at h
    · rename_i es _ _
      obtain ⟨h1, h2⟩ := okTgs_len h
      exact pg_tup c.calm (pgs_ok c ts es h) (by rw [assignEach_len, h1]) (assignEach_star _ _ h2)
    · cases h
theorem pgs_ok {n : Nat} {C : Cfg} {S : Sx} {X : Cx} (c : CxOk n C S X) : ∀ (ts : List Tg) (es : List Expr), okTgs S ts es = true → PGs X es (gTs X.K ts)
  | [], es, h => by
    unfold okTgs at h
    cases es with
    | nil => exact pgs_nil
    | cons => cases h
  | t :: ts, es, h => by
    unfold okTgs at h
    cases es with
    | nil => cases h
    | cons e es =>
      simp only [Bool.and_eq_true] at h
      exact pgs_cons (pg_ok c t e h.1.2) (pgs_ok c ts es h.2) (assign_ok h.1.1)
end

section
variable {K : PySem.W.Frag} {B : Nat → Option Addr} {H0 G H G' H' G1 H1 G2 H2 Gs Hs : Hp} {σ σ' σ1 σ2 σw : St} {ρ ρ' ρs ρ1 ρ2 : List Sl}
/-- some slots hold new values -/
structure Bd (K : PySem.W.Frag) (B : Nat → Option Addr) (H0 G H : Hp) (σ : St) (ρ : List Sl) (σ' : St) (ρ' : List Sl) (ix : List Nat) : Prop where
  s : StRep K B H0 G H σ' ρ'
  same : ∀ i, i ∉ ix → σ'[i]? = σ[i]? ∧ ρ'[i]? = ρ[i]?
  ow : ∀ b, Ow σ' ρ' b → Ow σ ρ b
  len : σ'.length = σ.length
  only : ∀ i, i ∈ ix → ∃ d, ρ'[i]? = some (.d d)
theorem bind1 {i : Nat} {d : D} {x : V} (s : StRep K B H0 G H σ ρ) (r : Rep K G x d) (hb : bindable ρ i = true) : Bd K B H0 G H σ ρ (σ.set i (some x)) (ρ.set i (.d d)) [i] := by
  have hi : i < ρ.length := by
    unfold bindable at hb
    split at hb <;> first | (cases hb; done) | skip
    rename_i q; exact (List.getElem?_eq_some_iff.mp q).1
  have hi' : i < σ.length := by rw [s.len]; exact hi
  have back : ∀ {j b}, OwnAt (σ.set i (some x)) (ρ.set i (.d d)) j b → OwnAt σ ρ j b := fun {j b} ⟨e1, s1, e2, e3⟩ => by
    rcases getset e2 with ⟨rfl, rfl, _⟩ | ⟨n, e4⟩
    · cases e3
    · rw [List.getElem?_set_ne n] at e1
      exact ⟨e1, s1, e4, e3⟩
  refine ⟨⟨fun j a hB => ?_, s.ali, s.sub, by rw [List.length_set, List.length_set]; exact s.len, fun j s1 e1 => ?_, fun j k b u1 u2 => s.inj j k b (back u1) (back u2)⟩, fun j hj => ?_, fun b ⟨j, hj⟩ => ⟨j, back hj⟩, by rw [List.length_set], fun j hj => ?_⟩
  · obtain ⟨p1, s1, p2, p3⟩ := s.pin j a hB
    have ne : i ≠ j := fun e => by
      subst e
      unfold bindable at hb
      rw [p2] at hb
      cases s1 <;> first | (cases p3; done) | (cases hb; done)
    exact ⟨by rw [List.getElem?_set_ne ne]; exact p1, s1, by rw [List.getElem?_set_ne ne]; exact p2, p3⟩
  · rcases getset e1 with ⟨rfl, rfl, _⟩ | ⟨n, e4⟩
    · exact ⟨x, by rw [List.getElem?_set_self hi'], r⟩
    · have z := s.at_ j s1 e4
      cases s1 with
      | no => trivial
      | d d => obtain ⟨v, e5, r⟩ := z; exact ⟨v, by rw [List.getElem?_set_ne n]; exact e5, r⟩
      | own o1 => obtain ⟨b, e5, r⟩ := z; exact ⟨b, by rw [List.getElem?_set_ne n]; exact e5, r⟩
      | bor o1 => obtain ⟨b, e5, r⟩ := z; exact ⟨b, by rw [List.getElem?_set_ne n]; exact e5, r⟩
      | fz d => obtain ⟨v, e5, r⟩ := z; exact ⟨v, by rw [List.getElem?_set_ne n]; exact e5, r⟩
  · have ne : i ≠ j := fun e => hj (by simp [e])
    exact ⟨List.getElem?_set_ne ne, List.getElem?_set_ne ne⟩
  · have e : j = i := by simpa using hj
    subst e
    exact ⟨d, by rw [List.getElem?_set_self hi]⟩
theorem Bd.trans {ix ix' : List Nat} (a : Bd K B H0 G H σ ρ σ1 ρ1 ix) (b : Bd K B H0 G H σ1 ρ1 σ2 ρ2 ix') : Bd K B H0 G H σ ρ σ2 ρ2 (ix ++ ix') where
  s := b.s
  same := fun i hi => by
    rw [List.mem_append, not_or] at hi
    exact ⟨(b.same i hi.2).1.trans (a.same i hi.1).1, (b.same i hi.2).2.trans (a.same i hi.1).2⟩
  ow := fun x z => a.ow x (b.ow x z)
  len := b.len.trans a.len
  only := fun i hi => by
    by_cases h : i ∈ ix'
    · exact b.only i h
    · rcases List.mem_append.mp hi with h1 | h1
      · obtain ⟨d, e⟩ := a.only i h1
        exact ⟨d, by rw [(b.same i h).2]; exact e⟩
      · exact absurd h1 h
mutual
theorem bind_ok : ∀ (t : Tg) {d : D} {x : V} {ρ ρ' : List Sl} {σ : St} {Q : St → Hp → Prop}, StRep K B H0 G H σ ρ → Rep K G x d → bindT t d ρ = some ρ' → (∀ σ', Bd K B H0 G H σ ρ σ' ρ' t.ix → Q σ' H) → gT K t x σ H Q
  | .nm i, d, x, ρ, ρ', σ, Q, s, r, e, q => by
    unfold bindT at e
    split at e
    · rename_i hb
      cases e
      have b := bind1 s r hb
      exact q _ (by unfold Tg.ix; exact b)
    · cases e
  | .tp ts, d, x, ρ, ρ', σ, Q, s, r, e, q => by
    cases d with
    | tup ds =>
      have e' : bindTs ts ds ρ = some ρ' := by rw [← e]; rfl
      obtain ⟨a, vs, rfl, h1, l⟩ := Rep.tupI r
      have hl := bindTs_len ts ds ρ e'
      refine ⟨a, vs, rfl, sqT_mono s.sub h1, by rw [l.length, hl], ?_⟩
      exact binds_ok ts s l e' (fun σ' b => q σ' (by unfold Tg.ix; exact b))
    | _ => cases e
theorem bindTs_len : ∀ (ts : List Tg) (ds : List D) (ρ : List Sl) {ρ' : List Sl}, bindTs ts ds ρ = some ρ' → ds.length = ts.length
  | [], ds, ρ, ρ', e => by
    cases ds with
    | nil => rfl
    | cons => cases e
  | t :: ts, ds, ρ, ρ', e => by
    cases ds with
    | nil => cases e
    | cons d ds =>
      unfold bindTs at e
      split at e
      · rename_i ρ1 _
        rw [List.length_cons, List.length_cons, bindTs_len ts ds ρ1 e]
      · cases e
theorem binds_ok : ∀ (ts : List Tg) {ds : List D} {vs : List V} {ρ ρ' : List Sl} {σ : St} {Q : St → Hp → Prop}, StRep K B H0 G H σ ρ → RepL K G vs ds → bindTs ts ds ρ = some ρ' → (∀ σ', Bd K B H0 G H σ ρ σ' ρ' (Tg.ixs ts) → Q σ' H) → gTs K ts vs σ H Q
  | [], ds, vs, ρ, ρ', σ, Q, s, l, e, q => by
    cases ds with
    | nil =>
      cases e
      cases l
      exact ⟨rfl, q σ ⟨s, fun i _ => ⟨rfl, rfl⟩, fun _ z => z, rfl, fun i hi => by unfold Tg.ixs at hi; cases hi⟩⟩
    | cons => cases e
  | t :: ts, ds, vs, ρ, ρ', σ, Q, s, l, e, q => by
    cases ds with
    | nil => cases e
    | cons d ds =>
      unfold bindTs at e
      split at e
      · rename_i ρ1 e1
        cases l with
        | cons h l =>
          refine ⟨_, _, rfl, bind_ok t s h e1 fun σ1 b1 => ?_⟩
          exact binds_ok ts b1.s l e fun σ2 b2 => q σ2 (by unfold Tg.ixs; exact b1.trans b2)
      · cases e
end

/-! ### wiping -/
theorem wipeS_len : ∀ {vs : List Nat}, (wipeS ρ vs).length = ρ.length
  | [] => rfl
  | v :: vs => by unfold wipeS; rw [List.length_set, wipeS_len]
theorem wipeS_get {i : Nat} : ∀ {vs : List Nat}, i ∉ vs → (wipeS ρ vs)[i]? = ρ[i]?
  | [], _ => rfl
  | v :: vs, h => by
    rw [List.mem_cons, not_or] at h
    unfold wipeS
    rw [List.getElem?_set_ne (fun e => h.1 e.symm), wipeS_get h.2]
theorem wipeS_in {i : Nat} {s : Sl} : ∀ {vs : List Nat}, i ∈ vs → (wipeS ρ vs)[i]? = some s → s = .no
  | [], h, _ => by cases h
  | v :: vs, h, e => by
    unfold wipeS at e
    rcases getset e with ⟨_, rfl, _⟩ | ⟨ne, e⟩
    · rfl
    · rcases List.mem_cons.mp h with rfl | h
      · exact absurd rfl ne
      · exact wipeS_in h e
theorem wipe_get {i : Nat} : ∀ {vs : List Nat}, i ∉ vs → (wipe σ vs)[i]? = σ[i]?
  | [], _ => rfl
  | v :: vs, h => by
    rw [List.mem_cons, not_or] at h
    unfold wipe
    rw [List.getElem?_set_ne (fun e => h.1 e.symm), wipe_get h.2]
theorem wipe_in {i : Nat} : ∀ {vs : List Nat}, i ∈ vs → i < σ.length → (wipe σ vs)[i]? = some none
  | [], h, _ => by cases h
  | v :: vs, h, hl => by
    unfold wipe
    by_cases e : v = i
    · subst e
      rw [List.getElem?_set_self (by rw [wipe_length]; exact hl)]
    · rw [List.getElem?_set_ne e]
      rcases List.mem_cons.mp h with rfl | h
      · exact absurd rfl e
      · exact wipe_in h hl
theorem wipe_eq {vs : List Nat} (hl : σ1.length = σ2.length) (h : ∀ i, i ∉ vs → σ1[i]? = σ2[i]?) : wipe σ1 vs = wipe σ2 vs := by
  apply List.ext_getElem?
  intro i
  by_cases hi : i ∈ vs
  · by_cases hk : i < σ1.length
    · rw [wipe_in hi hk, wipe_in hi (by rw [← hl]; exact hk)]
    · rw [List.getElem?_eq_none (by rw [wipe_length]; omega), List.getElem?_eq_none (by rw [wipe_length]; omega)]
  · rw [wipe_get hi, wipe_get hi, h i hi]
theorem restS_len {ρ0 : List Sl} : ∀ {vs : List Nat}, (restS ρ0 ρ vs).length = ρ.length
  | [] => rfl
  | v :: vs => by unfold restS; rw [List.length_set, restS_len]
theorem restS_get {ρ0 : List Sl} {i : Nat} : ∀ {vs : List Nat}, i ∉ vs → (restS ρ0 ρ vs)[i]? = ρ[i]?
  | [], _ => rfl
  | v :: vs, h => by
    rw [List.mem_cons, not_or] at h
    unfold restS
    rw [List.getElem?_set_ne (fun e => h.1 e.symm), restS_get h.2]
theorem restS_in {ρ0 : List Sl} {i : Nat} {s : Sl} : ∀ {vs : List Nat}, i ∈ vs → (restS ρ0 ρ vs)[i]? = some s → s = (ρ0[i]?).getD .no
  | [], h, _ => by cases h
  | v :: vs, h, e => by
    unfold restS at e
    rcases getset e with ⟨rfl, rfl, _⟩ | ⟨ne, e⟩
    · rfl
    · rcases List.mem_cons.mp h with rfl | h
      · exact absurd rfl ne
      · exact restS_in h e
theorem noOwn_at {vs : List Nat} (h : noOwn ρ vs = true) {i : Nat} (hi : i ∈ vs) : (∃ d, ρ[i]? = some (.d d)) ∨ ρ[i]? = some .no := by
  unfold noOwn at h
  have q := List.all_eq_true.mp h i hi
  cases e : ρ[i]? with
  | none => simp [e] at q
  | some s =>
    cases s with
    | no => exact .inr rfl
    | d d => exact .inl ⟨d, rfl⟩
    | own o => simp [e] at q
    | bor o => simp [e] at q
    | fz o => simp [e] at q
theorem StRep.pin_out {vs : List Nat} (s : StRep K B H0 G H σ ρ) (h : noOwn ρ vs = true) {i : Nat} {a : Addr} (hB : B i = some a) : i ∉ vs := fun hi => by
  obtain ⟨_, s1, p2, p3⟩ := s.pin i a hB
  rcases noOwn_at h hi with ⟨d, e⟩ | e <;> (rw [p2] at e; cases e; cases p3)
theorem slAt_move {i : Nat} {s : Sl} (h : SlAt K H0 G H σ i s) (e : σ'[i]? = σ[i]?) : SlAt K H0 G H σ' i s := by
  cases s with
  | no => trivial
  | d d => obtain ⟨v, e5, r⟩ := h; exact ⟨v, by rw [e]; exact e5, r⟩
  | own o1 => obtain ⟨b, e5, r⟩ := h; exact ⟨b, by rw [e]; exact e5, r⟩
  | bor o1 => obtain ⟨b, e5, r⟩ := h; exact ⟨b, by rw [e]; exact e5, r⟩
  | fz d => obtain ⟨v, e5, r⟩ := h; exact ⟨v, by rw [e]; exact e5, r⟩
/-- the own slots forgotten -/
theorem StRep.wiped {vs : List Nat} (s : StRep K B H0 G H σ ρ) (hp : ∀ i a, B i = some a → i ∉ vs) (hl : σw.length = σ.length) (hw : ∀ i, i ∉ vs → σw[i]? = σ[i]?) : StRep K B H0 G H σw (wipeS ρ vs) ∧ ∀ b, Ow σw (wipeS ρ vs) b → Ow σ ρ b := by
  have ob : ∀ {j b}, OwnAt σw (wipeS ρ vs) j b → OwnAt σ ρ j b := fun {j b} ⟨e1, s1, e2, e3⟩ => by
    by_cases hj : j ∈ vs
    · have := wipeS_in hj e2; subst this; cases e3
    · rw [wipeS_get hj] at e2
      rw [hw j hj] at e1
      exact ⟨e1, s1, e2, e3⟩
  refine ⟨⟨fun i a hB => ?_, s.ali, s.sub, by rw [wipeS_len, hl]; exact s.len, fun i s1 e => ?_, fun i j a u1 u2 => s.inj i j a (ob u1) (ob u2)⟩, fun b ⟨i, hi⟩ => ⟨i, ob hi⟩⟩
  · obtain ⟨p1, s1, p2, p3⟩ := s.pin i a hB
    have hi := hp i a hB
    exact ⟨by rw [hw i hi]; exact p1, s1, by rw [wipeS_get hi]; exact p2, p3⟩
  · by_cases hi : i ∈ vs
    · have := wipeS_in hi e; subst this; trivial
    · rw [wipeS_get hi] at e
      exact slAt_move (s.at_ i s1 e) (hw i hi)
theorem EI.tmpSet {p : Addr} {o : HO} (a : EI K B H0 σ Gs Hs ρs G H ρ) (f : Hs p = none) (hg : G p = none) : EI K B H0 σ Gs Hs ρs G (upd H p o) ρ := by
  have np : ∀ b, Ow σ ρ b → b ≠ p := fun b z e => absurd f (e ▸ a.s0.alive (a.ow b z))
  have alv : ∀ b, H b ≠ none → upd H p o b ≠ none := fun b z => by
    by_cases hb : b = p
    · subst hb; rw [upd_same]; simp
    · rw [upd_ne hb]; exact z
  refine ⟨a.s0, ⟨a.s1.pin, fun b z => alv b (a.s1.ali b z), fun b x e => ?_, a.s1.len, fun i s e => ?_, a.s1.inj⟩, ⟨a.st.same, fun b x e n => ?_, fun b z => alv b (a.st.alive b z)⟩, a.ow⟩
  · have hb : b ≠ p := fun z => by subst z; rw [hg] at e; cases e
    rw [upd_ne hb]; exact a.s1.sub _ _ e
  · have z := a.s1.at_ i s e
    cases s with
    | no => trivial
    | d d => exact z
    | fz d => exact z
    | own o1 =>
      obtain ⟨b, e5, r, f'⟩ := z
      exact ⟨b, e5, r.move (Same.refl _) fun x ex => ⟨by rw [upd_ne (np b ⟨i, e5, _, e, rfl⟩)]; exact ex, fun w => w⟩, f'⟩
    | bor o1 =>
      obtain ⟨b, e5, r⟩ := z
      exact ⟨b, e5, r.move (Same.refl _) fun x ex => ⟨by rw [upd_ne (np b ⟨i, e5, _, e, rfl⟩)]; exact ex, fun w => w⟩⟩
  · have hb : b ≠ p := fun z => by subst z; rw [f] at e; cases e
    rw [upd_ne hb]
    exact a.st.keep b x e n
/-- from within a turn back to the block's state -/
theorem EI.unwrap {vs : List Nat} {ix : List Nat} (s0 : StRep K B H0 G1 H1 σw ρ1) (b : Bd K B H0 G1 H1 σw ρ1 σ2 ρ2 ix) (hix : ∀ i ∈ ix, i ∈ vs) (hp : ∀ i a, B i = some a → i ∉ vs) (E : EI K B H0 σ2 G1 H1 ρ2 G H ρ) : EI K B H0 σw G1 H1 ρ1 G H (wipeS ρ vs) := by
  have hw : ∀ i, i ∉ vs → σw[i]? = σ2[i]? := fun i hi => (b.same i fun z => hi (hix i z)).1.symm
  obtain ⟨s, o⟩ := E.s1.wiped hp b.len.symm hw
  exact ⟨s0, s, ⟨E.st.same, fun x z e n => E.st.keep x z e fun w => n (b.ow x w), E.st.alive⟩, fun x z => b.ow x (E.ow x (o x z))⟩
/-- a comprehension's end: the slots as they were -/
theorem EI.rest {vs : List Nat} (a : StRep K B H0 G1 H1 σ ρ1) (no : noOwn ρ1 vs = true) (E : EI K B H0 (wipe σ vs) G1 H1 (wipeS ρ1 vs) G H ρ) : EI K B H0 σ G1 H1 ρ1 G H (restS ρ1 ρ vs) := by
  obtain ⟨_, ow0⟩ := a.wiped (vs := vs) (fun i x hB => a.pin_out no hB) (wipe_length σ vs) (fun i hi => wipe_get hi)
  have own1 : ∀ {j b}, OwnAt σ (restS ρ1 ρ vs) j b → OwnAt (wipe σ vs) ρ j b ∧ j ∉ vs := fun {j b} ⟨e1, s1, e2, e3⟩ => by
    by_cases hj : j ∈ vs
    · have h := restS_in hj e2
      rcases noOwn_at no hj with ⟨d, e⟩ | e <;> (rw [e] at h; subst h; cases e3)
    · rw [restS_get hj] at e2
      exact ⟨⟨by rw [wipe_get hj]; exact e1, s1, e2, e3⟩, hj⟩
  refine ⟨a, ⟨fun i x hB => ?_, E.s1.ali, E.s1.sub, by rw [restS_len, ← E.s1.len, wipe_length], fun i s e => ?_, fun i j x u1 u2 => E.s1.inj i j x (own1 u1).1 (own1 u2).1⟩, ⟨E.st.same, fun x z e n => E.st.keep x z e fun w => n (ow0 x w), E.st.alive⟩, fun x ⟨i, hi⟩ => ow0 x (E.ow x ⟨i, (own1 hi).1⟩)⟩
  · have hi := a.pin_out no hB
    obtain ⟨p1, s1, p2, p3⟩ := E.s1.pin i x hB
    exact ⟨by rw [← wipe_get hi]; exact p1, s1, by rw [restS_get hi]; exact p2, p3⟩
  · by_cases hi : i ∈ vs
    · have h := restS_in hi e
      rcases noOwn_at no hi with ⟨d, q⟩ | q
      · rw [q] at h; subst h
        obtain ⟨v, e1, r⟩ := a.at_ i _ q
        exact ⟨v, e1, r.mono E.st.same⟩
      · rw [q] at h; subst h; trivial
    · rw [restS_get hi] at e
      exact slAt_move (E.s1.at_ i s e) (wipe_get hi).symm
end
end Fw

set_option maxHeartbeats 4000000
/-! Fw10: a comprehension from its parts; zip, enumerate, reversed. -/
namespace Fw
open PySem PySem.Spec PyProof.Rows L2

section
variable {K : PySem.W.Frag} {B : Nat → Option Addr} {H0 G H G' H' G1 H1 G2 H2 Gs Hs : Hp} {σ σ' σ1 σ2 σw : St} {ρ ρ' ρs ρ1 ρ2 : List Sl}
theorem lc_ok {own : List Nat} {tg : Tg} {fI : List Sl → Rs (List D)} {fc : List Sl → Rs Bool} {fe : List Sl → Rs D} {tt : TT} {te : TE} {Q : VK}
    (hix : ∀ i ∈ tg.ix, i ∈ own) (htt : ∀ (σ : St) H Q, tMB K B H0 fc σ H Q → tt σ H Q) (hte : ∀ (σ : St) H Q, tMD K B H0 fe σ H Q → te σ H Q)
    (h : tM K B H0 (fun ρ => if noOwn ρ own then (fI ρ).bind fun r => if noOwn r.2 own then lcEnd r.2 own (turns (lcTurn own tg fc fe) r.1 (wipeS r.2 own)) else none else none) σ H Q) :
    tLc (tMI K B H0 fI) (gT K tg) tt te own σ H Q := by
  obtain ⟨G, ρ, t, ρ', s, e, q⟩ := h
  dsimp only at e
  split at e
  · rename_i no0
    obtain ⟨⟨ds, ρ1⟩, e1, e⟩ := Option.bind_eq_some_iff.mp e
    dsimp only at e
    split at e
    · rename_i no1
      unfold lcEnd at e
      obtain ⟨⟨ys, ρ7⟩, e2, e⟩ := Option.bind_eq_some_iff.mp e
      dsimp only at e
      split at e
      · rename_i hz
        cases e
        refine ⟨G, ρ, ds, ρ1, s, e1, fun J G1 H1 E1 itok Dl hD => ?_⟩
        have hp : ∀ i a, B i = some a → i ∉ own := fun i a hB => E1.s1.pin_out no1 hB
        obtain ⟨sw, _⟩ := E1.s1.wiped hp (wipe_length σ own) (fun i hi => wipe_get hi)
        refine ⟨fun i m H' => m = ds.length - i ∧ i ≤ ds.length ∧ ∃ G' ρ' vs acc rest, EI K B H0 (wipe σ own) G1 H1 (wipeS ρ1 own) G' H' ρ' ∧ H' Dl = some (.lst vs) ∧ G' Dl = none ∧ RepL K G' vs acc ∧ turns (lcTurn own tg fc fe) (ds.drop i) ρ' = some (rest, ρ7) ∧ acc ++ rest = ys,
          ⟨ds.length, by omega, Nat.zero_le _, G1, wipeS ρ1 own, [], [], ys, (EI.refl sw).gro (Gro.tmp sw.sub hD), upd_same, sw.sub.free hD, .nil, e2, rfl⟩, ?_⟩
        rintro i m H' ⟨rfl, hi, G', ρ', vs, acc, rest, E, hl, hg, l, ht, hy⟩
        obtain ⟨it1, it2⟩ := itok i G' H' E.st.same E.s1.sub
        by_cases hlt : i < ds.length
        · have e3 : ds[i]? = some ds[i] := List.getElem?_eq_getElem hlt
          obtain ⟨go, yl⟩ := it1 _ e3
          rw [List.drop_eq_getElem_cons hlt] at ht
          have ht' : (match lcTurn own tg fc fe ds[i] ρ' with
            | some (x, ρ1) => (match turns (lcTurn own tg fc fe) (ds.drop (i + 1)) ρ1 with
              | some (r, ρ2) => some (x ++ r, ρ2)
              | none => none)
            | none => none) = some (rest, ρ7) := ht
          split at ht'
          · rename_i x ρa e4
            split at ht'
            · rename_i r ρb e5
              cases ht'
              refine .inr ⟨go, fun H' => i + 1 ≤ ds.length ∧ ∃ G' ρ' vs acc rest, EI K B H0 (wipe σ own) G1 H1 (wipeS ρ1 own) G' H' ρ' ∧ H' Dl = some (.lst vs) ∧ G' Dl = none ∧ RepL K G' vs acc ∧ turns (lcTurn own tg fc fe) (ds.drop (i + 1)) ρ' = some (rest, ρ7) ∧ acc ++ rest = ys,
                fun H'' w => ⟨ds.length - (i + 1), by omega, rfl, w⟩, fun y H2 hyl => ?_⟩
              obtain ⟨G2, gr, ry⟩ := yl y H2 hyl
              have E2 := E.gro gr
              unfold lcTurn at e4
              obtain ⟨ρ3, f1, e4⟩ := Option.bind_eq_some_iff.mp e4
              obtain ⟨⟨b, ρ4⟩, f2, e4⟩ := Option.bind_eq_some_iff.mp e4
              refine bind_ok tg E2.s1 ry f1 fun σ2 bd => ⟨?_, ?_⟩
              · have w1 : wipe σ2 own = wipe (wipe σ own) own := wipe_eq bd.len fun j hj => (bd.same j fun z => hj (hix j z)).1
                have w2 : wipe (wipe σ own) own = wipe σ own := wipe_eq (wipe_length σ own) fun j hj => wipe_get hj
                rw [w1, w2]
              refine htt _ _ _ ⟨G2, ρ3, b, ρ4, bd.s, f2, fun G3 H3 E3 => ?_⟩
              have nD : ¬ Ow σ2 ρ3 Dl := fun z => by
                have := sw.alive (E2.ow _ (bd.ow _ z))
                exact this hD
              have k2 : H2 Dl = some (.lst vs) := gr.h _ _ hl
              have g2 : G2 Dl = none := gr.keep Dl (by rw [hl]; simp) hg
              obtain ⟨k3, g3⟩ := E3.st.keep Dl _ k2 nD
              dsimp only at e4
              cases b with
              | false =>
                rw [if_neg Bool.false_ne_true] at e4
                cases e4
                refine iteF (B := _ ∧ _) ?_
                exact ⟨hlt, G3, _, vs, acc, _, E2.trans (EI.unwrap E2.s1 bd hix hp E3), k3, g3 g2, l.mono (gr.g.trans E3.st.same), e5, hy⟩
              | true =>
                rw [if_pos rfl] at e4
                refine iteT (A := te _ _ _) ?_
                obtain ⟨⟨d', ρ6⟩, f3, e4⟩ := Option.bind_eq_some_iff.mp e4
                cases e4
                refine hte _ _ _ ⟨G3, ρ4, d', ρ6, E3.s1, f3, fun z G4 H4 E4 rz => ?_⟩
                have E34 := E3.trans E4
                obtain ⟨k4, g4⟩ := E34.st.keep Dl _ k2 nD
                have g4' := g4 g2
                have l4 : RepL K G4 vs acc := l.mono (gr.g.trans E34.st.same)
                have E5 := E2.trans (EI.unwrap E2.s1 bd hix hp E34)
                refine ⟨vs, k4, ?_, hlt, G4, _, vs ++ [z], acc ++ [d'], _, E5.tmpSet hD g4', upd_same, g4', l4.append (.cons rz .nil), e5, ?_⟩
                · rw [l.length]
                  have := congrArg List.length hy
                  rw [List.length_append, List.length_append, List.length_singleton] at this
                  omega
                · rw [List.append_assoc]; exact hy
            · cases ht'
          · cases ht'
        · have ei : i = ds.length := by omega
          subst ei
          rw [List.drop_length] at ht
          cases ht
          rw [List.append_nil] at hy
          subst hy
          exact .inl ⟨it2 (Nat.le_refl _), q _ G' H' (E1.trans (EI.rest E1.s1 no1 E)) ⟨Dl, rfl, ⟨vs, hl, hg, l⟩, E1.fresh hD⟩⟩
      · cases e
    · cases e
  · cases e

/-! ### two sources -/
def cut (H : Hp) (p : Addr) : Hp := fun b => if b = p then none else H b
theorem cut_self {H : Hp} {p : Addr} : cut H p p = none := if_pos rfl
theorem cut_ne {H : Hp} {p b : Addr} (h : b ≠ p) : cut H p b = H b := if_neg h
theorem cut_some {H : Hp} {p b : Addr} {o : HO} (h : cut H p b = some o) : b ≠ p ∧ H b = some o := by
  by_cases hb : b = p
  · subst hb; rw [cut_self] at h; cases h
  · rw [cut_ne hb] at h; exact ⟨hb, h⟩
theorem cut_upd {H : Hp} {p : Addr} {o : HO} (h : H p = some o) : H = upd (cut H p) p o := by
  funext b
  by_cases hb : b = p
  · subst hb; rw [upd_same]; exact h
  · rw [upd_ne hb, cut_ne hb]
theorem StRep.cut {p : Addr} (s : StRep K B H0 G H σ ρ) (h0 : H0 p = none) (hg : G p = none) (no : ¬ Ow σ ρ p) : StRep K B H0 G (cut H p) σ ρ where
  pin := s.pin
  ali := fun b z => by
    have hb : b ≠ p := fun e => z (e ▸ h0)
    rw [cut_ne hb]; exact s.ali b z
  sub := fun b o e => by
    have hb : b ≠ p := fun z => by subst z; rw [hg] at e; cases e
    rw [cut_ne hb]; exact s.sub b o e
  len := s.len
  inj := s.inj
  at_ := fun i sl e => by
    have q := s.at_ i sl e
    have mv : ∀ {a o}, ORep K G H a o → a ≠ p → ORep K G (Fw.cut H p) a o := fun r ne => r.move (Same.refl _) fun x ex => ⟨by rw [cut_ne ne]; exact ex, fun z => z⟩
    cases sl with
    | no => trivial
    | d d => exact q
    | own o => obtain ⟨a, e1, r, f⟩ := q; exact ⟨a, e1, mv r fun z => no ⟨i, z ▸ e1, _, e, rfl⟩, f⟩
    | bor o => obtain ⟨a, e1, r⟩ := q; exact ⟨a, e1, mv r fun z => no ⟨i, z ▸ e1, _, e, rfl⟩⟩
    | fz d => exact q
theorem Stp.cutR {p : Addr} {P : Addr → Prop} (st : Stp G H P G1 H1) (h : H p = none) : Stp G H P G1 (cut H1 p) where
  same := st.same
  keep := fun b o e n => by
    have hb : b ≠ p := fun z => by subst z; rw [h] at e; cases e
    rw [cut_ne hb]; exact st.keep b o e n
  alive := fun b z => by
    have hb : b ≠ p := fun e => z (e ▸ h)
    rw [cut_ne hb]; exact st.alive b z
theorem Stp.cut2 {p : Addr} {P : Addr → Prop} (st : Stp G H P G1 H1) : Stp G (cut H p) P G1 (cut H1 p) where
  same := st.same
  keep := fun b o e n => by
    obtain ⟨hb, e⟩ := cut_some e
    rw [cut_ne hb]; exact st.keep b o e n
  alive := fun b z => by
    have hb : b ≠ p := fun e => z (by rw [e]; exact cut_self)
    rw [cut_ne hb] at z ⊢; exact st.alive b z
theorem yes_ok {σ : St} {H : Hp} {A A' : Hp → Prop} (h : A H) : tYes σ H (fun b H3 => if b = true then A H3 else A' H3) := by
  unfold tYes
  exact (if_pos rfl).mpr h
theorem lc2_ok {own vs1 : List Nat} {tg tg1 : Tg} {fI fI1 : List Sl → Rs (List D)} {fc : List Sl → Rs Bool} {fe : List Sl → Rs D} {tt : TT} {te : TE} {Q : VK}
    (hix : ∀ i ∈ tg.ix, i ∈ own) (hix1 : ∀ i ∈ tg1.ix, i ∈ vs1) (htt : ∀ (σ : St) H Q, tMB K B H0 fc σ H Q → tt σ H Q) (hte : ∀ (σ : St) H Q, tMD K B H0 fe σ H Q → te σ H Q)
    (h : tM K B H0 (fun ρ => if noOwn ρ own then (fI ρ).bind fun r => if noOwn r.2 own then lcEnd r.2 own (turns (lcTurn2 own tg vs1 fI1 tg1 fc fe) r.1 (wipeS r.2 own)) else none else none) σ H Q) :
    tLc2 (tMI K B H0 fI) (gT K tg) tYes (tMI K B H0 fI1) (gT K tg1) tt te own vs1 σ H Q := by
  obtain ⟨G, ρ, t, ρ', s, e, q⟩ := h
  dsimp only at e
  split at e
  · rename_i no0
    obtain ⟨⟨ds, ρ1⟩, e1, e⟩ := Option.bind_eq_some_iff.mp e
    dsimp only at e
    split at e
    · rename_i no1
      unfold lcEnd at e
      obtain ⟨⟨ys, ρ7⟩, e2, e⟩ := Option.bind_eq_some_iff.mp e
      dsimp only at e
      split at e
      · rename_i hz
        cases e
        refine ⟨G, ρ, ds, ρ1, s, e1, fun J G1 H1 E1 itok Dl hD => ?_⟩
        have hp : ∀ i a, B i = some a → i ∉ own := fun i a hB => E1.s1.pin_out no1 hB
        have h0D : H0 Dl = none := by
          cases z : H0 Dl with
          | none => rfl
          | some o => exact absurd hD (E1.s1.ali Dl (by rw [z]; simp))
        obtain ⟨sw, _⟩ := E1.s1.wiped hp (wipe_length σ own) (fun i hi => wipe_get hi)
        refine ⟨fun i m H' => m = ds.length - i ∧ i ≤ ds.length ∧ ∃ G' ρ' vs acc rest, EI K B H0 (wipe σ own) G1 H1 (wipeS ρ1 own) G' H' ρ' ∧ H' Dl = some (.lst vs) ∧ G' Dl = none ∧ RepL K G' vs acc ∧ turns (lcTurn2 own tg vs1 fI1 tg1 fc fe) (ds.drop i) ρ' = some (rest, ρ7) ∧ acc ++ rest = ys,
          ⟨ds.length, by omega, Nat.zero_le _, G1, wipeS ρ1 own, [], [], ys, (EI.refl sw).gro (Gro.tmp sw.sub hD), upd_same, sw.sub.free hD, .nil, e2, rfl⟩, ?_⟩
        rintro i m H' ⟨rfl, hi, G', ρ', vs, acc, rest, E, hl, hg, l, ht, hy⟩
        obtain ⟨it1, it2⟩ := itok i G' H' E.st.same E.s1.sub
        by_cases hlt : i < ds.length
        · have e3 : ds[i]? = some ds[i] := List.getElem?_eq_getElem hlt
          obtain ⟨go, yl⟩ := it1 _ e3
          rw [List.drop_eq_getElem_cons hlt] at ht
          have ht' : (match lcTurn2 own tg vs1 fI1 tg1 fc fe ds[i] ρ' with
            | some (x, ρ1) => (match turns (lcTurn2 own tg vs1 fI1 tg1 fc fe) (ds.drop (i + 1)) ρ1 with
              | some (r, ρ2) => some (x ++ r, ρ2)
              | none => none)
            | none => none) = some (rest, ρ7) := ht
          split at ht'
          · rename_i x ρa e4
            split at ht'
            · rename_i r ρb e5
              cases ht'
              refine .inr ⟨go, fun H' => i + 1 ≤ ds.length ∧ ∃ G' ρ' vs acc rest, EI K B H0 (wipe σ own) G1 H1 (wipeS ρ1 own) G' H' ρ' ∧ H' Dl = some (.lst vs) ∧ G' Dl = none ∧ RepL K G' vs acc ∧ turns (lcTurn2 own tg vs1 fI1 tg1 fc fe) (ds.drop (i + 1)) ρ' = some (rest, ρ7) ∧ acc ++ rest = ys,
                fun H'' w => ⟨ds.length - (i + 1), by omega, rfl, w⟩, fun y H2 hyl => ?_⟩
              obtain ⟨G2, gr, ry⟩ := yl y H2 hyl
              have E2 := E.gro gr
              unfold lcTurn2 at e4
              obtain ⟨ρ3, f1, e4⟩ := Option.bind_eq_some_iff.mp e4
              obtain ⟨⟨ds1, ρ4⟩, f2, e4⟩ := Option.bind_eq_some_iff.mp e4
              dsimp only at e4
              split at e4
              · rename_i no2
                obtain ⟨⟨zs, ρ6⟩, f3, e4⟩ := Option.bind_eq_some_iff.mp e4
                cases e4
                refine bind_ok tg E2.s1 ry f1 fun σ2 bd => ⟨?_, ?_⟩
                · have w1 : wipe σ2 own = wipe (wipe σ own) own := wipe_eq bd.len fun j hj => (bd.same j fun z => hj (hix j z)).1
                  have w2 : wipe (wipe σ own) own = wipe σ own := wipe_eq (wipe_length σ own) fun j hj => wipe_get hj
                  rw [w1, w2]
                refine yes_ok ?_
                refine ⟨G2, ρ3, ds1, ρ4, bd.s, f2, fun J1 G3 H3 E3 itok1 => ?_⟩
                have nD : ¬ Ow σ2 ρ3 Dl := fun z => by
                  have := sw.alive (E2.ow _ (bd.ow _ z))
                  exact this hD
                have k2 : H2 Dl = some (.lst vs) := gr.h _ _ hl
                have g2 : G2 Dl = none := gr.keep Dl (by rw [hl]; simp) hg
                obtain ⟨k3, g3⟩ := E3.st.keep Dl _ k2 nD
                replace g3 := g3 g2
                have nD4 : ¬ Ow σ2 ρ4 Dl := fun z => nD (E3.ow _ z)
                have nDw : ¬ Ow (wipe σ own) ρ' Dl := fun z => sw.alive (E.ow _ z) hD
                -- the list under way is cut out
                have s2c : StRep K B H0 G2 (cut H2 Dl) σ2 ρ3 := bd.s.cut h0D g2 nD
                have E2c : EI K B H0 (wipe σ own) G1 H1 (wipeS ρ1 own) G2 (cut H2 Dl) ρ' := ⟨E2.s0, E2.s1.cut h0D g2 nDw, E2.st.cutR hD, E2.ow⟩
                have E3c : EI K B H0 σ2 G2 (cut H2 Dl) ρ3 G3 (cut H3 Dl) ρ4 := ⟨s2c, E3.s1.cut h0D g3 nD4, E3.st.cut2, E3.ow⟩
                have bdc : Bd K B H0 G2 (cut H2 Dl) (wipe σ own) ρ' σ2 ρ3 tg.ix := ⟨s2c, bd.same, bd.ow, bd.len, bd.only⟩
                have hp1 : ∀ i a, B i = some a → i ∉ vs1 := fun i a hB => E3.s1.pin_out no2 hB
                obtain ⟨sw1, _⟩ := E3c.s1.wiped hp1 (wipe_length σ2 vs1) (fun i hi => wipe_get hi)
                have l3 : RepL K G3 vs acc := l.mono (gr.g.trans E3.st.same)
                refine ⟨fun j k H' => k = ds1.length - j ∧ j ≤ ds1.length ∧ ∃ G' ρ' vs acc' rest', EI K B H0 (wipe σ2 vs1) G3 (cut H3 Dl) (wipeS ρ4 vs1) G' H' ρ' ∧ H' Dl = some (.lst vs) ∧ G' Dl = none ∧ RepL K G' vs acc' ∧ turns (lcTurn vs1 tg1 fc fe) (ds1.drop j) ρ' = some (rest', ρ6) ∧ acc' ++ rest' = acc ++ zs,
                  ⟨ds1.length, by omega, Nat.zero_le _, G3, wipeS ρ4 vs1, vs, acc, zs, ?_, k3, g3, l3, f3, rfl⟩, ?_⟩
                · have z := (EI.refl sw1).gro (Gro.tmp (o := .lst vs) sw1.sub (cut_self (H := H3) (p := Dl)))
                  rw [← cut_upd k3] at z
                  exact z
                rintro j k H4 ⟨rfl, hj, G4, ρ8, vs4, acc4, rest4, E4, hl4, hg4, l4, ht4, hy4⟩
                obtain ⟨jt1, jt2⟩ := itok1 j G4 H4 E4.st.same E4.s1.sub
                by_cases hlt1 : j < ds1.length
                · have e6 : ds1[j]? = some ds1[j] := List.getElem?_eq_getElem hlt1
                  obtain ⟨go1, yl1⟩ := jt1 _ e6
                  rw [List.drop_eq_getElem_cons hlt1] at ht4
                  have ht5 : (match lcTurn vs1 tg1 fc fe ds1[j] ρ8 with
                    | some (x, ρ1) => (match turns (lcTurn vs1 tg1 fc fe) (ds1.drop (j + 1)) ρ1 with
                      | some (r, ρ2) => some (x ++ r, ρ2)
                      | none => none)
                    | none => none) = some (rest4, ρ6) := ht4
                  split at ht5
                  · rename_i x5 ρ9 e7
                    split at ht5
                    · rename_i r5 ρ10 e8
                      cases ht5
                      refine .inr ⟨go1, fun H' => j + 1 ≤ ds1.length ∧ ∃ G' ρ' vs acc' rest', EI K B H0 (wipe σ2 vs1) G3 (cut H3 Dl) (wipeS ρ4 vs1) G' H' ρ' ∧ H' Dl = some (.lst vs) ∧ G' Dl = none ∧ RepL K G' vs acc' ∧ turns (lcTurn vs1 tg1 fc fe) (ds1.drop (j + 1)) ρ' = some (rest', ρ6) ∧ acc' ++ rest' = acc ++ zs,
                        fun H'' w => ⟨ds1.length - (j + 1), by omega, rfl, w⟩, fun y5 H5 hyl5 => ?_⟩
                      obtain ⟨G5, gr5, ry5⟩ := yl1 y5 H5 hyl5
                      have E5 := E4.gro gr5
                      unfold lcTurn at e7
                      obtain ⟨ρ11, u1, e7⟩ := Option.bind_eq_some_iff.mp e7
                      obtain ⟨⟨b, ρ12⟩, u2, e7⟩ := Option.bind_eq_some_iff.mp e7
                      refine bind_ok tg1 E5.s1 ry5 u1 fun σ3 bd1 => ⟨?_, ?_⟩
                      · have w1 : wipe σ3 vs1 = wipe (wipe σ2 vs1) vs1 := wipe_eq bd1.len fun j hj => (bd1.same j fun z => hj (hix1 j z)).1
                        have w2 : wipe (wipe σ2 vs1) vs1 = wipe σ2 vs1 := wipe_eq (wipe_length σ2 vs1) fun j hj => wipe_get hj
                        rw [w1, w2]
                      refine htt _ _ _ ⟨G5, ρ11, b, ρ12, bd1.s, u2, fun G6 H6 E6 => ?_⟩
                      have nD5 : ¬ Ow σ3 ρ11 Dl := fun z => by
                        have := sw1.alive (E5.ow _ (bd1.ow _ z))
                        exact this cut_self
                      have k5 : H5 Dl = some (.lst vs4) := gr5.h _ _ hl4
                      have g5 : G5 Dl = none := gr5.keep Dl (by rw [hl4]; simp) hg4
                      obtain ⟨k6, g6⟩ := E6.st.keep Dl _ k5 nD5
                      dsimp only at e7
                      cases b with
                      | false =>
                        rw [if_neg Bool.false_ne_true] at e7
                        cases e7
                        refine iteF (B := _ ∧ _) ?_
                        exact ⟨hlt1, G6, _, vs4, acc4, _, E5.trans (EI.unwrap E5.s1 bd1 hix1 hp1 E6), k6, g6 g5, l4.mono (gr5.g.trans E6.st.same), e8, hy4⟩
                      | true =>
                        rw [if_pos rfl] at e7
                        refine iteT (A := te _ _ _) ?_
                        obtain ⟨⟨d', ρ13⟩, u3, e7⟩ := Option.bind_eq_some_iff.mp e7
                        cases e7
                        refine hte _ _ _ ⟨G6, ρ12, d', ρ13, E6.s1, u3, fun z G7 H7 E7 rz => ?_⟩
                        have E67 := E6.trans E7
                        obtain ⟨k7, g7⟩ := E67.st.keep Dl _ k5 nD5
                        have g7' := g7 g5
                        have l7 : RepL K G7 vs4 acc4 := l4.mono (gr5.g.trans E67.st.same)
                        have E8 := E5.trans (EI.unwrap E5.s1 bd1 hix1 hp1 E67)
                        refine ⟨vs4, k7, ?_, hlt1, G7, _, vs4 ++ [z], acc4 ++ [d'], _, E8.tmpSet cut_self g7', upd_same, g7', l7.append (.cons rz .nil), e8, ?_⟩
                        · rw [l7.length]
                          have c1 := congrArg List.length hy
                          have c2 := congrArg List.length hy4
                          simp only [List.length_append, List.length_singleton] at c1 c2
                          omega
                        · rw [List.append_assoc]; exact hy4
                    · cases ht5
                  · cases ht5
                · have ei : j = ds1.length := by omega
                  subst ei
                  rw [List.drop_length] at ht4
                  cases ht4
                  rw [List.append_nil] at hy4
                  subst hy4
                  refine .inl ⟨jt2 (Nat.le_refl _), hlt, G4, _, vs4, acc ++ zs, r, ?_, hl4, hg4, l4, e5, ?_⟩
                  · exact E2c.trans (EI.unwrap E2c.s1 bdc hix hp (E3c.trans (EI.rest E3c.s1 no2 E4)))
                  · rw [List.append_assoc]; exact hy
              · cases e4
            · cases ht'
          · cases ht'
        · have ei : i = ds.length := by omega
          subst ei
          rw [List.drop_length] at ht
          cases ht
          rw [List.append_nil] at hy
          subst hy
          exact .inl ⟨it2 (Nat.le_refl _), q _ G' H' (E1.trans (EI.rest E1.s1 no1 E)) ⟨Dl, rfl, ⟨vs, hl, hg, l⟩, E1.fresh hD⟩⟩
      · cases e
    · cases e
  · cases e

/-! ### zip, enumerate, reversed -/
theorem seqOf_rep {v : V} {d : D} {xs : List D} (r : Rep K G v d) (e : seqOf d = some xs) : ∃ a vs, v = .ref a ∧ RepL K G vs xs ∧ (G a = some (.lst vs) ∨ SqT K G a vs) := by
  cases r with
  | tup h l => cases e; exact ⟨_, _, rfl, l, .inr h⟩
  | lst h l => cases e; exact ⟨_, _, rfl, l, .inl h⟩
  | non => cases e
  | bl b => cases e
  | int b => cases e
  | str b => cases e
  | rd _ _ => cases e
theorem rev_ok {f : List Sl → Rs T} {R : It → Hp → Prop} (h : tMI K B H0 (fun ρ => (asD (f ρ)).bind fun r => (seqOf r.1).map fun xs => (xs.reverse, r.2)) σ H R) : RT.iRevA K (tM K B H0 f) σ H R := by
  obtain ⟨G, ρ, ds, ρ', s, e, q⟩ := h
  obtain ⟨⟨d, ρ1⟩, e1, e⟩ := Option.bind_eq_some_iff.mp e
  obtain ⟨xs, e2, e⟩ := Option.map_eq_some_iff.mp e
  cases e
  obtain ⟨t, ρ2, e3, e4⟩ := asD_inv e1
  dsimp only at e2
  refine ⟨G, ρ, t, ρ2, s, e3, fun v G1 H1 E1 T1 => ?_⟩
  obtain ⟨G2, E2, _, r⟩ := settle_ok E1 T1 e4
  obtain ⟨a, vs, rfl, l, hh⟩ := seqOf_rep r e2
  have rvs := l.reverse
  have len := l.length
  have get : ∀ (i : Nat) (d : D), xs.reverse[i]? = some d → i < vs.length ∧ ∃ v, vs[vs.length - 1 - i]? = some v ∧ Rep K G2 v d := fun i d e => by
    obtain ⟨v, z1, z2⟩ := rvs.get e
    have hi : i < vs.length := by
      have := (List.getElem?_eq_some_iff.mp z1).1
      rw [List.length_reverse] at this; exact this
    rw [List.getElem?_reverse hi] at z1
    exact ⟨hi, v, z1, z2⟩
  rcases hh with hh | hh
  · refine ⟨a, vs, rfl, .inl ⟨.inl (.inl (E2.s1.sub _ _ hh)), q _ G2 H1 E2 fun i G' H' s1 s2 => ⟨fun d e => ?_, fun e => ?_⟩⟩⟩
    · have hH : SqL K H' a vs := .inl (.inl (s2 _ _ (s1 _ _ hh)))
      obtain ⟨hi, v, z1, z2⟩ := get i d e
      refine ⟨⟨hi, vs, v, hH, z1⟩, fun x H'' ⟨y1, y2⟩ => ?_⟩
      subst y1
      have := y2 vs hH
      rw [z1] at this; cases this
      exact ⟨G', Gro.refl s2, z2.mono s1⟩
    · rw [List.length_reverse, ← len] at e; exact e
  · refine ⟨a, vs, rfl, .inr ⟨sqT_mono E2.s1.sub hh, q _ G2 H1 E2 fun i G' H' s1 s2 => ⟨fun d e => ?_, fun e => ?_⟩⟩⟩
    · have hH : SqT K H' a vs := sqT_mono s2 (sqT_mono s1 hh)
      obtain ⟨hi, v, z1, z2⟩ := get i d e
      refine ⟨⟨hi, vs, v, hH, z1⟩, fun x H'' ⟨y1, y2⟩ => ?_⟩
      subst y1
      have := y2 vs hH
      rw [z1] at this; cases this
      exact ⟨G', Gro.refl s2, z2.mono s1⟩
    · rw [List.length_reverse, ← len] at e; exact e
theorem enm_ok {f : List Sl → Rs T} {R : It → Hp → Prop} (h : tMI K B H0 (fun ρ => (asD (f ρ)).bind fun r => (enmF r.1).map fun xs => (xs, r.2)) σ H R) : iEnum K (tCons (tM K B H0 f) tNil) σ H R := by
  obtain ⟨G, ρ, ds, ρ', s, e, q⟩ := h
  obtain ⟨⟨d, ρ1⟩, e1, e⟩ := Option.bind_eq_some_iff.mp e
  obtain ⟨xs, e2, e⟩ := Option.map_eq_some_iff.mp e
  cases e
  obtain ⟨t, ρ2, e3, e4⟩ := asD_inv e1
  dsimp only at e2
  unfold enmF at e2
  split at e2
  · rename_i ys
    cases e2
    refine ⟨G, ρ, t, ρ2, s, e3, fun v G1 H1 E1 T1 => ?_⟩
    obtain ⟨G2, E2, _, r⟩ := settle_ok E1 T1 e4
    cases r with
    | @lst a vs _ hh l =>
    refine ⟨a, vs, rfl, .inl (.inl (E2.s1.sub _ _ hh)), q _ G2 H1 E2 fun i G' H' s1 s2 => ⟨fun d e => ?_, fun e => ?_⟩⟩
    · have hH : SqL K H' a vs := .inl (.inl (s2 _ _ (s1 _ _ hh)))
      rw [List.getElem?_map] at e
      obtain ⟨⟨w, k⟩, y1, y2⟩ := Option.map_eq_some_iff.mp e
      rw [List.getElem?_zipIdx] at y1
      obtain ⟨w', y3, y4⟩ := Option.map_eq_some_iff.mp y1
      cases y4
      subst y2
      obtain ⟨v, z1, z2⟩ := l.get y3
      refine ⟨⟨vs, v, hH, z1⟩, fun x H'' ⟨T, u, y5, y6, y7, y8⟩ => ?_⟩
      subst y5 y7
      have := y8 vs hH
      rw [z1] at this; cases this
      refine ⟨upd G' T (.tup [.int (i : Nat), v]), Gro.new s2 y6, ?_⟩
      have := Rep.newTup (K := K) s2 y6 (RepL.cons (Rep.int (i : Int)) (RepL.cons (z2.mono s1) RepL.nil))
      simpa using this
    · rw [List.length_map, List.length_zipIdx, ← l.length] at e
      exact ⟨vs, .inl (.inl (s2 _ _ (s1 _ _ hh))), e⟩
  · cases e2
theorem zip_ok {f g : List Sl → Rs T} {R : It → Hp → Prop} (h : tMI K B H0 (fun ρ => (asD (f ρ)).bind fun r => (asD (g r.2)).bind fun s => (zipF r.1 s.1).map fun xs => (xs, s.2)) σ H R) : FwZ.iZipK K (tCons (tM K B H0 f) (tCons (tM K B H0 g) tNil)) σ H R := by
  obtain ⟨G, ρ, ds, ρ', s, e, q⟩ := h
  obtain ⟨⟨d1, ρ1⟩, e1, e⟩ := Option.bind_eq_some_iff.mp e
  obtain ⟨⟨d2, ρ2⟩, e2, e⟩ := Option.bind_eq_some_iff.mp e
  obtain ⟨xs, e3, e⟩ := Option.map_eq_some_iff.mp e
  cases e
  obtain ⟨t1, ρa, e4, e5⟩ := asD_inv e1
  obtain ⟨t2, ρb, e6, e7⟩ := asD_inv e2
  dsimp only at e3 e6
  unfold zipF at e3
  obtain ⟨ys, y1, e3⟩ := Option.bind_eq_some_iff.mp e3
  obtain ⟨zs, y2, e3⟩ := Option.map_eq_some_iff.mp e3
  subst e3
  refine ⟨G, ρ, t1, ρa, s, e4, fun v G1 H1 E1 T1 => ?_⟩
  obtain ⟨G2, E2, _, r1⟩ := settle_ok E1 T1 e5
  refine ⟨G2, ρ1, t2, ρb, E2.s1, e6, fun v2 G3 H3 E3 T3 => ?_⟩
  obtain ⟨G4, E4, _, r2⟩ := settle_ok E3 T3 e7
  obtain ⟨a, vs, rfl, l1, h1⟩ := seqOf_rep (r1.mono E4.st.same) y1
  obtain ⟨b, ws, rfl, l2, h2⟩ := seqOf_rep r2 y2
  have kind : ∀ {a : Addr} {vs : List V}, (G4 a = some (.lst vs) ∨ SqT K G4 a vs) → ∃ k, ∀ G' H', Same G4 G' → Same G' H' → FwZ.SqK k K H' a vs := fun hh => by
    rcases hh with hh | hh
    · exact ⟨false, fun G' H' s1 s2 => .inl (.inl (s2 _ _ (s1 _ _ hh)))⟩
    · exact ⟨true, fun G' H' s1 s2 => sqT_mono s2 (sqT_mono s1 hh)⟩
  obtain ⟨k1, h1⟩ := kind h1
  obtain ⟨k2, h2⟩ := kind h2
  refine ⟨k1, k2, a, b, vs, ws, rfl, h1 _ _ (Same.refl _) E4.s1.sub, h2 _ _ (Same.refl _) E4.s1.sub, q _ G4 H3 (E2.trans E4) fun i G' H' s1 s2 => ⟨fun d e => ?_, fun e => ?_⟩⟩
  · rw [List.getElem?_map] at e
    obtain ⟨⟨p1, p2⟩, z1, rfl⟩ := Option.map_eq_some_iff.mp e
    obtain ⟨z3, z4⟩ := List.getElem?_zip_eq_some.mp z1
    obtain ⟨v1, w1, w2⟩ := l1.get z3
    obtain ⟨v2, w3, w4⟩ := l2.get z4
    refine ⟨⟨vs, ws, v1, v2, h1 _ _ s1 s2, h2 _ _ s1 s2, w1, w3⟩, fun x H'' ⟨T, x1, x2, y5, y6, y7, y8, y9⟩ => ?_⟩
    subst y5 y7
    have c1 := y8 vs (h1 _ _ s1 s2)
    have c2 := y9 ws (h2 _ _ s1 s2)
    rw [w1] at c1; cases c1
    rw [w3] at c2; cases c2
    exact ⟨upd G' T (.tup [v1, v2]), Gro.new s2 y6, Rep.newTup (K := K) s2 y6 (RepL.cons (w2.mono s1) (RepL.cons (w4.mono s1) RepL.nil))⟩
  · rw [List.length_map, List.length_zip, ← l1.length, ← l2.length] at e
    exact ⟨vs, ws, h1 _ _ s1 s2, h2 _ _ s1 s2, by omega⟩
end
end Fw

set_option maxHeartbeats 8000000
/-! Fw11: the checked expressions are what the evaluator says. -/
namespace Fw
open PySem PySem.Spec PyProof.Rows L2

section
variable {X : Cx}
/-- a conditional expression as a test -/
theorem pt_ife {c a b : Expr} {pos : Pos} {tc t u : TT} (hc : PT X c tc) (ha : PT X a t) (hb : PT X b u) : PT X (.IfExp c a b pos) (fun σ H Q => tc σ H fun k H1 => if k = true then t σ H1 Q else u σ H1 Q) := by
  refine ⟨fun pins s σ H Q I h => ?_⟩
  show wpAny _ _ (do if ← isTrue c X.env (eval c X.env) then isTrue a X.env (eval a X.env) else isTrue b X.env (eval b X.env)) _ _ _
  refine wpAny_bind (thn (hc.run pins s σ H _ I h) fun k s1 ⟨H1, I1, q1⟩ => ?_)
  cases k with
  | true => exact ha.run pins s1 σ H1 Q I1 q1
  | false => exact hb.run pins s1 σ H1 Q I1 q1
end
theorem val_ok {e : Expr} {env : Env} (h : valE e = true) (whole : Sem Value) : isTrue e env whole = (do let v ← whole; standAt e.pos; holding [v] (truthy v)) := by
  cases e <;> first | rfl | (cases h; done) | skip
  rename_i op x p
  cases op <;> first | rfl | cases h
section
variable {n : Nat} {C : Cfg} {S : Sx} {X : Cx} {B : Nat → Option Addr} {H0 : Hp}
/-- what is shown of an expression -/
structure Snd (B : Nat → Option Addr) (H0 : Hp) (X : Cx) (e : Expr) (m : List Sl → Rs T) : Prop where
  pe : PE X e (tM X.K B H0 m)
  pt : PT X e (tMB X.K B H0 fun ρ => asB (m ρ))
  pw : (∃ op es p, e = .BoolOp op es p) → PW X e (tMB X.K B H0 fun ρ => asB (m ρ))
theorem Snd.val {e : Expr} {m : List Sl → Rs T} (h : PE X e (tM X.K B H0 m)) (hv : valE e = true) : Snd B H0 X e m :=
  ⟨h, PT.imp (pt_val h fun w => val_ok hv w) fun σ H Q q => tMB_of q, fun ⟨op, es, p, z⟩ => by subst z; cases hv⟩
theorem Snd.cmp {e : Expr} {m : List Sl → Rs T} (h : PE X e (tM X.K B H0 m)) (ht : PT X e (tMB X.K B H0 fun ρ => asB (m ρ))) (hv : ∀ op es p, e ≠ .BoolOp op es p) : Snd B H0 X e m :=
  ⟨h, ht, fun ⟨op, es, p, z⟩ => absurd z (hv op es p)⟩
theorem evA_len {m : Nat} : ∀ {as : IAs} {es : List Expr} {S : Sx}, okA S as es = true → ∀ ρ ts ρ', evA C m as ρ = some (ts, ρ') → ts.length = es.length
  | .nil, es, S, h, ρ, ts, ρ', e => by
    unfold okA at h
    cases es with
    | nil => cases e; rfl
    | cons => cases h
  | .cons a r, es, S, h, ρ, ts, ρ', e => by
    unfold okA at h
    cases es with
    | nil => cases h
    | cons x es =>
      simp only [Bool.and_eq_true] at h
      unfold evA at e
      obtain ⟨x1, _, e⟩ := Option.bind_eq_some_iff.mp e
      obtain ⟨x2, _, e⟩ := Option.bind_eq_some_iff.mp e
      obtain ⟨⟨us, ρ3⟩, e3, e⟩ := Option.bind_eq_some_iff.mp e
      cases e
      rw [List.length_cons, List.length_cons, evA_len h.2 _ _ _ e3]
theorem evA_d : ∀ {as : IAs} {ρ : List Sl} {ts : List T} {ρ' : List Sl}, evA C 2 as ρ = some (ts, ρ') → ∀ t ∈ ts, ∃ d, t = T.d d
  | .nil, ρ, ts, ρ', e, t, ht => by cases e; cases ht
  | .cons a r, ρ, ts, ρ', e, t, ht => by
    unfold evA at e
    obtain ⟨x1, _, e⟩ := Option.bind_eq_some_iff.mp e
    obtain ⟨x2, e2, e⟩ := Option.bind_eq_some_iff.mp e
    obtain ⟨⟨us, ρ3⟩, e3, e⟩ := Option.bind_eq_some_iff.mp e
    cases e
    rcases List.mem_cons.mp ht with rfl | ht
    · have e4 : (match settle x1.2 x1.1 with
        | some (d, ρ') => some (T.d d, ρ')
        | none => none) = some x2 := e2
      split at e4
      · cases e4; exact ⟨_, rfl⟩
      · cases e4
    · exact evA_d e3 t ht
/-- a method that changes the list in a slot -/
theorem mt_mut (m : Mt) : (m = .append → MtR X "list.append" (rMut X.K .append)) ∧ (m = .extend → MtR X "list.extend" (rMut X.K .extend)) ∧ (m = .pop → MtR X "list.pop" (rMut X.K .pop)) := by
  refine ⟨fun _ => ?_, fun _ => ?_, fun _ => ?_⟩
  · intro pins s σ H x vs v us Q I rx rv ⟨G, a, ws, xs, ds, d, ys, ex, hl, hg, sg, l, w, hf, hd, q⟩
    subst ex
    match ds, w, hf, hd with
    | [d'], w, hf, hd =>
      obtain ⟨y, rfl, w1⟩ := w.one
      have hf' : (if xs.length < sizeLine then some (D.non, xs ++ [d']) else none) = some (d, ys) := hf
      split at hf'
      · rename_i hz
        cases hf'
        exact mt_append pins s σ H _ _ v us Q I rx rv ⟨a, ws, y, rfl, rfl, hl, by rw [l.length]; exact hz, q _ _ .non (l.append (.cons (hd rfl y d' rfl rfl) .nil))⟩
      · cases hf'
  · intro pins s σ H x vs v us Q I rx rv ⟨G, a, ws, xs, ds, d, ys, ex, hl, hg, sg, l, w, hf, _, q⟩
    subst ex
    match ds, w, hf with
    | [d'], w, hf =>
      obtain ⟨y, rfl, w1⟩ := w.one
      obtain ⟨zs, e1, e2⟩ := Option.bind_eq_some_iff.mp (show (seqOf d').bind (fun ys => if xs.length + ys.length ≤ sizeLine then some (D.non, xs ++ ys) else none) = some (d, ys) from hf)
      split at e2
      · rename_i hz
        cases e2
        cases d' with
        | tup us' =>
          cases e1
          obtain ⟨b, bs, rfl, h1, _, l2⟩ := VRep.tupI sg w1
          exact FwX.mt_extendT pins s σ H _ _ v us Q I rx rv ⟨a, b, ws, bs, rfl, rfl, hl, h1, by rw [l.length, l2.length]; exact hz, q _ _ .non (l.append l2)⟩
        | lst us' =>
          cases e1
          obtain ⟨b, bs, rfl, h1, l2⟩ := w1
          exact mt_extend pins s σ H _ _ v us Q I rx rv ⟨a, b, ws, bs, rfl, rfl, hl, h1, by rw [l.length, l2.length]; exact hz, q _ _ .non (l.append l2)⟩
        | _ => cases e1
      · cases e2
  · intro pins s σ H x vs v us Q I rx rv ⟨G, a, ws, xs, ds, d, ys, ex, hl, hg, sg, l, w, hf, _, q⟩
    subst ex
    match ds, w, hf with
    | [], w, hf =>
      have := w.zero
      subst this
      obtain ⟨z, e1, e2⟩ := Option.map_eq_some_iff.mp (show (xs[xs.length - 1]?).map (fun d => (d, xs.dropLast)) = some (d, ys) from hf)
      cases e2
      obtain ⟨y, f1, f2⟩ := l.get e1
      exact mt_pop pins s σ H _ _ v us Q I rx rv ⟨a, ws, y, rfl, rfl, hl, by rw [l.length]; exact f1, q _ _ f2 l.dropLast⟩
end
end Fw

set_option maxHeartbeats 8000000
namespace Fw
open PySem PySem.Spec PyProof.Rows L2
section
variable {n : Nat} {C : Cfg} {B : Nat → Option Addr} {H0 : Hp}
theorem isNop_of {a : IE} (h : a.isNop = true) : a = .nop := by
  cases a <;> first | rfl | cases h
theorem okE_nop {S : Sx} {a : IE} {e : Expr} (h : okE S a e = true) : a.isNop = false := by
  cases a <;> first | rfl | (unfold okE at h; cases h)
theorem mem_all {a b : List Nat} (h : a.all (fun i => b.contains i) = true) : ∀ i ∈ a, i ∈ b := fun i hi => by
  have := List.all_eq_true.mp h i hi
  simpa using this
theorem blk_own {N : List Str} (own : List Nat) : (own.map fun i => (N.getD i "", i)).map (·.2) = own := by
  rw [List.map_map]
  induction own with
  | nil => rfl
  | cons a r ih => rw [List.map_cons, ih]; rfl
theorem tMA_and {K : PySem.W.Frag} {g : List Sl → Rs (List T)} {σ : St} {H : Hp} {Q : List V → Hp → Prop} {k : Nat} (h : tMA K B H0 g σ H Q) (hl : ∀ ρ ts ρ', g ρ = some (ts, ρ') → ts.length = k) : tMA K B H0 g σ H fun vs H' => vs.length = k ∧ Q vs H' := by
  obtain ⟨G, ρ, t, ρ', s, e, q⟩ := h
  exact ⟨G, ρ, t, ρ', s, e, fun v G' H' E r => ⟨by rw [r.len]; exact hl _ _ _ e, q v G' H' E r⟩⟩
theorem tMA_imp {K : PySem.W.Frag} {g : List Sl → Rs (List T)} {σ : St} {H : Hp} {Q Q' : List V → Hp → Prop} (h : tMA K B H0 g σ H Q) (f : ∀ vs H', Q vs H' → Q' vs H') : tMA K B H0 g σ H Q' := by
  obtain ⟨G, ρ, t, ρ', s, e, q⟩ := h
  exact ⟨G, ρ, t, ρ', s, e, fun v G' H' E r => f _ _ (q v G' H' E r)⟩
theorem tM_imp {K : PySem.W.Frag} {g : List Sl → Rs T} {σ : St} {H : Hp} {Q Q' : VK} (h : tM K B H0 g σ H Q) (f : ∀ v H', Q v H' → Q' v H') : tM K B H0 g σ H Q' := by
  obtain ⟨G, ρ, t, ρ', s, e, q⟩ := h
  exact ⟨G, ρ, t, ρ', s, e, fun v G' H' E r => f _ _ (q v G' H' E r)⟩
theorem evA1 {K : PySem.W.Frag} {m : Nat} {a : IE} {σ : St} {H : Hp} {Q : List V → Hp → Prop} (h : tMA K B H0 (evA C m (.cons a .nil)) σ H Q) : tM K B H0 (evE C a) σ H fun x H1 => Q [x] H1 := by
  have h' : tMA K B H0 (fun ρ => evA C m (.cons a .nil) ρ) σ H Q := h
  unfold evA at h'
  exact tM_imp (cons_ok h') fun v H1 z => (nil_ok (by have z' : tMA K B H0 (fun ρ => evA C m .nil ρ) σ H1 (fun xs H2 => Q (v :: xs) H2) := z; unfold evA at z'; exact z') : tNil σ H1 (fun xs H2 => Q (v :: xs) H2))
theorem evA2 {K : PySem.W.Frag} {m : Nat} {a b : IE} {σ : St} {H : Hp} {Q : List V → Hp → Prop} (h : tMA K B H0 (evA C m (.cons a (.cons b .nil))) σ H Q) : tM K B H0 (evE C a) σ H fun x H1 => tM K B H0 (evE C b) σ H1 fun y H2 => Q [x, y] H2 := by
  have h' : tMA K B H0 (fun ρ => evA C m (.cons a (.cons b .nil)) ρ) σ H Q := h
  unfold evA at h'
  exact tM_imp (cons_ok h') fun v H1 z => evA1 z
theorem isi_ok {K : PySem.W.Frag} {t : Ty} {f : List Sl → Rs T} {σ : St} {H : Hp} {Q : VK} (h : tM K B H0 (fun ρ => (f ρ).bind fun r => vw1 (fun d => dB (isiF d [t])) r.2 r.1) σ H Q) :
    tCB (rIsD K t) (tCons (tM K B H0 f) (tCons (tC (.ty t.s)) tNil)) σ H Q := by
  refine tM_imp (one_ok h) fun x H1 ⟨G, d, t', sg, hx, hf, q⟩ => ?_
  obtain ⟨b, hb, rfl⟩ := dB_some hf
  refine ⟨G, x, d, b, rfl, sg, hx, ?_, fin_d sg q (.bl _)⟩
  obtain ⟨b1, e1, e2⟩ := Option.bind_eq_some_iff.mp (show (d.isTy t).bind (fun a => (isiF d []).map fun b => a || b) = some b from hb)
  cases e2
  rw [e1]
  simp
theorem Ty.nm_bt (t : Ty) : bootBuiltins t.nm = some (.type t.s) := by cases t <;> decide +kernel
theorem Ty.nm_in (t : Ty) : bltNames.contains t.nm = true := by cases t <;> decide
theorem Ty.nm_1 (t : Ty) : t.nm ≠ "__name__" := by cases t <;> decide
theorem Ty.nm_2 (t : Ty) : (t.nm == ("__debug__" : Str)) = false := by cases t <;> decide
theorem rngs_inv {K : PySem.W.Frag} {f : Bool} {xs : List V} {H : Hp} {Q : VK} (h : rDn K (rngsF f) xs H Q) : ∃ a b : Int, ((xs = [.int b] ∧ a = 0) ∨ xs = [.int a, .int b]) ∧ RgOk a b ∧
    (bif f then ∀ q, H q = none → Q (.ref q) (upd H q (.tup (rgV a b))) else ∀ q, H q = none → Q (.ref q) (upd H q (.lst (rgV a b)))) := by
  obtain ⟨G, ds, t, sg, w, hf, q⟩ := h
  obtain ⟨zs, e1, e2⟩ := Option.bind_eq_some_iff.mp hf
  split at e2
  · rename_i hz
    cases e2
    have fin : ∀ a b, zs = rngL a b → (bif f then ∀ q, H q = none → Q (.ref q) (upd H q (.tup (rgV a b))) else ∀ q, H q = none → Q (.ref q) (upd H q (.lst (rgV a b)))) := fun a b e => by
      subst e
      cases f with
      | true => exact fun p hp => fin_tup sg q rgV_rep p hp
      | false => exact fun p hp => fin_lst sg q rgV_rep p hp
    have hl : ∀ a b, zs = rngL a b → (b - a).toNat ≤ 2 ^ 24 := fun a b e => by
      subst e
      unfold rngL at hz
      rw [List.length_map, List.length_range] at hz
      omega
    rcases rngF_inv e1 with ⟨b, rfl, h1, h2, rfl⟩ | ⟨a, b, rfl, h1, rfl⟩
    · obtain ⟨v, rfl, w1⟩ := w.one
      cases VRep.int w1
      exact ⟨0, b, .inl ⟨rfl, rfl⟩, ⟨by decide, by decide, h1, h2, hl 0 b rfl⟩, fin 0 b rfl⟩
    · obtain ⟨v, v', rfl, w1, w2⟩ := w.two
      cases VRep.int w1; cases VRep.int w2
      exact ⟨a, b, .inr rfl, ⟨h1.1, h1.2.1, h1.2.2.1, h1.2.2.2, hl a b rfl⟩, fin a b rfl⟩
  · cases e2
theorem okA1 {S : Sx} {as : IAs} {e : Expr} (h : okA S as [e] = true) : ∃ a, as = .cons a .nil ∧ okE S a e = true := by
  cases as with
  | nil => unfold okA at h; cases h
  | cons a r =>
    unfold okA at h
    simp only [Bool.and_eq_true] at h
    cases r with
    | nil => exact ⟨a, rfl, h.1⟩
    | cons b r => have := h.2; unfold okA at this; cases this
theorem okA2 {S : Sx} {as : IAs} {e f : Expr} (h : okA S as [e, f] = true) : ∃ a b, as = .cons a (.cons b .nil) ∧ okE S a e = true ∧ okE S b f = true := by
  cases as with
  | nil => unfold okA at h; cases h
  | cons a r =>
    unfold okA at h
    simp only [Bool.and_eq_true] at h
    obtain ⟨b, rfl, h2⟩ := okA1 h.2
    exact ⟨a, b, rfl, h.1, h2⟩
theorem evVar_sl {S : Sx} {o : IE} {x : Str} {p : Pos} (h : okE S o (.Name x p) = true) : ∀ ρ t ρ', evE C o ρ = some (t, ρ') → ∀ i, t = .sl i → ∃ ob, getO ρ' i = some ob := by
  intro ρ t ρ' e i et
  subst et
  cases o with
  | var j =>
    unfold evE at e
    obtain ⟨sl, e1, e2⟩ := Option.bind_eq_some_iff.mp e
    cases sl with
    | no => cases e2
    | d d => cases e2
    | fz d => cases e2
    | own ob => cases e2; exact ⟨ob, by unfold getO; rw [e1]⟩
    | bor ob => cases e2; exact ⟨ob, by unfold getO; rw [e1]⟩
  | glo y =>
    unfold evE at e
    obtain ⟨d, _, e2⟩ := Option.map_eq_some_iff.mp e
    cases e2
  | frz y =>
    unfold evE at e
    obtain ⟨d, _, e2⟩ := Option.map_eq_some_iff.mp e
    cases e2
  | _ => unfold okE at h; cases h
theorem few1 {e : Expr} {env : Env} {cpos : Pos} (h : plainE e = true) : ((backTo cpos (starEach [e] env)).all (fun x => !x.1) && (backToKw cpos (keywordEach [] env)).all (fun x => x.1.isSome)
      && decide ([e].length + ([] : List Keyword).length + (if ([] : List Keyword).isEmpty then 0 else 1) < 30)) = true := by
  rw [star_ok h]; rfl
mutual
theorem sndE (a : IE) : ∀ {S : Sx} {X : Cx} {e : Expr}, CxOk n C S X → okE S a e = true → Snd B H0 X e (evE C a) := by
  intro S X e c h
  cases a with
  | var i =>
    unfold okE at h
    split at h
    · rename_i x p
      unfold okVar at h
      simp only [Bool.and_eq_true, decide_eq_true_eq, Bool.not_eq_true'] at h
      refine Snd.val (PE.imp (pe_var (i := i) (by rw [c.N]; exact h.1.1.1) (c.vis_of h.1.1.2) h.1.2 h.2) fun σ H Q w => ?_) rfl
      obtain ⟨G, ρ, t, ρ', s, e, q⟩ := w
      unfold evE at e
      obtain ⟨sl, e1, e2⟩ := Option.bind_eq_some_iff.mp e
      have z := s.at_ i sl e1
      cases sl with
      | no => cases e2
      | d d => cases e2; obtain ⟨v, f1, r⟩ := z; exact ⟨v, f1, q v G H (EI.refl s) r⟩
      | fz d => cases e2; obtain ⟨v, f1, r⟩ := z; exact ⟨v, f1, q v G H (EI.refl s) r⟩
      | own o => cases e2; obtain ⟨b, f1, r⟩ := z; exact ⟨_, f1, q _ G H (EI.refl s) f1⟩
      | bor o => cases e2; obtain ⟨b, f1, r⟩ := z; exact ⟨_, f1, q _ G H (EI.refl s) f1⟩
    · cases h
  | non =>
    unfold okE at h
    split at h
    · exact Snd.val (PE.imp pe_non fun σ H Q w => c_ok w fun _ => .non) rfl
    · cases h
  | bl b =>
    unfold okE at h
    split at h
    · have e : b = _ := eq_of_beq h
      subst e
      exact Snd.val (PE.imp pe_bl fun σ H Q w => c_ok w fun _ => .bl _) rfl
    · cases h
  | int i =>
    unfold okE at h
    split at h
    · have e := of_decide_eq_true h
      subst e
      exact Snd.val (PE.imp pe_int fun σ H Q w => c_ok w fun _ => .int _) rfl
    · cases h
  | str i =>
    unfold okE at h
    split at h
    · have e := of_decide_eq_true h
      subst e
      exact Snd.val (PE.imp pe_str fun σ H Q w => c_ok w fun _ => .str _) rfl
    · cases h
  | glo x =>
    unfold okE at h
    split at h
    · simp only [Bool.and_eq_true, decide_eq_true_eq, Bool.not_eq_true'] at h
      obtain ⟨⟨⟨rfl, h1⟩, h2⟩, h3⟩ := h
      refine Snd.val ⟨fun pins s σ H Q I w => ?_⟩ rfl
      obtain ⟨G, ρ, t, ρ', s', e, q⟩ := w
      unfold evE at e
      obtain ⟨d, e1, e2⟩ := Option.map_eq_some_iff.mp e
      cases e2
      obtain ⟨u, v, m1, m2, m3⟩ := c.gl _ h2 d e1
      exact (pe_glob (c.gl_of h1) m1 m2 h3).run pins s σ H Q I (q v G H (EI.refl s') (m3 G))
    · cases h
  | bin op a b =>
    unfold okE at h
    split at h
    · simp only [Bool.and_eq_true, decide_eq_true_eq] at h
      obtain ⟨⟨rfl, h1⟩, h2⟩ := h
      exact Snd.val (PE.imp (pe_op (opr_bin op) (sndE a c h1).pe (sndE b c h2).pe) fun σ H Q w => two_ok (by have w' : tM X.K B H0 (fun ρ => evE C _ ρ) σ H Q := w; unfold evE at w'; exact w')) rfl
    · cases h
  | neg a =>
    unfold okE at h
    split at h
    · exact Snd.val (PE.imp (pe_un unr_neg (sndE a c h).pe) fun σ H Q w => one_ok (by have w' : tM X.K B H0 (fun ρ => evE C _ ρ) σ H Q := w; unfold evE at w'; exact w')) rfl
    · cases h
  | cmp op a b =>
    unfold okE at h
    split at h
    · simp only [Bool.and_eq_true, decide_eq_true_eq] at h
      obtain ⟨⟨rfl, h1⟩, h2⟩ := h
      have hu := c.room.units
      have hm := mark_ok op (okE_plain b _ h2)
      refine Snd.cmp (PE.imp (pe_cmpR (opr_cmp hu op) (sndE a c h1).pe (sndE b c h2).pe hm) fun σ H Q w => two_ok (by have w' : tM X.K B H0 (fun ρ => evE C _ ρ) σ H Q := w; unfold evE at w'; exact w')) (PT.imp (pt_cmpR (opr_cmp hu op) (sndE a c h1).pe (sndE b c h2).pe hm) fun σ H Q w => ?_) (fun _ _ _ z => by cases z)
      exact two_ok (by have w' := tMB_of w; unfold evE at w'; exact w')
    · cases h
  | chn op op' a b d =>
    unfold okE at h
    split at h
    · simp only [Bool.and_eq_true, decide_eq_true_eq] at h
      obtain ⟨⟨⟨⟨rfl, rfl⟩, h1⟩, h2⟩, h3⟩ := h
      have hu := c.room.units
      have hm : ∀ (e f : Expr), lastMarks [op, op'] [e, f] = behindInMarks op' f := fun _ _ => rfl
      have hm' := mark_ok op' (okE_plain d _ h3)
      refine Snd.cmp (PE.imp (pe_chain (opr_cmp hu op) (opr_cmp hu op') (sndE a c h1).pe (sndE b c h2).pe (sndE d c h3).pe (by rw [hm]; exact hm')) fun σ H Q w => chn_ok (by have w' : tM X.K B H0 (fun ρ => evE C _ ρ) σ H Q := w; unfold evE at w'; exact w'))
        (PT.imp (pt_chain (opr_cmp hu op) (opr_cmp hu op') (sndE a c h1).pe (sndE b c h2).pe (sndE d c h3).pe (by rw [hm]; exact hm')) fun σ H Q w => ?_) (fun _ _ _ z => by cases z)
      exact chn_ok (by have w' := tMB_of w; unfold evE at w'; exact w')
    · cases h
  | and_ a b =>
    unfold okE at h
    split at h
    · simp only [Bool.and_eq_true] at h
      have ha := sndE a c h.1
      have hb := sndE b c h.2
      refine ⟨PE.imp (pe_and ha.pe hb.pe) fun σ H Q w => ?_, (PW.imp (pw_and ha.pt (hb.pw ⟨_, _, _, rfl⟩)) fun σ H Q w => ?_).pt, fun _ => PW.imp (pw_and ha.pt (hb.pw ⟨_, _, _, rfl⟩)) fun σ H Q w => ?_⟩
      · unfold evE at w
        obtain ⟨G, ρ, t, ρ', s, e, q⟩ := bind_okT (g := fun k ρ => if k = true then evE C b ρ else some (.d (.bl false), ρ)) w
        refine tMB_of ⟨G, ρ, t, ρ', s, e, fun G1 H1 E => ?_⟩
        have z := if_t (q G1 H1 E)
        cases t with
        | true => exact z
        | false => exact c_ok z fun _ => .bl false
      · unfold evE at w
        obtain ⟨G, ρ, t, ρ', s, e, q⟩ := bind_okB (g := fun k ρ => if k = true then evE C b ρ else some (.d (.bl false), ρ)) w
        refine ⟨G, ρ, t, ρ', s, e, fun G1 H1 E => ?_⟩
        have z := if_b (q G1 H1 E)
        cases t with
        | true => exact z
        | false => exact cB_ok z
      · unfold evE at w
        obtain ⟨G, ρ, t, ρ', s, e, q⟩ := bind_okB (g := fun k ρ => if k = true then evE C b ρ else some (.d (.bl false), ρ)) w
        refine ⟨G, ρ, t, ρ', s, e, fun G1 H1 E => ?_⟩
        have z := if_b (q G1 H1 E)
        cases t with
        | true => exact z
        | false => exact cB_ok z
    · cases h
  | or_ a b =>
    unfold okE at h
    split at h
    · simp only [Bool.and_eq_true] at h
      have ha := sndE a c h.1
      have hb := sndE b c h.2
      refine ⟨PE.imp (pe_or ha.pe hb.pe) fun σ H Q w => ?_, (PW.imp (pw_or ha.pt (hb.pw ⟨_, _, _, rfl⟩)) fun σ H Q w => ?_).pt, fun _ => PW.imp (pw_or ha.pt (hb.pw ⟨_, _, _, rfl⟩)) fun σ H Q w => ?_⟩
      · unfold evE at w
        obtain ⟨G, ρ, t, ρ', s, e, q⟩ := bind_okT (g := fun k ρ => if k = true then some (.d (.bl true), ρ) else evE C b ρ) w
        refine tMB_of ⟨G, ρ, t, ρ', s, e, fun G1 H1 E => ?_⟩
        have z := if_t (q G1 H1 E)
        cases t with
        | true => exact c_ok z fun _ => .bl true
        | false => exact z
      · unfold evE at w
        obtain ⟨G, ρ, t, ρ', s, e, q⟩ := bind_okB (g := fun k ρ => if k = true then some (.d (.bl true), ρ) else evE C b ρ) w
        refine ⟨G, ρ, t, ρ', s, e, fun G1 H1 E => ?_⟩
        have z := if_b (q G1 H1 E)
        cases t with
        | true => exact cB_ok z
        | false => exact z
      · unfold evE at w
        obtain ⟨G, ρ, t, ρ', s, e, q⟩ := bind_okB (g := fun k ρ => if k = true then some (.d (.bl true), ρ) else evE C b ρ) w
        refine ⟨G, ρ, t, ρ', s, e, fun G1 H1 E => ?_⟩
        have z := if_b (q G1 H1 E)
        cases t with
        | true => exact cB_ok z
        | false => exact z
    · cases h
  | one a =>
    unfold okE at h
    split at h
    · rename_i op x p
      have ha := sndE a c h
      have w : PW X (.BoolOp op [x] p) (tMB X.K B H0 fun ρ => asB (evE C (.one a) ρ)) := by
        cases op with
        | And => exact PW.imp (pw_and1 ha.pt) fun σ H Q w => by unfold evE at w; exact w
        | Or => exact PW.imp (pw_or1 ha.pt) fun σ H Q w => by unfold evE at w; exact w
      exact ⟨PE.imp (pe_one ha.pe) fun σ H Q w => by have w' : tM X.K B H0 (fun ρ => evE C _ ρ) σ H Q := w; unfold evE at w'; exact w', w.pt, fun _ => w⟩
    · cases h
  | not_ a =>
    unfold okE at h
    split at h
    · have ha := sndE a c h
      refine Snd.cmp (PE.imp (pe_not ha.pe) fun σ H Q w => ?_) (PT.imp (pt_not ha.pt) fun σ H Q w => ?_) (fun _ _ _ z => by cases z)
      · unfold evE at w
        obtain ⟨G, ρ, t, ρ', s, e, q⟩ := bind_okT (g := fun k ρ => some (.d (.bl (!k)), ρ)) w
        exact tMB_of ⟨G, ρ, t, ρ', s, e, fun G1 H1 E => c_ok (q G1 H1 E) fun _ => .bl _⟩
      · unfold evE at w
        obtain ⟨G, ρ, t, ρ', s, e, q⟩ := bind_okB (g := fun k ρ => some (.d (.bl (!k)), ρ)) w
        exact ⟨G, ρ, t, ρ', s, e, fun G1 H1 E => cB_ok (q G1 H1 E)⟩
    · cases h
  | ife k a b =>
    unfold okE at h
    split at h
    · simp only [Bool.and_eq_true] at h
      have hk := sndE k c h.1.1
      have ha := sndE a c h.1.2
      have hb := sndE b c h.2
      refine Snd.cmp (PE.imp (pe_ifExp hk.pt ha.pe hb.pe) fun σ H Q w => ?_) (PT.imp (pt_ife hk.pt ha.pt hb.pt) fun σ H Q w => ?_) (fun _ _ _ z => by cases z)
      · unfold evE at w
        obtain ⟨G, ρ, t, ρ', s, e, q⟩ := bind_okT (g := fun k ρ => if k = true then evE C a ρ else evE C b ρ) w
        exact ⟨G, ρ, t, ρ', s, e, fun G1 H1 E => if_t (q G1 H1 E)⟩
      · unfold evE at w
        obtain ⟨G, ρ, t, ρ', s, e, q⟩ := bind_okB (g := fun k ρ => if k = true then evE C a ρ else evE C b ρ) w
        exact ⟨G, ρ, t, ρ', s, e, fun G1 H1 E => if_b (q G1 H1 E)⟩
    · cases h
  | frz a =>
    unfold okE at h
    simp only [Bool.and_eq_true] at h
    exact Snd.val (PE.imp (sndE a c h.2).pe fun σ H Q w => frz_ok (by have w' : tM X.K B H0 (fun ρ => evE C _ ρ) σ H Q := w; unfold evE at w'; exact w')) h.1.2
  | kix x a =>
    unfold okE at h
    split at h
    · simp only [Bool.and_eq_true, decide_eq_true_eq, Bool.not_eq_true'] at h
      obtain ⟨⟨⟨rfl, h1⟩, h2⟩, h3⟩ := h
      refine Snd.val ⟨fun pins s σ H Q I w => ?_⟩ rfl
      obtain ⟨G, ρ, t, ρ', s', e, q⟩ := w
      unfold evE at e
      obtain ⟨kv, e1, e⟩ := Option.bind_eq_some_iff.mp e
      obtain ⟨⟨t1, ρ1⟩, e2, e⟩ := Option.bind_eq_some_iff.mp e
      obtain ⟨d, w1, w2, rfl⟩ := vw1_inv e
      obtain ⟨p, m1, m2⟩ := c.kd _ _ e1
      unfold kixF at w2
      split at w2
      · rename_i z
        obtain ⟨d2, w3, w4⟩ := Option.map_eq_some_iff.mp w2
        subst w4
        obtain ⟨v, kd, rp⟩ := m2 _ _ w3
        refine (pe_ix ix_kdict (pe_glob (v := .ref p) (c.gl_of h1) m1 rfl h2) (sndE a c h3).pe (plain_ix (okE_plain a _ h3))).run pins s σ H Q I ?_
        refine (⟨G, ρ, t1, _, s', e2, fun v1 G1 H1 E1 T1 => ?_⟩ : tM X.K B H0 (fun ρ => evE C a ρ) σ H _)
        have vr := view_ok E1.s1 T1 w1
        cases (show Rep X.K G1 v1 (.str z) from vr)
        exact ⟨p, z, v, rfl, rfl, kd, q v G1 H1 E1 (rp G1)⟩
      · cases w2
    · cases h
  | ix a b =>
    unfold okE at h
    split at h
    · simp only [Bool.and_eq_true] at h
      exact Snd.val (PE.imp (pe_ix ixr (sndE a c h.1).pe (sndE b c h.2).pe (plain_ix (okE_plain b _ h.2))) fun σ H Q w => two_ok (by have w' : tM X.K B H0 (fun ρ => evE C _ ρ) σ H Q := w; unfold evE at w'; exact w')) rfl
    · cases h
  | slc a lo hi =>
    unfold okE at h
    split at h
    · rename_i x l u _ _
      simp only [Bool.and_eq_true] at h
      obtain ⟨⟨h1, h2⟩, h3⟩ := h
      have pl : PO X l (tMP X.K B H0 fun ρ => asP lo.isNop (evE C lo ρ) ρ) := by
        cases l with
        | none => rw [show lo.isNop = true from h2]; exact PO.imp po_none fun σ H Q w => asP_none w
        | some l => rw [okE_nop h2]; exact PO.imp (po_some (sndE lo c h2).pe) fun σ H Q w => asP_some w
      have pu : PO X u (tMP X.K B H0 fun ρ => asP hi.isNop (evE C hi ρ) ρ) := by
        cases u with
        | none => rw [show hi.isNop = true from h3]; exact PO.imp po_none fun σ H Q w => asP_none w
        | some l => rw [okE_nop h3]; exact PO.imp (po_some (sndE hi c h3).pe) fun σ H Q w => asP_some w
      exact Snd.val (PE.imp (pe_slice slr (sndE a c h1).pe pl pu) fun σ H Q w => slc_ok (by have w' : tM X.K B H0 (fun ρ => evE C _ ρ) σ H Q := w; unfold evE at w'; exact w')) rfl
    · cases h
  | nop => unfold okE at h; cases h
  | tup as =>
    unfold okE at h
    split at h
    · exact Snd.val (PE.imp (pe_tup (sndA 2 as c h)) fun σ H Q w => tup_ok (by have w' : tM X.K B H0 (fun ρ => evE C _ ρ) σ H Q := w; unfold evE at w'; exact w')) rfl
    · cases h
  | lst as =>
    unfold okE at h
    split at h
    · exact Snd.val (PE.imp (pe_lst (sndA 2 as c h)) fun σ H Q w => lst_ok (by have w' : tM X.K B H0 (fun ρ => evE C _ ρ) σ H Q := w; unfold evE at w'; exact w')) rfl
    · cases h
  | call f as =>
    unfold okE at h
    split at h
    · rename_i x _ es _
      simp only [Bool.and_eq_true, decide_eq_true_eq, Bool.not_eq_true'] at h
      obtain ⟨⟨⟨⟨rfl, h1⟩, h2⟩, h3⟩, h4⟩ := h
      obtain ⟨fa, fd, ps, m1, m2, m3, m4⟩ := c.fns _ _ h3
      have pA := sndA 0 as c h4
      have ln := evA_len (C := C) (m := 0) h4
      cases es with
      | nil =>
        refine Snd.val (PE.imp (pe_call0 m4 c.room (c.gl_of h1) m1 m2 m3 .nil pass0 h2) fun σ H Q w => ?_) rfl
        have z := call_ok (np := 0) (by have w' : tM X.K B H0 (fun ρ => evE C _ ρ) σ H Q := w; unfold evE at w'; exact w') ln
        unfold tCall at z ⊢
        cases as with
        | nil => exact nil_ok (by have z' : tMA X.K B H0 (fun ρ => evA C 0 IAs.nil ρ) σ H _ := z; unfold evA at z'; exact z')
        | cons _ _ => unfold okA at h4; cases h4
      | cons e0 es =>
        have hp : plainE e0 = true := by
          cases as with
          | nil => unfold okA at h4; cases h4
          | cons a r =>
            unfold okA at h4
            simp only [Bool.and_eq_true] at h4
            exact okE_plain a _ h4.1
        have h5 : okA S (match as with | .nil => .nil | .cons _ r => r) es = true := by
          cases as with
          | nil => unfold okA at h4; cases h4
          | cons a r =>
            unfold okA at h4
            simp only [Bool.and_eq_true] at h4
            exact h4.2
        exact Snd.val (PE.imp (pe_call m4 c.room (c.gl_of h1) m1 m2 m3 .nil pass0 pA h2 (star_ok hp) (okA_any h5)) fun σ H Q w => call_ok (by have w' : tM X.K B H0 (fun ρ => evE C _ ρ) σ H Q := w; unfold evE at w'; exact w') ln) rfl
    · cases h
  | blt f as =>
    unfold okE at h
    split at h
    · rename_i x _ e0 es _
      simp only [Bool.and_eq_true, decide_eq_true_eq] at h
      obtain ⟨⟨h1, h2⟩, h4⟩ := h
      have pA := sndA 0 as c h4
      cases as with
      | nil => unfold okA at h4; cases h4
      | cons a r =>
        unfold okA at h4
        simp only [Bool.and_eq_true] at h4
        exact Snd.val (PE.imp (pe_blt c f h1 h2 pA (okE_plain a _ h4.1) (okA_any h4.2)) fun σ H Q w => many_ok (by have w' : tM X.K B H0 (fun ρ => evE C _ ρ) σ H Q := w; unfold evE at w'; exact w')) rfl
    · cases h
  | isi a ts =>
    unfold okE at h
    split at h
    · rename_i x p y z pos
      simp only [Bool.and_eq_true, decide_eq_true_eq] at h
      obtain ⟨⟨⟨rfl, h1⟩, h2⟩, h3⟩ := h
      split at h3
      · rename_i t q t'
        simp only [Bool.and_eq_true, decide_eq_true_eq] at h3
        obtain ⟨rfl, h4⟩ := h3
        have pz : PE X (.Name t'.nm q) (tC (.ty t'.s)) := pe_bltn (c.gl_of h4) (c.bl _ t'.nm_in) t'.nm_bt rfl t'.nm_1 t'.nm_2
        have pA : PA X [y, .Name t'.nm q] (tCons (tM X.K B H0 (evE C a)) (tCons (tC (.ty t'.s)) tNil)) := pa_cons (sndE a c h2).pe (pa_cons pz pa_nil (star_ok rfl)) (star_ok (okE_plain a _ h2))
        exact Snd.val (PE.imp (pe_callB (cr_isi t') (c.gl_of h1) (c.bl _ (by decide)) (by decide +kernel) pA (by decide) (by decide) (star_ok (okE_plain a _ h2)) rfl) fun σ H Q w => isi_ok (by have w' : tM X.K B H0 (fun ρ => evE C _ ρ) σ H Q := w; unfold evE at w'; exact w')) rfl
      · cases h3
    · cases h
  | rngs f as =>
    unfold okE at h
    split at h
    · rename_i x p1 y p2 es p3 p4
      simp only [Bool.and_eq_true, decide_eq_true_eq] at h
      obtain ⟨⟨⟨⟨⟨hx, h1⟩, rfl⟩, h2⟩, h3⟩, h4⟩ := h
      subst hx
      have gr := c.gl_of h2
      have mr : X.mg ("range" : Str) = none := c.bl _ (by decide)
      have out : ∀ {te : St → Hp → (Int → Int → Hp → Prop) → Prop}, PRg X (.Call (.Name "range" p2) es [] p3) te →
          (∀ σ H Q, tM X.K B H0 (evE C (.rngs f as)) σ H Q → te σ H fun a b H1 => RgOk a b ∧ (bif f then ∀ q, H1 q = none → Q (.ref q) (upd H1 q (.tup (rgV a b))) else ∀ q, H1 q = none → Q (.ref q) (upd H1 q (.lst (rgV a b))))) →
          PE X (.Call (.Name (bif f then ("tuple" : Str) else "list") p1) [.Call (.Name "range" p2) es [] p3] [] p4) (tM X.K B H0 (evE C (.rngs f as))) := fun {te} pr hh => by
        cases f with
        | true => exact PE.imp (pe_tupRg c.calm (c.gl_of h1) (c.bl _ (by decide)) pr) fun σ H Q w => hh σ H Q w
        | false => exact PE.imp (pe_listRg c.calm (c.gl_of h1) (c.bl _ (by decide)) pr) fun σ H Q w => hh σ H Q w
      refine Snd.val ?_ (by cases f <;> rfl)
      have rd : ∀ (σ : St) (H : Hp) Q, tM X.K B H0 (evE C (.rngs f as)) σ H Q → tMA X.K B H0 (evA C 0 as) σ H fun xs H1 => rDn X.K (rngsF f) xs H1 Q := fun σ H Q w => by
        have w' : tM X.K B H0 (fun ρ => evE C (.rngs f as) ρ) σ H Q := w
        unfold evE at w'
        exact many_ok w'
      split at h4
      · rename_i e0
        obtain ⟨a, rfl, h5⟩ := okA1 h3
        refine out (prg_1 gr mr (sndE a c h5).pe (star_ok (okE_plain a _ h5))) fun σ H Q w => ?_
        refine tM_imp (evA1 (rd σ H Q w)) fun v H1 z => ?_
        obtain ⟨i, j, ho, hr, hq⟩ := rngs_inv z
        rcases ho with ⟨ho, rfl⟩ | ho
        · cases ho; exact ⟨j, rfl, hr, hq⟩
        · cases ho
      · rename_i e0 e1
        obtain ⟨a, b, rfl, h5, h6⟩ := okA2 h3
        refine out (prg_2 gr mr (sndE a c h5).pe (sndE b c h6).pe (star_ok (okE_plain a _ h5)) (star_ok (okE_plain b _ h6)) (by rw [star_ok (okE_plain b _ h6)]; rfl)) fun σ H Q w => ?_
        refine tM_imp (evA2 (rd σ H Q w)) fun v H1 z => tM_imp z fun u H2 z => ?_
        obtain ⟨i, j, ho, hr, hq⟩ := rngs_inv z
        rcases ho with ⟨ho, rfl⟩ | ho
        · cases ho
        · cases ho; exact ⟨i, j, rfl, rfl, hr, hq⟩
      · cases h4
    · cases h
  | lrev a =>
    unfold okE at h
    split at h
    · simp only [Bool.and_eq_true, decide_eq_true_eq] at h
      obtain ⟨⟨⟨⟨rfl, h1⟩, rfl⟩, h2⟩, h3⟩ := h
      refine Snd.val (PE.imp (FwX.pe_lstRev c.calm (c.gl_of h1) (c.bl _ (by decide)) (c.gl_of h2) (c.bl _ (by decide)) (sndE a c h3).pe (star_ok (okE_plain a _ h3))) fun σ H Q w => ?_) rfl
      have w' : tM X.K B H0 (fun ρ => evE C (.lrev a) ρ) σ H Q := w
      unfold evE at w'
      refine tM_imp (one_ok w') fun v H1 ⟨G, d, t, sg, hx, hf, q⟩ => ?_
      unfold lrevF at hf
      split at hf
      · cases hf
        obtain ⟨b, vs, rfl, hl, l⟩ := hx
        exact ⟨b, vs, rfl, .inl (.inl hl), fun p hp => fin_lst sg q l.reverse p hp⟩
      · cases hf
    · cases h
  | mth m o as =>
    unfold okE at h
    split at h
    · rename_i x p nm ap es cp
      simp only [Bool.and_eq_true, decide_eq_true_eq] at h
      obtain ⟨⟨⟨⟨h1, rfl⟩, h2⟩, h3⟩, h4⟩ := h
      have po := (sndE o c h1).pe
      have rd : ∀ (σ : St) (H : Hp) Q, tM X.K B H0 (evE C (.mth m o as)) σ H Q → tM X.K B H0 (evE C o) σ H fun x H1 => tyV X.K "list" x H1 ∧ tMA X.K B H0 (evA C (if m = .append then 2 else 0) as) σ H1 fun vs H2 => rMut X.K m x vs H2 Q := fun σ H Q w => by
        have w' : tM X.K B H0 (fun ρ => evE C (.mth m o as) ρ) σ H Q := w
        unfold evE at w'
        refine mth_ok (k := 2) (fun _ => rfl) (evVar_sl h1) (fun hm ρ ts ρ' e => ?_) w'
        rw [if_pos hm] at e
        exact evA_d e
      cases m with
      | append =>
        match es, h3, h4 with
        | [e0], h3, _ =>
          obtain ⟨a, rfl, h5⟩ := okA1 h3
          have hp := okE_plain a _ h5
          exact Snd.val (PE.imp (pe_bm PySem.F.plainAttrs_list PySem.F.slot_list_append PySem.F.type_list_append ((mt_mut .append).1 rfl) po (sndA 2 _ c h3) rfl (few1 hp) h2 (star_ok hp) rfl) fun σ H Q w => rd σ H Q w) rfl
        | [], _, h4 => cases h4
        | _ :: _ :: _, _, h4 => cases h4
      | extend =>
        match es, h3, h4 with
        | [e0], h3, _ =>
          obtain ⟨a, rfl, h5⟩ := okA1 h3
          have hp := okE_plain a _ h5
          exact Snd.val (PE.imp (pe_bm PySem.F.plainAttrs_list PySem.F.slot_list_extend PySem.F.type_list_extend ((mt_mut .extend).2.1 rfl) po (sndA 0 _ c h3) rfl (few1 hp) h2 (star_ok hp) rfl) fun σ H Q w => rd σ H Q w) rfl
        | [], _, h4 => cases h4
        | _ :: _ :: _, _, h4 => cases h4
      | pop =>
        match es, h3, h4 with
        | [], h3, _ =>
          refine Snd.val (PE.imp (pe_bm0 PySem.F.plainAttrs_list PySem.F.slot_list_pop PySem.F.type_list_pop ((mt_mut .pop).2.2 rfl) po rfl h2) fun σ H Q w => ?_) rfl
          cases as with
          | nil =>
            refine tM_imp (rd σ H Q w) fun v H1 ⟨z1, z2⟩ => ⟨z1, ?_⟩
            exact nil_ok (by have z' : tMA X.K B H0 (fun ρ => evA C 0 .nil ρ) σ H1 _ := z2; unfold evA at z'; exact z')
          | cons a r => unfold okA at h3; cases h3
        | _ :: _, _, h4 => cases h4
    · cases h
  | lc it tg k el own =>
    unfold okE at h
    split at h
    · rename_i el' tg' it' ifs scope pos
      simp only [Bool.and_eq_true] at h
      obtain ⟨⟨⟨⟨⟨⟨h1, h2⟩, h3⟩, h4⟩, h5⟩, h6⟩, h7⟩ := h
      have ok : BlkOk X.N X.env.scope scope (own.map fun i => (S.N.getD i "", i)) := by rw [c.N, c.sc]; exact blkOk_by h3
      have fin : ∀ {tt : TT}, (∀ (s : Shared) (H : Hp) (Ca : Addr) (cl : List (Str × Addr)) (fp : List Addr), PTs (X.blk s H scope (compEnvC scope cl Ca X.env) fp) ifs tt) →
          (∀ (σ : St) (H : Hp) Q, tMB X.K B H0 (fun ρ => asC k.isNop (evE C k ρ) ρ) σ H Q → tt σ H Q) → PE X (.ListComp el' [⟨tg', it', ifs, 0⟩] scope pos) (tM X.K B H0 (evE C (.lc it tg k el own))) := fun {tt} pt htt => by
        have base := pe_lc (pos := pos) c.calm (by rw [c.N]; exact c.nd) (sndI it c h2) ok (fun s H Ca cl fp => (show PG (X.blk s H scope (compEnvC scope cl Ca X.env) fp) tg' (gT X.K tg) from pg_ok (c.blk scope s H Ca cl fp) tg tg' h4)) pt (fun s H Ca cl fp => (show PE (X.blk s H scope (compEnvC scope cl Ca X.env) fp) el' (tM X.K B H0 (evE C el)) from (sndE (X := X.blk s H scope (compEnvC scope cl Ca X.env) fp) el (c.blk scope s H Ca cl fp) h6).pe)) (set_ok h1)
        rw [blk_own] at base
        refine PE.imp base fun σ H Q w => ?_
        have w' : tM X.K B H0 (fun ρ => evE C (.lc it tg k el own) ρ) σ H Q := w
        unfold evE at w'
        exact lc_ok (mem_all h5) htt (fun σ H Q z => tMD_of z) w'
      refine Snd.val ?_ rfl
      split at h7
      · exact fin (fun _ _ _ _ _ => pts_nil) fun σ H Q ⟨G, ρ, t, ρ', s, e, q⟩ => by
          rw [h7] at e
          cases e
          exact q G H (EI.refl s)
      · refine fin (fun s H Ca cl fp => pts_one (show PT (X.blk s H scope (compEnvC scope cl Ca X.env) fp) _ (tMB X.K B H0 fun ρ => asB (evE C k ρ)) from (sndE (X := X.blk s H scope (compEnvC scope cl Ca X.env) fp) k (c.blk scope s H Ca cl fp) h7).pt)) fun σ H Q w => ?_
        rw [okE_nop h7] at w
        exact w
      · cases h7
    · cases h
  | lc2 it tg it1 tg1 k el own =>
    unfold okE at h
    split at h
    · rename_i el' tg' it' tg1' it1' ifs scope pos
      simp only [Bool.and_eq_true] at h
      obtain ⟨⟨⟨⟨⟨⟨⟨⟨⟨⟨h1, h1'⟩, h2⟩, h3⟩, h4⟩, h5⟩, i2⟩, i4⟩, i5⟩, h6⟩, h7⟩ := h
      have ok : BlkOk X.N X.env.scope scope (own.map fun i => (S.N.getD i "", i)) := by rw [c.N, c.sc]; exact blkOk_by h3
      have fin : ∀ {tt : TT}, (∀ (s : Shared) (H : Hp) (Ca : Addr) (cl : List (Str × Addr)) (fp : List Addr), PTs (X.blk s H scope (compEnvC scope cl Ca X.env) fp) ifs tt) →
          (∀ (σ : St) (H : Hp) Q, tMB X.K B H0 (fun ρ => asC k.isNop (evE C k ρ) ρ) σ H Q → tt σ H Q) → PE X (.ListComp el' [⟨tg', it', [], 0⟩, ⟨tg1', it1', ifs, 0⟩] scope pos) (tM X.K B H0 (evE C (.lc2 it tg it1 tg1 k el own))) := fun {tt} pt htt => by
        have base := pe_lc2 (vs1 := tg1.ix) (pos := pos) c.calm (by rw [c.N]; exact c.nd) (sndI it c h2) ok (by rw [blk_own]; exact mem_all i5) (fun s H Ca cl fp => (show PG (X.blk s H scope (compEnvC scope cl Ca X.env) fp) tg' (gT X.K tg) from pg_ok (c.blk scope s H Ca cl fp) tg tg' h4)) (fun _ _ _ _ _ => pts_nil)
          (fun s H Ca cl fp => (show PI (X.blk s H scope (compEnvC scope cl Ca X.env) fp) tg1' it1' (tMI X.K B H0 (evI C it1)) from sndI (X := X.blk s H scope (compEnvC scope cl Ca X.env) fp) it1 (c.blk scope s H Ca cl fp) i2))
          (fun s H Ca cl fp => (show PG (X.blk s H scope (compEnvC scope cl Ca X.env) fp) tg1' (gT X.K tg1) from pg_ok (c.blk scope s H Ca cl fp) tg1 tg1' i4)) pt
          (fun s H Ca cl fp => (show PE (X.blk s H scope (compEnvC scope cl Ca X.env) fp) el' (tM X.K B H0 (evE C el)) from (sndE (X := X.blk s H scope (compEnvC scope cl Ca X.env) fp) el (c.blk scope s H Ca cl fp) h6).pe)) (set_ok h1) (fun env x => set_ok (env := env) h1' x)
        rw [blk_own] at base
        refine PE.imp base fun σ H Q w => ?_
        have w' : tM X.K B H0 (fun ρ => evE C (.lc2 it tg it1 tg1 k el own) ρ) σ H Q := w
        unfold evE at w'
        exact lc2_ok (mem_all h5) (fun i hi => hi) htt (fun σ H Q z => tMD_of z) w'
      refine Snd.val ?_ rfl
      split at h7
      · exact fin (fun _ _ _ _ _ => pts_nil) fun σ H Q ⟨G, ρ, t, ρ', s, e, q⟩ => by
          rw [h7] at e
          cases e
          exact q G H (EI.refl s)
      · refine fin (fun s H Ca cl fp => pts_one (show PT (X.blk s H scope (compEnvC scope cl Ca X.env) fp) _ (tMB X.K B H0 fun ρ => asB (evE C k ρ)) from (sndE (X := X.blk s H scope (compEnvC scope cl Ca X.env) fp) k (c.blk scope s H Ca cl fp) h7).pt)) fun σ H Q w => ?_
        rw [okE_nop h7] at w
        exact w
      · cases h7
    · cases h
theorem sndA (m : Nat) (as : IAs) : ∀ {S : Sx} {X : Cx} {es : List Expr}, CxOk n C S X → okA S as es = true → PA X es (tMA X.K B H0 (evA C m as)) := by
  intro S X es c h
  cases as with
  | nil =>
    unfold okA at h
    cases es with
    | nil => exact PA.imp pa_nil fun σ H Q w => nil_ok (by have w' : tMA X.K B H0 (fun ρ => evA C m _ ρ) σ H Q := w; unfold evA at w'; exact w')
    | cons => cases h
  | cons a r =>
    unfold okA at h
    cases es with
    | nil => cases h
    | cons e es =>
      simp only [Bool.and_eq_true] at h
      exact PA.imp (pa_cons (sndE a c h.1).pe (sndA m r c h.2) (star_ok (okE_plain a _ h.1))) fun σ H Q w => cons_ok (by have w' : tMA X.K B H0 (fun ρ => evA C m _ ρ) σ H Q := w; unfold evA at w'; exact w')
theorem sndI (it : II) : ∀ {S : Sx} {X : Cx} {e tg : Expr}, CxOk n C S X → okI S it e tg = true → PI X tg e (tMI X.K B H0 (evI C it)) := by
  intro S X e tg c h
  cases it with
  | seq a =>
    unfold okI at h
    have p := (sndE a c h).pe
    exact PI.imp (PI.or (PI.or (pi_list p) (pi_tup p)) (pi_str p)) fun σ H R w => seq_ok (by have w' : tMI X.K B H0 (fun ρ => evI C (.seq a) ρ) σ H R := w; unfold evI at w'; exact w')
  | rng as =>
    unfold okI at h
    split at h
    · rename_i x p es pos
      simp only [Bool.and_eq_true, decide_eq_true_eq] at h
      obtain ⟨⟨⟨rfl, h1⟩, h2⟩, h3⟩ := h
      have rd : ∀ (σ : St) (H : Hp) R, tMI X.K B H0 (evI C (.rng as)) σ H R → tMA X.K B H0 (evA C 0 as) σ H _ := fun σ H R w => by
        have w' : tMI X.K B H0 (fun ρ => evI C (.rng as) ρ) σ H R := w
        unfold evI at w'
        exact tMA_and (rng_ok w') (evA_len h2)
      split at h3
      · obtain ⟨a, rfl, h5⟩ := okA1 h2
        refine PI.imp (pi_range1 (c.gl_of h1) (c.bl _ (by decide)) (sndA 0 _ c h2) (star_ok (okE_plain a _ h5))) fun σ H R w => ?_
        refine tMA_imp (rd σ H R w) fun vs H1 ⟨hl, z⟩ => ?_
        rcases z with z | ⟨i, j, rfl, _⟩
        · exact z
        · cases hl
      · obtain ⟨a, b, rfl, h5, h6⟩ := okA2 h2
        refine PI.imp (pi_range2 (c.gl_of h1) (c.bl _ (by decide)) (sndA 0 _ c h2) (by rw [star_ok (okE_plain a _ h5), star_ok (okE_plain b _ h6)]; rfl) (star_ok (okE_plain b _ h6))) fun σ H R w => ?_
        refine tMA_imp (rd σ H R w) fun vs H1 ⟨hl, z⟩ => ?_
        rcases z with ⟨j, rfl, _⟩ | z
        · cases hl
        · exact z
      · cases h3
    · cases h
  | zip a b =>
    unfold okI at h
    split at h
    · simp only [Bool.and_eq_true, decide_eq_true_eq] at h
      obtain ⟨⟨⟨rfl, h1⟩, h2⟩, h3⟩ := h
      have st := star_ok (es := []) (env := X.env) (okE_plain b _ h3)
      exact PI.imp (FwZ.pi_zipK (c.gl_of h1) (c.bl _ (by decide)) (pa_cons (sndE a c h2).pe (pa_cons (sndE b c h3).pe pa_nil st) (star_ok (okE_plain a _ h2))) (star_ok (okE_plain a _ h2)) (by rw [st]; rfl)) fun σ H R w => zip_ok (by have w' : tMI X.K B H0 (fun ρ => evI C (.zip a b) ρ) σ H R := w; unfold evI at w'; exact w')
    · cases h
  | enm a =>
    unfold okI at h
    split at h
    · simp only [Bool.and_eq_true, decide_eq_true_eq] at h
      obtain ⟨⟨rfl, h1⟩, h2⟩ := h
      have p := (sndE a c h2).pe
      have st := star_ok (es := []) (env := X.env) (okE_plain a _ h2)
      exact PI.imp (pi_enum (c.gl_of h1) (c.bl _ (by decide)) (pa_cons p pa_nil st) st) fun σ H R w => enm_ok (by have w' : tMI X.K B H0 (fun ρ => evI C (.enm a) ρ) σ H R := w; unfold evI at w'; exact w')
    · cases h
  | rev a =>
    unfold okI at h
    split at h
    · simp only [Bool.and_eq_true, decide_eq_true_eq] at h
      obtain ⟨⟨rfl, h1⟩, h2⟩ := h
      have p := (sndE a c h2).pe
      exact PI.imp (RT.pi_revA (c.gl_of h1) (c.bl _ (by decide)) p (star_ok (okE_plain a _ h2))) fun σ H R w => rev_ok (by have w' : tMI X.K B H0 (fun ρ => evI C (.rev a) ρ) σ H R := w; unfold evI at w'; exact w')
    · cases h
end
end
end Fw

set_option maxHeartbeats 8000000
/-! Fw13: statements. -/
namespace Fw
open PySem PySem.Spec PyProof.Rows L2

/-- a statement's way -/
structure SI (K : PySem.W.Frag) (B : Nat → Option Addr) (H0 : Hp) (G H : Hp) (σ : St) (ρ : List Sl) (G' H' : Hp) (σ' : St) (ρ' : List Sl) : Prop where
  s1 : StRep K B H0 G' H' σ' ρ'
  st : Stp G H (Ow σ ρ) G' H'
  ow : ∀ b, Ow σ' ρ' b → Ow σ ρ b ∨ H b = none
def EndOk (K : PySem.W.Frag) (H0 : Hp) (D : Ends) (σ : St) (G H : Hp) : Fl → Prop
  | .nx => D.nx σ H
  | .bk => D.bk σ H
  | .ct => D.ct σ H
  | .rt t => ∀ v, PRep K H0 G H v t → D.rt v H
def tS (K : PySem.W.Frag) (B : Nat → Option Addr) (H0 : Hp) (m : List Sl → Rs Fl) : TS := fun D σ H => ∃ G ρ fl ρ', StRep K B H0 G H σ ρ ∧ m ρ = some (fl, ρ') ∧
  ∀ σ' G' H', SI K B H0 G H σ ρ G' H' σ' ρ' → EndOk K H0 D σ' G' H' fl
section
variable {K : PySem.W.Frag} {B : Nat → Option Addr} {H0 G H G' H' G1 H1 G2 H2 Gs Hs : Hp} {σ σ' σ1 σ2 σw : St} {ρ ρ' ρs ρ1 ρ2 : List Sl} {D : Ends}
theorem EI.si (a : EI K B H0 σ G H ρ G1 H1 ρ1) : SI K B H0 G H σ ρ G1 H1 σ ρ1 := ⟨a.s1, a.st, fun b z => .inl (a.ow b z)⟩
theorem SI.refl (s : StRep K B H0 G H σ ρ) : SI K B H0 G H σ ρ G H σ ρ := (EI.refl s).si
theorem SI.trans (a : SI K B H0 G H σ ρ G1 H1 σ1 ρ1) (b : SI K B H0 G1 H1 σ1 ρ1 G2 H2 σ2 ρ2) : SI K B H0 G H σ ρ G2 H2 σ2 ρ2 :=
  ⟨b.s1, a.st.trans a.ow b.st, fun x z => by
    rcases b.ow x z with y | y
    · exact a.ow x y
    · right
      cases q : H x with
      | none => rfl
      | some o => exact absurd y (a.st.alive x (by rw [q]; simp))⟩
theorem SI.gro (a : SI K B H0 G H σ ρ G1 H1 σ1 ρ1) (g : Gro G1 H1 G2 H2) : SI K B H0 G H σ ρ G2 H2 σ1 ρ1 := a.trans ((EI.refl a.s1).gro g).si
theorem SI.bd {ix : List Nat} (a : SI K B H0 G H σ ρ G1 H1 σ1 ρ1) (b : Bd K B H0 G1 H1 σ1 ρ1 σ2 ρ2 ix) : SI K B H0 G H σ ρ G1 H1 σ2 ρ2 :=
  ⟨b.s, a.st, fun x z => a.ow x (b.ow x z)⟩
theorem PRep.back {v : V} {t : T} (h : PRep K Hs G H v t) (f : ∀ b, H0 b ≠ none → Hs b ≠ none) : PRep K H0 G H v t := by
  cases t with
  | d d => exact h
  | new o =>
    obtain ⟨p, e, r, z⟩ := h
    refine ⟨p, e, r, ?_⟩
    cases q : H0 p with
    | none => rfl
    | some o => exact absurd z (f p (by rw [q]; simp))
  | sl i => exact h.elim
/-- a block -/
theorem seqS_ok {f g : List Sl → Rs Fl} (h : tS K B H0 (fun ρ => (f ρ).bind fun q => match q.1 with | .nx => g q.2 | _ => some q) D σ H) : tSeq (tS K B H0 f) (tS K B H0 g) D σ H := by
  obtain ⟨G, ρ, fl, ρ', s, e, q⟩ := h
  obtain ⟨⟨f1, ρ1⟩, e1, e⟩ := Option.bind_eq_some_iff.mp e
  refine ⟨G, ρ, f1, ρ1, s, e1, fun σ1 G1 H1 S1 => ?_⟩
  dsimp only at e
  cases f1 with
  | nx => exact ⟨G1, ρ1, fl, ρ', S1.s1, e, fun σ2 G2 H2 S2 => q σ2 G2 H2 (S1.trans S2)⟩
  | bk => cases e; exact q σ1 G1 H1 S1
  | ct => cases e; exact q σ1 G1 H1 S1
  | rt t => cases e; exact q σ1 G1 H1 S1
/-- a store of a new object -/
theorem store_new {i : Nat} {o : O} {x : V} (a : EI K B H0 σ Gs Hs ρs G H ρ) (h : TRep K Hs G H σ x (.new o)) (hb : bindable ρ i = true) : SI K B H0 Gs Hs σ ρs G H (σ.set i (some x)) (ρ.set i (.own o)) := by
  obtain ⟨p, rfl, r, f⟩ := h
  have hi : i < ρ.length := by
    unfold bindable at hb
    split at hb <;> first | (cases hb; done) | skip
    rename_i q; exact (List.getElem?_eq_some_iff.mp q).1
  have hi' : i < σ.length := by rw [a.s1.len]; exact hi
  have np : ¬ Ow σ ρ p := fun z => absurd f (a.s0.alive (a.ow p z))
  have back : ∀ {j b}, OwnAt (σ.set i (some (.ref p))) (ρ.set i (.own o)) j b → (j = i ∧ b = p) ∨ (j ≠ i ∧ OwnAt σ ρ j b) := fun {j b} ⟨e1, s1, e2, e3⟩ => by
    rcases getset e2 with ⟨rfl, rfl, _⟩ | ⟨n, e4⟩
    · rw [List.getElem?_set_self hi'] at e1; cases e1; exact .inl ⟨rfl, rfl⟩
    · rw [List.getElem?_set_ne n] at e1
      exact .inr ⟨fun z => n z.symm, e1, s1, e4, e3⟩
  refine ⟨⟨fun j b hB => ?_, a.s1.ali, a.s1.sub, by rw [List.length_set, List.length_set]; exact a.s1.len, fun j s1 e1 => ?_, fun j k b u1 u2 => ?_⟩, a.st, fun b ⟨j, hj⟩ => ?_⟩
  · obtain ⟨p1, s1, p2, p3⟩ := a.s1.pin j b hB
    have ne : i ≠ j := fun e => by
      subst e
      unfold bindable at hb
      rw [p2] at hb
      cases s1 <;> first | (cases p3; done) | (cases hb; done)
    exact ⟨by rw [List.getElem?_set_ne ne]; exact p1, s1, by rw [List.getElem?_set_ne ne]; exact p2, p3⟩
  · rcases getset e1 with ⟨rfl, rfl, _⟩ | ⟨n, e4⟩
    · refine ⟨p, by rw [List.getElem?_set_self hi'], r, ?_⟩
      cases q : H0 p with
      | none => rfl
      | some o => exact absurd f (a.s0.ali p (by rw [q]; simp))
    · exact slAt_move (a.s1.at_ j s1 e4) (List.getElem?_set_ne n)
  · rcases back u1 with ⟨rfl, rfl⟩ | ⟨n1, o1⟩
    · rcases back u2 with ⟨rfl, _⟩ | ⟨n2, o2⟩
      · rfl
      · exact absurd ⟨k, o2⟩ np
    · rcases back u2 with ⟨rfl, rfl⟩ | ⟨n2, o2⟩
      · exact absurd ⟨j, o1⟩ np
      · exact a.s1.inj j k b o1 o2
  · rcases back hj with ⟨rfl, rfl⟩ | ⟨_, o1⟩
    · exact .inr f
    · exact .inl (a.ow b ⟨j, o1⟩)
theorem store_ok {i : Nat} {t : T} {x : V} (a : EI K B H0 σ Gs Hs ρs G H ρ) (h : TRep K Hs G H σ x t) (e : store ρ i t = some ρ') : ∃ G', SI K B H0 Gs Hs σ ρs G' H (σ.set i (some x)) ρ' := by
  unfold store at e
  split at e
  · rename_i d
    split at e
    · rename_i hb; cases e
      exact ⟨G, a.si.bd (bind1 a.s1 h hb)⟩
    · cases e
  · rename_i o
    split at e
    · rename_i hb; cases e
      exact ⟨G, store_new a h hb⟩
    · cases e
  · rename_i j
    split at e
    · rename_i d ρ2 e1
      split at e
      · rename_i hb; cases e
        obtain ⟨G', E, _, r⟩ := settle_ok a h e1
        exact ⟨G', E.si.bd (bind1 E.s1 r hb)⟩
      · cases e
    · cases e
theorem asg_ok {i : Nat} {f : List Sl → Rs T} (h : tS K B H0 (fun ρ => (f ρ).bind fun r => (store r.2 i r.1).map fun ρ2 => (.nx, ρ2)) D σ H) : tAsg (tM K B H0 f) (gName i) D σ H := by
  obtain ⟨G, ρ, fl, ρ', s, e, q⟩ := h
  obtain ⟨⟨t, ρ1⟩, e1, e⟩ := Option.bind_eq_some_iff.mp e
  obtain ⟨ρ2, e2, e⟩ := Option.map_eq_some_iff.mp e
  cases e
  refine ⟨G, ρ, t, ρ1, s, e1, fun x G1 H1 E1 T1 => ?_⟩
  obtain ⟨G2, S⟩ := store_ok E1 T1 e2
  exact q _ G2 H1 S
theorem asgT_ok {t : Tg} {f : List Sl → Rs T} (h : tS K B H0 (fun ρ => (asD (f ρ)).bind fun r => (bindT t r.1 r.2).map fun ρ2 => (.nx, ρ2)) D σ H) : tAsg (tM K B H0 f) (gT K t) D σ H := by
  obtain ⟨G, ρ, fl, ρ', s, e, q⟩ := h
  obtain ⟨⟨d, ρ1⟩, e1, e⟩ := Option.bind_eq_some_iff.mp e
  obtain ⟨ρ2, e2, e⟩ := Option.map_eq_some_iff.mp e
  cases e
  refine tMD_of ⟨G, ρ, d, ρ1, s, e1, fun x G1 H1 E1 r => ?_⟩
  exact bind_ok t E1.s1 r e2 fun σ' b => q σ' G1 H1 (E1.si.bd b)
theorem drop_ok {f : List Sl → Rs T} (h : tS K B H0 (fun ρ => (f ρ).bind fun r => some (.nx, r.2)) D σ H) : tDrop (tM K B H0 f) D σ H := by
  obtain ⟨G, ρ, fl, ρ', s, e, q⟩ := h
  obtain ⟨⟨t, ρ1⟩, e1, e⟩ := Option.bind_eq_some_iff.mp e
  cases e
  exact ⟨G, ρ, t, ρ1, s, e1, fun x G1 H1 E1 T1 => q σ G1 H1 E1.si⟩
theorem ifS_ok {f : List Sl → Rs T} {g h' : List Sl → Rs Fl} (h : tS K B H0 (fun ρ => (asB (f ρ)).bind fun r => if r.1 then g r.2 else h' r.2) D σ H) : tIfS (tMB K B H0 fun ρ => asB (f ρ)) (tS K B H0 g) (tS K B H0 h') D σ H := by
  obtain ⟨G, ρ, fl, ρ', s, e, q⟩ := h
  obtain ⟨⟨b, ρ1⟩, e1, e⟩ := Option.bind_eq_some_iff.mp e
  refine ⟨G, ρ, b, ρ1, s, e1, fun G1 H1 E1 => ?_⟩
  dsimp only at e
  cases b with
  | true =>
    rw [if_pos rfl] at e ⊢
    exact ⟨G1, ρ1, fl, ρ', E1.s1, e, fun σ2 G2 H2 S2 => q σ2 G2 H2 (E1.si.trans S2)⟩
  | false =>
    rw [if_neg Bool.false_ne_true] at e ⊢
    exact ⟨G1, ρ1, fl, ρ', E1.s1, e, fun σ2 G2 H2 S2 => q σ2 G2 H2 (E1.si.trans S2)⟩
theorem par_ok {i j : Nat} {f g : List Sl → Rs T} (hij : i ≠ j) (h : tS K B H0 (fun ρ => (asD (f ρ)).bind fun r => (asD (g r.2)).bind fun s => if bindable s.2 i && bindable s.2 j then some (.nx, (s.2.set i (.d r.1)).set j (.d s.1)) else none) D σ H) :
    tPar i j (tCons (tM K B H0 f) (tCons (tM K B H0 g) tNil)) D σ H := by
  obtain ⟨G, ρ, fl, ρ', s, e, q⟩ := h
  obtain ⟨⟨d1, ρ1⟩, e1, e⟩ := Option.bind_eq_some_iff.mp e
  obtain ⟨⟨d2, ρ2⟩, e2, e⟩ := Option.bind_eq_some_iff.mp e
  dsimp only at e
  split at e
  · rename_i hb
    rw [Bool.and_eq_true] at hb
    cases e
    refine tMD_of ⟨G, ρ, d1, ρ1, s, e1, fun x G1 H1 E1 r1 => tMD_of ⟨G1, ρ1, d2, ρ2, E1.s1, e2, fun y G2 H2 E2 r2 => ?_⟩⟩
    have b1 := bind1 E2.s1 (r1.mono E2.st.same) hb.1
    have hb2 : bindable (ρ2.set i (.d d1)) j = true := by
      unfold bindable
      rw [List.getElem?_set_ne hij]
      exact hb.2
    have b2 := bind1 b1.s r2 hb2
    exact ⟨x, y, rfl, q _ G2 H2 (((E1.trans E2).si.bd b1).bd b2)⟩
  · cases e
theorem aug_ok {i : Nat} {op : Operator} {f : List Sl → Rs T} {tip : TIp} (ho : (op = .Add ∧ tip = ipI fun i j => i + j) ∨ (op = .Sub ∧ tip = ipI fun i j => i - j))
    (h : tS K B H0 (fun ρ => (asD (f ρ)).bind fun r => ((ρ[i]?).bind fun s => augF op s r.1).bind fun z => (bindT (.nm i) z r.2).map fun ρ2 => (.nx, ρ2)) D σ H) : tAug i (tM K B H0 f) tip D σ H := by
  obtain ⟨G, ρ, fl, ρ', s, e, q⟩ := h
  obtain ⟨⟨d, ρ1⟩, e1, e⟩ := Option.bind_eq_some_iff.mp e
  obtain ⟨z, e2, e⟩ := Option.bind_eq_some_iff.mp e
  obtain ⟨ρ2, e3, e⟩ := Option.map_eq_some_iff.mp e
  cases e
  obtain ⟨sl, e4, e5⟩ := Option.bind_eq_some_iff.mp e2
  dsimp only at e5
  have at0 := s.at_ i sl e4
  unfold augF at e5
  split at e5
  · rename_i a b
    obtain ⟨v, f1, r⟩ := at0
    cases r
    refine ⟨_, f1, tMD_of ⟨G, ρ, _, ρ1, s, e1, fun y G1 H1 E1 r1 => ?_⟩⟩
    cases r1
    rcases ho with ⟨rfl, rfl⟩ | ⟨rfl, rfl⟩
    · cases e5
      refine ⟨_, _, rfl, rfl, ?_⟩
      exact bind_ok (Q := D.nx) (.nm i) E1.s1 (.int _) e3 fun σ' bd => q σ' G1 H1 (E1.si.bd bd)
    · cases e5
      refine ⟨_, _, rfl, rfl, ?_⟩
      exact bind_ok (Q := D.nx) (.nm i) E1.s1 (.int _) e3 fun σ' bd => q σ' G1 H1 (E1.si.bd bd)
  · cases e5
theorem setI_ok {f g h' : List Sl → Rs T} (h : tS K B H0 (fun ρ => (asD (f ρ)).bind fun r => (g r.2).bind fun s => (slOf s.1).bind fun j => (asD (h' s.2)).bind fun k => (setF k.2 j k.1 r.1).map fun ρ2 => (.nx, ρ2)) D σ H) :
    tAsg (tM K B H0 f) (gSub (tM K B H0 g) (tM K B H0 h') rSetL) D σ H := by
  obtain ⟨G, ρ, fl, ρ', s, e, q⟩ := h
  obtain ⟨⟨d, ρ1⟩, e1, ea⟩ := Option.bind_eq_some_iff.mp e
  obtain ⟨⟨t, ρ2⟩, e2, eb⟩ := Option.bind_eq_some_iff.mp ea
  obtain ⟨j, e3, ec⟩ := Option.bind_eq_some_iff.mp eb
  obtain ⟨⟨k, ρ3⟩, e4, ed⟩ := Option.bind_eq_some_iff.mp ec
  obtain ⟨ρ4, e5, ee⟩ := Option.map_eq_some_iff.mp ed
  cases ee
  clear ea eb ec ed
  have et : t = .sl j := by
    dsimp only at e3
    unfold slOf at e3
    split at e3
    · cases e3; rfl
    · cases e3
  subst et
  unfold setF at e5
  obtain ⟨o, e6, e7⟩ := Option.bind_eq_some_iff.mp e5
  cases o with
  | lst xs =>
  cases k with
  | int i =>
    obtain ⟨m, e8, e9⟩ := Option.bind_eq_some_iff.mp e7
    refine tMD_of ⟨G, ρ, d, ρ1, s, e1, fun x G1 H1 E1 r1 => ⟨G1, ρ1, _, ρ2, E1.s1, e2, fun ov G2 H2 E2 T2 => tMD_of ⟨G2, ρ2, _, ρ3, E2.s1, e4, fun iv G3 H3 E3 r3 => ?_⟩⟩⟩
    have hv : σ[j]? = some (some ov) := T2
    cases r3
    obtain ⟨a, us, rfl, ha, l, ow, up⟩ := setO_ok E3.s1 e6 hv
    have E := up (us.set m x) _ _ (l.set (r1.mono (E2.trans E3).st.same) m) e9
    exact ⟨a, us, _, m, rfl, rfl, ha, by rw [l.length]; exact e8, q σ G3 _ ((E1.trans (E2.trans (E3.trans E))).si)⟩
  | _ => cases e7
theorem ret_ok {f : List Sl → Rs T} (h : tS K B H0 (fun ρ => (f ρ).bind fun r => (retT r.2 r.1).map fun s => (.rt s.1, s.2)) D σ H) : tRet (tM K B H0 f) D σ H := by
  obtain ⟨G, ρ, fl, ρ', s, e, q⟩ := h
  obtain ⟨⟨t, ρ1⟩, e1, e⟩ := Option.bind_eq_some_iff.mp e
  obtain ⟨⟨t', ρ2⟩, e2, e⟩ := Option.map_eq_some_iff.mp e
  cases e
  refine ⟨G, ρ, t, ρ1, s, e1, fun x G1 H1 E1 T1 => ?_⟩
  unfold retT at e2
  cases t with
  | d d => cases e2; exact q σ G1 H1 E1.si x T1
  | new o =>
    cases e2
    refine q σ G1 H1 E1.si x ?_
    obtain ⟨p, rfl, r, f⟩ := T1
    exact PRep.back (Hs := H) ⟨p, rfl, r, f⟩ s.ali
  | sl i =>
    have hv : σ[i]? = some (some x) := T1
    obtain ⟨sl, e3, e4⟩ := Option.bind_eq_some_iff.mp e2
    have z := E1.s1.at_ i sl e3
    cases sl with
    | no => cases e4
    | d d =>
      cases e4
      obtain ⟨v, f1, r⟩ := z
      rw [hv] at f1; cases f1
      exact q σ G1 H1 E1.si x r
    | fz d =>
      cases e4
      obtain ⟨v, f1, r⟩ := z
      rw [hv] at f1; cases f1
      exact q σ G1 H1 E1.si x r
    | own o =>
      cases e4
      obtain ⟨a, f1, r, f2⟩ := z
      rw [hv] at f1; cases f1
      refine q σ G1 H1 ⟨⟨fun j b hB => ?_, E1.s1.ali, E1.s1.sub, by rw [List.length_set]; exact E1.s1.len, fun j s1 w => ?_, fun j k b u1 u2 => ?_⟩, E1.st, fun b ⟨j, y1, s1, y2, y3⟩ => ?_⟩ _ ⟨a, rfl, r, f2⟩
      · obtain ⟨p1, s1, p2, p3⟩ := E1.s1.pin j b hB
        have ne : i ≠ j := fun e => by subst e; rw [e3] at p2; cases p2; cases p3
        exact ⟨p1, s1, by rw [List.getElem?_set_ne ne]; exact p2, p3⟩
      · rcases getset w with ⟨rfl, rfl, _⟩ | ⟨n, w⟩
        · trivial
        · exact E1.s1.at_ j s1 w
      · obtain ⟨y1, s1, y2, y3⟩ := u1
        obtain ⟨z1, s2, z2, z3⟩ := u2
        rcases getset y2 with ⟨rfl, rfl, _⟩ | ⟨n, y2⟩
        · cases y3
        rcases getset z2 with ⟨rfl, rfl, _⟩ | ⟨n', z2⟩
        · cases z3
        exact E1.s1.inj j k b ⟨y1, s1, y2, y3⟩ ⟨z1, s2, z2, z3⟩
      · rcases getset y2 with ⟨rfl, rfl, _⟩ | ⟨n, y2⟩
        · cases y3
        exact .inl (E1.ow b ⟨j, y1, s1, y2, y3⟩)
    | bor o =>
      cases e4
      have hs : settle ρ1 (.sl i) = some (o.frz, ρ1.set i (.fz o.frz)) := by
        unfold settle
        simp [e3]
      obtain ⟨G2, E2, _, r⟩ := settle_ok E1 T1 hs
      exact q σ G2 H1 E2.si x r
/-- a for -/
theorem for_ok {tg : Tg} {fI : List Sl → Rs (List Fw.D)} {fb : List Sl → Rs Fl} (h : tS K B H0 (fun ρ => (fI ρ).bind fun r => forS fb tg r.1 r.2) D σ H) : tFor (tMI K B H0 fI) (gT K tg) (tS K B H0 fb) D σ H := by
  obtain ⟨G, ρ, fl, ρ', s, e, q⟩ := h
  obtain ⟨⟨ds, ρ1⟩, e1, e⟩ := Option.bind_eq_some_iff.mp e
  dsimp only at e
  refine ⟨G, ρ, ds, ρ1, s, e1, fun J G1 H1 E1 itok => ?_⟩
  refine ⟨fun i m σ' H' => m = ds.length - i ∧ i ≤ ds.length ∧ ∃ G' ρ2, SI K B H0 G H σ ρ G' H' σ' ρ2 ∧ Same G1 G' ∧ forS fb tg (ds.drop i) ρ2 = some (fl, ρ'), ⟨ds.length, by omega, Nat.zero_le _, G1, ρ1, E1.si, Same.refl _, e⟩, ?_⟩
  rintro i m σ' H' ⟨rfl, hi, G', ρ2, S, sm, ef⟩
  obtain ⟨it1, it2⟩ := itok i G' H' sm S.s1.sub
  by_cases hlt : i < ds.length
  · have e3 : ds[i]? = some ds[i] := List.getElem?_eq_getElem hlt
    obtain ⟨go, yl⟩ := it1 _ e3
    rw [List.drop_eq_getElem_cons hlt] at ef
    unfold forS at ef
    obtain ⟨ρ3, f1, ef⟩ := Option.bind_eq_some_iff.mp ef
    obtain ⟨⟨fl1, ρ4⟩, f2, ef⟩ := Option.bind_eq_some_iff.mp ef
    refine .inr ⟨go, fun σ' H' => i + 1 ≤ ds.length ∧ ∃ G' ρ2, SI K B H0 G H σ ρ G' H' σ' ρ2 ∧ Same G1 G' ∧ forS fb tg (ds.drop (i + 1)) ρ2 = some (fl, ρ'), fun σ2 H2 w => ⟨ds.length - (i + 1), by omega, rfl, w⟩, fun x H2 hy => ?_⟩
    obtain ⟨G2, gr, rx⟩ := yl x H2 hy
    have S2 := S.gro gr
    refine bind_ok tg S2.s1 rx f1 fun σ2 bd => ?_
    have S3 := S2.bd bd
    refine ⟨G2, ρ3, fl1, ρ4, S3.s1, f2, fun σ4 G4 H4 S4 => ?_⟩
    have S5 := S3.trans S4
    have sm5 : Same G1 G4 := (sm.trans gr.g).trans S4.st.same
    dsimp only at ef
    cases fl1 with
    | nx => exact ⟨hlt, G4, ρ4, S5, sm5, ef⟩
    | ct => exact ⟨hlt, G4, ρ4, S5, sm5, ef⟩
    | bk => cases ef; exact q σ4 G4 H4 S5
    | rt t => cases ef; exact q σ4 G4 H4 S5
  · have ei : i = ds.length := by omega
    subst ei
    rw [List.drop_length] at ef
    cases ef
    exact .inl ⟨it2 (Nat.le_refl _), q σ' G' H' S⟩
theorem whl_ok {fc : List Sl → Rs T} {fb : List Sl → Rs Fl} {wf : Nat} (h : tS K B H0 (fun ρ => whlS (fun ρ => asB (fc ρ)) fb wf ρ) D σ H) : tWhile (tMB K B H0 fun ρ => asB (fc ρ)) (tS K B H0 fb) D σ H := by
  obtain ⟨G, ρ, fl, ρ', s, e, q⟩ := h
  refine ⟨fun m σ' H' => ∃ G' ρ2, SI K B H0 G H σ ρ G' H' σ' ρ2 ∧ whlS (fun ρ => asB (fc ρ)) fb m ρ2 = some (fl, ρ'), ⟨wf, G, ρ, SI.refl s, e⟩, ?_⟩
  rintro m σ' H' ⟨G', ρ2, S, ef⟩
  cases m with
  | zero => cases ef
  | succ m =>
    unfold whlS at ef
    obtain ⟨⟨b, ρ3⟩, f1, ef⟩ := Option.bind_eq_some_iff.mp ef
    dsimp only at ef
    refine ⟨G', ρ2, b, ρ3, S.s1, f1, fun G3 H3 E3 => ?_⟩
    have S3 := S.trans E3.si
    cases b with
    | false =>
      rw [if_neg Bool.false_ne_true] at ef
      cases ef
      refine iteF (B := D.nx _ _) ?_
      exact q σ' G3 H3 S3
    | true =>
      rw [if_pos rfl] at ef
      refine iteT (A := ∃ N, _) ?_
      obtain ⟨⟨fl1, ρ4⟩, f2, ef⟩ := Option.bind_eq_some_iff.mp ef
      refine ⟨fun σ2 H2 => ∃ G' ρ2, SI K B H0 G H σ ρ G' H2 σ2 ρ2 ∧ whlS (fun ρ => asB (fc ρ)) fb m ρ2 = some (fl, ρ'), fun σ2 H2 w => ⟨m, by omega, w⟩, G3, ρ3, fl1, ρ4, S3.s1, f2, fun σ4 G4 H4 S4 => ?_⟩
      have S5 := S3.trans S4
      dsimp only at ef
      cases fl1 with
      | nx => exact ⟨G4, ρ4, S5, ef⟩
      | ct => exact ⟨G4, ρ4, S5, ef⟩
      | bk => cases ef; exact q σ4 G4 H4 S5
      | rt t => cases ef; exact q σ4 G4 H4 S5
end
end Fw

set_option maxHeartbeats 8000000
/-! Fw14: the checked blocks; a def's promise; all defs by depth. -/
namespace Fw
open PySem PySem.Spec PyProof.Rows L2

def isDoc : Stmt → Bool
  | .Expr (.Constant (.str _) _ _) _ => true
  | _ => false
def IE.two : IE → Bool
  | .lc2 .. => true
  | .frz a => a.two
  | _ => false
mutual
def okS (S : Sx) : IS → Stmt → Bool
  | .asg i e, st => (match st with
    | .Assign [.Name x py] v pos => decide (S.N[i]? = some x) && isLoc S x && okE S e v && (match v with
      | .ListComp _ _ scope cp => (match S.sc.names.lookup x with
        | some .local => (py.line == cp.line) && !(scope.names.any fun (n, k) => n == x && (k == .local || k == .cell))
        | _ => true)
      | v => !compE v)
    | _ => false)
  | .asgT t e, st => (match st with
    | .Assign [.Tuple es k p] v pos => okTg S t (.Tuple es k p) && okE S e v && !compE v && !isTupE v
    | _ => false)
  | .par _ _ _ _, _ => false
  | .aug i op e, st => (match st with
    | .AugAssign (.Name x _) o v _ => decide (S.N[i]? = some x) && isLoc S x && decide (op = o) && (decide (op = .Add) || decide (op = .Sub)) && okE S e v
    | _ => false)
  | .setI o i e, st => (match st with
    | .Assign [.Subscript (.Name x p) k q] v _ => okE S o (.Name x p) && okE S i k && okE S e v && !compE v
    | _ => false)
  | .ex e, st => (match st with
    | .Expr v _ => okE S e v && !compE v
    | _ => false)
  | .if_ c a b, st => (match st with
    | .If t x y _ => okE S c t && okSs S a x && okSs S b y
    | _ => false)
  | .for_ t it body, st => (match st with
    | .For tg iter x [] _ => okTg S t tg && okI S it iter tg && plainE iter && okSs S body x
    | _ => false)
  | .whl c body, st => (match st with
    | .While t x [] _ => okE S c t && okSs S body x
    | _ => false)
  | .ret e, st => (match st with
    | .Return (some v) _ => okE S e v
    | _ => false)
  | .retN, st => (match st with
    | .Return none _ => true
    | _ => false)
  | .brk, st => (match st with
    | .Break _ => true
    | _ => false)
  | .cnt, st => (match st with
    | .Continue _ => true
    | _ => false)
  | .pass, st => (match st with
    | .Pass _ => true
    | st => isDoc st)
  | .nvr, _ => true
def okSs (S : Sx) : ISs → List Stmt → Bool
  | .nil, sts => sts.isEmpty
  | .cons s r, sts => (match sts with
    | st :: sts => okS S s st && okSs S r sts
    | [] => false)
end
section
variable {n : Nat} {C : Cfg} {B : Nat → Option Addr} {H0 : Hp}
theorem nilS_ok {K : PySem.W.Frag} : ∀ (D : Ends) (σ : St) (H : Hp), tS K B H0 (exSs C .nil) D σ H → tNext D σ H := fun D σ H ⟨G, ρ, fl, ρ', s, e, q⟩ => by
  cases e
  exact q σ G H (SI.refl s)
theorem nvr_ok {K : PySem.W.Frag} : ∀ (D : Ends) (σ : St) (H : Hp), tS K B H0 (exS C .nvr) D σ H → tNever D σ H := fun D σ H ⟨G, ρ, fl, ρ', s, e, q⟩ => by
  cases e
theorem sub_ok {o i : Expr} {pos : Pos} {env : Env} (h : plainE i = true) (v : Value) : assign (.Subscript o i pos) env v = (do
    let ov ← holding [v] (eval o env)
    let iv ← holding [v, ov] (eval i env)
    standAt pos
    holding [v, ov, iv] (setItem ov iv v)
    release [v, ov, iv] []) := by
  cases i <;> first | rfl | cases h
/-- the parts of a checked comprehension -/
theorem lc_parts {S : Sx} {X : Cx} {elt : Expr} {gs : List Comprehension} {scope : Scope} {pos : Pos} (c : CxOk n C S X) : ∀ {e : IE}, e.two = false → okE S e (.ListComp elt gs scope pos) = true →
    ∃ (tg iter : Expr) (ifs : List Expr) (own : List (Str × Nat)) (wi : TI) (g : TG) (tt : TT) (te : TE), gs = [⟨tg, iter, ifs, 0⟩] ∧ PI X tg iter wi ∧ BlkOk X.N X.env.scope scope own ∧
      (∀ (s : Shared) (H : Hp) (Ca : Addr) (cl : List (Str × Addr)) (fp : List Addr), PG (X.blk s H scope (compEnvC scope cl Ca X.env) fp) tg g) ∧ (∀ (s : Shared) (H : Hp) (Ca : Addr) (cl : List (Str × Addr)) (fp : List Addr), PTs (X.blk s H scope (compEnvC scope cl Ca X.env) fp) ifs tt) ∧
      (∀ (s : Shared) (H : Hp) (Ca : Addr) (cl : List (Str × Addr)) (fp : List Addr), PE (X.blk s H scope (compEnvC scope cl Ca X.env) fp) elt te) ∧ (∀ x, foldedSetIterable iter X.env x = pure x) ∧
      ∀ (σ : St) (H : Hp) Q, tM X.K B H0 (evE C e) σ H Q → tLc wi g tt te (own.map (·.2)) σ H Q
  | .lc it tg k el own, _, h => by
    unfold okE at h
    split at h
    · rename_i el' tg' it' ifs scope' pos' he
      cases he
      simp only [Bool.and_eq_true] at h
      obtain ⟨⟨⟨⟨⟨⟨h1, h2⟩, h3⟩, h4⟩, h5⟩, h6⟩, h7⟩ := h
      have ok : BlkOk X.N X.env.scope scope (own.map fun i => (S.N.getD i "", i)) := by rw [c.N, c.sc]; exact blkOk_by h3
      have fin : ∀ {tt : TT}, (∀ (σ : St) (H : Hp) Q, tMB X.K B H0 (fun ρ => asC k.isNop (evE C k ρ) ρ) σ H Q → tt σ H Q) → ∀ (σ : St) (H : Hp) Q, tM X.K B H0 (evE C (.lc it tg k el own)) σ H Q → tLc (tMI X.K B H0 (evI C it)) (gT X.K tg) tt (tM X.K B H0 (evE C el)) ((own.map fun i => (S.N.getD i "", i)).map (·.2)) σ H Q := fun {tt} htt σ H Q w => by
        rw [blk_own]
        have w' : tM X.K B H0 (fun ρ => evE C (.lc it tg k el own) ρ) σ H Q := w
        unfold evE at w'
        exact lc_ok (mem_all h5) htt (fun σ H Q z => tMD_of z) w'
      have pI := sndI (n := n) (C := C) (B := B) (H0 := H0) it c h2
      have pG : ∀ (s : Shared) (H : Hp) (Ca : Addr) (cl : List (Str × Addr)) (fp : List Addr), PG (X.blk s H scope (compEnvC scope cl Ca X.env) fp) tg' (gT X.K tg) := fun s H Ca cl fp => pg_ok (c.blk scope s H Ca cl fp) tg tg' h4
      have pE : ∀ (s : Shared) (H : Hp) (Ca : Addr) (cl : List (Str × Addr)) (fp : List Addr), PE (X.blk s H scope (compEnvC scope cl Ca X.env) fp) elt (tM X.K B H0 (evE C el)) := fun s H Ca cl fp => (sndE (n := n) (C := C) (B := B) (H0 := H0) (X := X.blk s H scope (compEnvC scope cl Ca X.env) fp) el (c.blk scope s H Ca cl fp) h6).pe
      split at h7
      · refine ⟨tg', it', _, _, _, _, tYes, _, rfl, pI, ok, pG, fun _ _ _ _ _ => pts_nil, pE, set_ok h1, fin fun σ H Q ⟨G, ρ, t, ρ', s, e, q⟩ => ?_⟩
        rw [h7] at e
        cases e
        exact q G H (EI.refl s)
      · refine ⟨tg', it', _, _, _, _, (tMB X.K B H0 fun ρ => asB (evE C k ρ)), _, rfl, pI, ok, pG, fun s H Ca cl fp => pts_one (show PT (X.blk s H scope (compEnvC scope cl Ca X.env) fp) _ (tMB X.K B H0 fun ρ => asB (evE C k ρ)) from (sndE (n := n) (C := C) (B := B) (H0 := H0) (X := X.blk s H scope (compEnvC scope cl Ca X.env) fp) k (c.blk scope s H Ca cl fp) h7).pt), pE, set_ok h1, fin fun σ H Q w => ?_⟩
        rw [okE_nop h7] at w
        exact w
      · cases h7
    · cases h
  | .frz a, t, h => by
    unfold okE at h
    simp only [Bool.and_eq_true] at h
    obtain ⟨tg, iter, ifs, own, wi, g, tt, te, h1, h2, h3, h4, h5, h6, h7, h8⟩ := lc_parts c (e := a) t h.2
    exact ⟨tg, iter, ifs, own, wi, g, tt, te, h1, h2, h3, h4, h5, h6, h7, fun σ H Q w => h8 σ H Q (frz_ok (by have w' : tM X.K B H0 (fun ρ => evE C _ ρ) σ H Q := w; unfold evE at w'; exact w'))⟩
  | .lc2 _ _ _ _ _ _ _, t, _ => by cases t
  | .var _, _, h => by unfold okE at h; cases h
  | .non, _, h => by unfold okE at h; cases h
  | .bl _, _, h => by unfold okE at h; cases h
  | .int _, _, h => by unfold okE at h; cases h
  | .str _, _, h => by unfold okE at h; cases h
  | .glo _, _, h => by unfold okE at h; cases h
  | .bin _ _ _, _, h => by unfold okE at h; cases h
  | .neg _, _, h => by unfold okE at h; cases h
  | .cmp _ _ _, _, h => by unfold okE at h; cases h
  | .chn _ _ _ _ _, _, h => by unfold okE at h; cases h
  | .and_ _ _, _, h => by unfold okE at h; cases h
  | .or_ _ _, _, h => by unfold okE at h; cases h
  | .one _, _, h => by unfold okE at h; cases h
  | .not_ _, _, h => by unfold okE at h; cases h
  | .ife _ _ _, _, h => by unfold okE at h; cases h
  | .ix _ _, _, h => by unfold okE at h; cases h
  | .kix _ _, _, h => by unfold okE at h; cases h
  | .slc _ _ _, _, h => by unfold okE at h; cases h
  | .nop, _, h => by unfold okE at h; cases h
  | .tup _, _, h => by unfold okE at h; cases h
  | .lst _, _, h => by unfold okE at h; cases h
  | .call _ _, _, h => by unfold okE at h; cases h
  | .blt _ _, _, h => by unfold okE at h; cases h
  | .isi _ _, _, h => by unfold okE at h; cases h
  | .rngs _ _, _, h => by unfold okE at h; cases h
  | .lrev _, _, h => by unfold okE at h; cases h
  | .mth _ _ _, _, h => by unfold okE at h; cases h
theorem lc2_parts {S : Sx} {X : Cx} {elt : Expr} {gs : List Comprehension} {scope : Scope} {pos : Pos} (c : CxOk n C S X) : ∀ {e : IE}, e.two = true → okE S e (.ListComp elt gs scope pos) = true →
    ∃ (tg iter tg1 iter1 : Expr) (ifs : List Expr) (own : List (Str × Nat)) (vs1 : List Nat) (wi wi1 : TI) (g g1 : TG) (tt : TT) (te : TE), gs = [⟨tg, iter, [], 0⟩, ⟨tg1, iter1, ifs, 0⟩] ∧ PI X tg iter wi ∧ BlkOk X.N X.env.scope scope own ∧ (∀ i ∈ vs1, i ∈ own.map (·.2)) ∧
      (∀ (s : Shared) (H : Hp) (Ca : Addr) (cl : List (Str × Addr)) (fp : List Addr), PG (X.blk s H scope (compEnvC scope cl Ca X.env) fp) tg g) ∧
      (∀ (s : Shared) (H : Hp) (Ca : Addr) (cl : List (Str × Addr)) (fp : List Addr), PI (X.blk s H scope (compEnvC scope cl Ca X.env) fp) tg1 iter1 wi1) ∧
      (∀ (s : Shared) (H : Hp) (Ca : Addr) (cl : List (Str × Addr)) (fp : List Addr), PG (X.blk s H scope (compEnvC scope cl Ca X.env) fp) tg1 g1) ∧ (∀ (s : Shared) (H : Hp) (Ca : Addr) (cl : List (Str × Addr)) (fp : List Addr), PTs (X.blk s H scope (compEnvC scope cl Ca X.env) fp) ifs tt) ∧
      (∀ (s : Shared) (H : Hp) (Ca : Addr) (cl : List (Str × Addr)) (fp : List Addr), PE (X.blk s H scope (compEnvC scope cl Ca X.env) fp) elt te) ∧ (∀ x, foldedSetIterable iter X.env x = pure x) ∧ (∀ env x, foldedSetIterable iter1 env x = pure x) ∧
      ∀ (σ : St) (H : Hp) Q, tM X.K B H0 (evE C e) σ H Q → tLc2 wi g tYes wi1 g1 tt te (own.map (·.2)) vs1 σ H Q
  | .lc2 it tg it1 tg1 k el own, _, h => by
    unfold okE at h
    split at h
    · rename_i el' tg' it' tg1' it1' ifs scope' pos' he
      cases he
      simp only [Bool.and_eq_true] at h
      obtain ⟨⟨⟨⟨⟨⟨⟨⟨⟨⟨h1, h1'⟩, h2⟩, h3⟩, h4⟩, h5⟩, i2⟩, i4⟩, i5⟩, h6⟩, h7⟩ := h
      have ok : BlkOk X.N X.env.scope scope (own.map fun i => (S.N.getD i "", i)) := by rw [c.N, c.sc]; exact blkOk_by h3
      have fin : ∀ {tt : TT}, (∀ (σ : St) (H : Hp) Q, tMB X.K B H0 (fun ρ => asC k.isNop (evE C k ρ) ρ) σ H Q → tt σ H Q) → ∀ (σ : St) (H : Hp) Q, tM X.K B H0 (evE C (.lc2 it tg it1 tg1 k el own)) σ H Q → tLc2 (tMI X.K B H0 (evI C it)) (gT X.K tg) tYes (tMI X.K B H0 (evI C it1)) (gT X.K tg1) tt (tM X.K B H0 (evE C el)) ((own.map fun i => (S.N.getD i "", i)).map (·.2)) tg1.ix σ H Q := fun {tt} htt σ H Q w => by
        rw [blk_own]
        have w' : tM X.K B H0 (fun ρ => evE C (.lc2 it tg it1 tg1 k el own) ρ) σ H Q := w
        unfold evE at w'
        exact lc2_ok (mem_all h5) (fun i hi => hi) htt (fun σ H Q z => tMD_of z) w'
      have pI := sndI (n := n) (C := C) (B := B) (H0 := H0) it c h2
      have hv : ∀ i ∈ tg1.ix, i ∈ (own.map fun i => (S.N.getD i "", i)).map (·.2) := by rw [blk_own]; exact mem_all i5
      have pG : ∀ (s : Shared) (H : Hp) (Ca : Addr) (cl : List (Str × Addr)) (fp : List Addr), PG (X.blk s H scope (compEnvC scope cl Ca X.env) fp) tg' (gT X.K tg) := fun s H Ca cl fp => pg_ok (c.blk scope s H Ca cl fp) tg tg' h4
      have pI1 : ∀ (s : Shared) (H : Hp) (Ca : Addr) (cl : List (Str × Addr)) (fp : List Addr), PI (X.blk s H scope (compEnvC scope cl Ca X.env) fp) tg1' it1' (tMI X.K B H0 (evI C it1)) := fun s H Ca cl fp => sndI (n := n) (C := C) (B := B) (H0 := H0) (X := X.blk s H scope (compEnvC scope cl Ca X.env) fp) it1 (c.blk scope s H Ca cl fp) i2
      have pG1 : ∀ (s : Shared) (H : Hp) (Ca : Addr) (cl : List (Str × Addr)) (fp : List Addr), PG (X.blk s H scope (compEnvC scope cl Ca X.env) fp) tg1' (gT X.K tg1) := fun s H Ca cl fp => pg_ok (c.blk scope s H Ca cl fp) tg1 tg1' i4
      have pE : ∀ (s : Shared) (H : Hp) (Ca : Addr) (cl : List (Str × Addr)) (fp : List Addr), PE (X.blk s H scope (compEnvC scope cl Ca X.env) fp) elt (tM X.K B H0 (evE C el)) := fun s H Ca cl fp => (sndE (n := n) (C := C) (B := B) (H0 := H0) (X := X.blk s H scope (compEnvC scope cl Ca X.env) fp) el (c.blk scope s H Ca cl fp) h6).pe
      split at h7
      · refine ⟨tg', it', tg1', it1', _, _, tg1.ix, _, _, _, _, tYes, _, rfl, pI, ok, hv, pG, pI1, pG1, fun _ _ _ _ _ => pts_nil, pE, set_ok h1, fun env x => set_ok (env := env) h1' x, fin fun σ H Q ⟨G, ρ, t, ρ', s, e, q⟩ => ?_⟩
        rw [h7] at e
        cases e
        exact q G H (EI.refl s)
      · refine ⟨tg', it', tg1', it1', _, _, tg1.ix, _, _, _, _, (tMB X.K B H0 fun ρ => asB (evE C k ρ)), _, rfl, pI, ok, hv, pG, pI1, pG1, fun s H Ca cl fp => pts_one (show PT (X.blk s H scope (compEnvC scope cl Ca X.env) fp) _ (tMB X.K B H0 fun ρ => asB (evE C k ρ)) from (sndE (n := n) (C := C) (B := B) (H0 := H0) (X := X.blk s H scope (compEnvC scope cl Ca X.env) fp) k (c.blk scope s H Ca cl fp) h7).pt), pE, set_ok h1, fun env x => set_ok (env := env) h1' x, fin fun σ H Q w => ?_⟩
        rw [okE_nop h7] at w
        exact w
      · cases h7
    · cases h
  | .frz a, t, h => by
    unfold okE at h
    simp only [Bool.and_eq_true] at h
    obtain ⟨tg, iter, tg1, iter1, ifs, own, vs1, wi, wi1, g, g1, tt, te, h1, h2, h3, h4, h5, h6, h7, h8, h9, h10, h11, h12⟩ := lc2_parts c (e := a) t h.2
    exact ⟨tg, iter, tg1, iter1, ifs, own, vs1, wi, wi1, g, g1, tt, te, h1, h2, h3, h4, h5, h6, h7, h8, h9, h10, h11, fun σ H Q w => h12 σ H Q (frz_ok (by have w' : tM X.K B H0 (fun ρ => evE C _ ρ) σ H Q := w; unfold evE at w'; exact w'))⟩
  | .var _, t, _ => by cases t
  | .non, t, _ => by cases t
  | .bl _, t, _ => by cases t
  | .int _, t, _ => by cases t
  | .str _, t, _ => by cases t
  | .glo _, t, _ => by cases t
  | .bin _ _ _, t, _ => by cases t
  | .neg _, t, _ => by cases t
  | .cmp _ _ _, t, _ => by cases t
  | .chn _ _ _ _ _, t, _ => by cases t
  | .and_ _ _, t, _ => by cases t
  | .or_ _ _, t, _ => by cases t
  | .one _, t, _ => by cases t
  | .not_ _, t, _ => by cases t
  | .ife _ _ _, t, _ => by cases t
  | .ix _ _, t, _ => by cases t
  | .kix _ _, t, _ => by cases t
  | .slc _ _ _, t, _ => by cases t
  | .nop, t, _ => by cases t
  | .tup _, t, _ => by cases t
  | .lst _, t, _ => by cases t
  | .call _ _, t, _ => by cases t
  | .blt _ _, t, _ => by cases t
  | .isi _ _, t, _ => by cases t
  | .rngs _ _, t, _ => by cases t
  | .lrev _, t, _ => by cases t
  | .mth _ _ _, t, _ => by cases t
  | .lc _ _ _ _ _, t, _ => by cases t
mutual
theorem sndS (a : IS) : ∀ {S : Sx} {X : Cx} {st : Stmt}, S.sc.kind = .function → CxOk n C S X → okS S a st = true → PS X st (tS X.K B H0 (exS C a)) := by
  intro S X st kf c h
  have nev : PassesOwn (model X.prog X.w) X.A X.env X.xe := by rw [c.xe]; exact PassesOwn.never
  cases a with
  | asg i e =>
    unfold okS at h
    split at h
    · rename_i x py v pos
      simp only [Bool.and_eq_true, decide_eq_true_eq] at h
      obtain ⟨⟨⟨h1, h2⟩, h3⟩, h4⟩ := h
      obtain ⟨l1, l2⟩ := c.loc_of h2
      have pe := (sndE (n := n) (C := C) (B := B) (H0 := H0) e c h3).pe
      have fin : PS X (.Assign [.Name x py] v pos) (tAsg (tM X.K B H0 (evE C e)) (gName i)) → PS X (.Assign [.Name x py] v pos) (tS X.K B H0 (exS C (.asg i e))) := fun p => PS.imp p fun D σ H w => asg_ok (by have w' : tS X.K B H0 (fun ρ => exS C (.asg i e) ρ) D σ H := w; unfold exS at w'; exact w')
      have nd : X.N.Nodup := by rw [c.N]; exact c.nd
      have ix : X.N[i]? = some x := by rw [c.N]; exact h1
      split at h4
      · rename_i el gs scope cp
        split at h4
        · rename_i hloc
          simp only [Bool.and_eq_true, Bool.not_eq_true'] at h4
          have hk : X.env.scope.names.lookup x = some .local := by rw [c.sc]; exact hloc
          cases tw : e.two with
          | false =>
            obtain ⟨tg, iter, ifs, own, wi, g, tt, te, rfl, pI, ok, pG, pT, pE, pS, im⟩ := lc_parts (n := n) (C := C) (B := B) (H0 := H0) c tw h3
            refine PS.imp (ps_setLc c.calm nd ix hk (sw_true (by rw [c.sc]; exact kf) hk h4.1 h4.2) pI ok pG pT pE pS) fun D σ H w => ?_
            have w' : tS X.K B H0 (fun ρ => exS C (.asg i e) ρ) D σ H := w
            unfold exS at w'
            exact im σ H _ (asg_ok w')
          | true =>
            obtain ⟨tg, iter, tg1, iter1, ifs, own, vs1, wi, wi1, g, g1, tt, te, rfl, pI, ok, hv, pG, pI1, pG1, pT, pE, pS, pS1, im⟩ := lc2_parts (n := n) (C := C) (B := B) (H0 := H0) c tw h3
            refine PS.imp (ps_setLc2 c.calm nd ix hk (sw_true (by rw [c.sc]; exact kf) hk h4.1 h4.2) pI ok hv pG (fun _ _ _ _ _ => pts_nil) pI1 pG1 pT pE pS pS1) fun D σ H w => ?_
            have w' : tS X.K B H0 (fun ρ => exS C (.asg i e) ρ) D σ H := w
            unfold exS at w'
            exact im σ H _ (asg_ok w')
        · rename_i hloc
          refine fin (ps_set nd ix l1 pe ?_ l2)
          have hk : ¬ X.env.kindOf x = some .local := fun z => by
            have z' : X.env.scope.names.lookup x = some .local := z
            rw [c.sc] at z'
            exact hloc z'
          have hb : (X.env.kindOf x == some NameKind.local) = false := by
            cases q : (X.env.kindOf x == some NameKind.local) with
            | false => rfl
            | true => exact absurd (eq_of_beq q) hk
          unfold swapsWith
          simp [hb]
      · rename_i hv
        have hc : compE v = false := by
          cases v <;> first | rfl | (simp at h4; done) | (simpa using h4) | exact absurd rfl (hv _ _ _ _)
        exact fin (ps_set nd ix l1 pe (swap_ok hc _ _) l2)
    · cases h
  | asgT t e =>
    unfold okS at h
    split at h
    · rename_i es k p v pos
      simp only [Bool.and_eq_true, Bool.not_eq_true'] at h
      obtain ⟨⟨⟨h1, h2⟩, h3⟩, h4⟩ := h
      have pe := (sndE (n := n) (C := C) (B := B) (H0 := H0) e c h2).pe
      refine PS.imp (ps_asg pe (pg_ok c t _ h1) (by unfold swapsWithSole; exact swap_ok h3 _ _) ?_ rfl) fun D σ H w => asgT_ok (by have w' : tS X.K B H0 (fun ρ => exS C (.asgT t e) ρ) D σ H := w; unfold exS at w'; exact w')
      cases v <;> first | rfl | cases h4
    · cases h
  | par i j a b => unfold okS at h; cases h
  | aug i op e =>
    unfold okS at h
    split at h
    · rename_i x p o v pos
      simp only [Bool.and_eq_true, Bool.or_eq_true, decide_eq_true_eq] at h
      obtain ⟨⟨⟨⟨h1, h2⟩, rfl⟩, h4⟩, h5⟩ := h
      obtain ⟨l1, l2⟩ := c.loc_of h2
      have pe := (sndE (n := n) (C := C) (B := B) (H0 := H0) e c h5).pe
      have rd : ∀ D σ H, tS X.K B H0 (exS C (.aug i op e)) D σ H → tS X.K B H0 (fun ρ => (asD (evE C e ρ)).bind fun r => ((ρ[i]?).bind fun s => augF op s r.1).bind fun z => (bindT (.nm i) z r.2).map fun ρ2 => (.nx, ρ2)) D σ H := fun D σ H w => by
        have w' : tS X.K B H0 (fun ρ => exS C (.aug i op e) ρ) D σ H := w
        unfold exS at w'
        exact w'
      rcases h4 with rfl | rfl
      · exact PS.imp (ps_aug (by rw [c.N]; exact c.nd) (by rw [c.N]; exact h1) l1 pe ip_add l2) fun D σ H w => aug_ok (.inl ⟨rfl, rfl⟩) (rd D σ H w)
      · exact PS.imp (ps_aug (by rw [c.N]; exact c.nd) (by rw [c.N]; exact h1) l1 pe ip_sub l2) fun D σ H w => aug_ok (.inr ⟨rfl, rfl⟩) (rd D σ H w)
    · cases h
  | setI o i e =>
    unfold okS at h
    split at h
    · rename_i x p k q v pos
      simp only [Bool.and_eq_true, Bool.not_eq_true'] at h
      obtain ⟨⟨⟨h1, h2⟩, h3⟩, h4⟩ := h
      have p1 := (sndE (n := n) (C := C) (B := B) (H0 := H0) o c h1).pe
      have p2 := (sndE (n := n) (C := C) (B := B) (H0 := H0) i c h2).pe
      have p3 := (sndE (n := n) (C := C) (B := B) (H0 := H0) e c h3).pe
      refine PS.imp (ps_asg p3 (pg_sub p1 p2 set_list (sub_ok (okE_plain i _ h2))) (by unfold swapsWithSole; exact swap_ok h4 _ _) rfl rfl) fun D σ H w => setI_ok (by have w' : tS X.K B H0 (fun ρ => exS C (.setI o i e) ρ) D σ H := w; unfold exS at w'; exact w')
    · cases h
  | ex e =>
    unfold okS at h
    split at h
    · simp only [Bool.and_eq_true, Bool.not_eq_true'] at h
      exact PS.imp (ps_expr (sndE (n := n) (C := C) (B := B) (H0 := H0) e c h.1).pe (swap_ok h.2 _ _)) fun D σ H w => drop_ok (by have w' : tS X.K B H0 (fun ρ => exS C (.ex e) ρ) D σ H := w; unfold exS at w'; exact w')
    · cases h
  | if_ k a b =>
    unfold okS at h
    split at h
    · simp only [Bool.and_eq_true] at h
      exact PS.imp (ps_if (sndE (n := n) (C := C) (B := B) (H0 := H0) k c h.1.1).pt (sndSs a kf c h.1.2) (sndSs b kf c h.2)) fun D σ H w => ifS_ok (by have w' : tS X.K B H0 (fun ρ => exS C (.if_ k a b) ρ) D σ H := w; unfold exS at w'; exact w')
    · cases h
  | for_ t it body =>
    unfold okS at h
    split at h
    · simp only [Bool.and_eq_true] at h
      obtain ⟨⟨⟨h1, h2⟩, h3⟩, h4⟩ := h
      exact PS.imp (ps_for nev c.calm (sndI (n := n) (C := C) (B := B) (H0 := H0) it c h2) (pg_ok c t _ h1) (sndSs body kf c h4) (set_ok h3)) fun D σ H w => for_ok (by have w' : tS X.K B H0 (fun ρ => exS C (.for_ t it body) ρ) D σ H := w; unfold exS at w'; exact w')
    · cases h
  | whl k body =>
    unfold okS at h
    split at h
    · simp only [Bool.and_eq_true] at h
      exact PS.imp (ps_while nev (sndE (n := n) (C := C) (B := B) (H0 := H0) k c h.1).pt (sndSs body kf c h.2)) fun D σ H w => whl_ok (by have w' : tS X.K B H0 (fun ρ => exS C (.whl k body) ρ) D σ H := w; unfold exS at w'; exact w')
    · cases h
  | ret e =>
    unfold okS at h
    split at h
    · exact PS.imp (ps_ret (sndE (n := n) (C := C) (B := B) (H0 := H0) e c h).pe) fun D σ H w => ret_ok (by have w' : tS X.K B H0 (fun ρ => exS C (.ret e) ρ) D σ H := w; unfold exS at w'; exact w')
    · cases h
  | retN =>
    unfold okS at h
    split at h
    · exact PS.imp ps_retN fun D σ H ⟨G, ρ, fl, ρ', s, e, q⟩ => by
        cases e
        exact q σ G H (SI.refl s) .non .non
    · cases h
  | brk =>
    unfold okS at h
    split at h
    · exact PS.imp ps_break fun D σ H ⟨G, ρ, fl, ρ', s, e, q⟩ => by
        cases e
        exact q σ G H (SI.refl s)
    · cases h
  | cnt =>
    unfold okS at h
    split at h
    · exact PS.imp ps_continue fun D σ H ⟨G, ρ, fl, ρ', s, e, q⟩ => by
        cases e
        exact q σ G H (SI.refl s)
    · cases h
  | pass =>
    unfold okS at h
    split at h
    · exact PS.imp ps_pass fun D σ H ⟨G, ρ, fl, ρ', s, e, q⟩ => by
        cases e
        exact q σ G H (SI.refl s)
    · unfold isDoc at h
      split at h
      · exact PS.imp ps_doc fun D σ H ⟨G, ρ, fl, ρ', s, e, q⟩ => by
          cases e
          exact q σ G H (SI.refl s)
      · cases h
  | nvr => exact PS.imp ps_never nvr_ok
theorem sndSs (a : ISs) : ∀ {S : Sx} {X : Cx} {sts : List Stmt}, S.sc.kind = .function → CxOk n C S X → okSs S a sts = true → PSs X sts (tS X.K B H0 (exSs C a)) := by
  intro S X sts kf c h
  cases a with
  | nil =>
    unfold okSs at h
    cases sts with
    | nil => exact PSs.imp pss_nil nilS_ok
    | cons => cases h
  | cons s r =>
    unfold okSs at h
    cases sts with
    | nil => cases h
    | cons st sts =>
      simp only [Bool.and_eq_true] at h
      exact PSs.imp (pss_cons (sndS s kf c h.1) (sndSs r kf c h.2)) fun D σ H w => seqS_ok (by have w' : tS X.K B H0 (fun ρ => exSs C (.cons s r) ρ) D σ H := w; unfold exSs at w'; exact w')
end
end
end Fw

set_option maxHeartbeats 8000000
/-! Fw15: all defs by depth, from the checked table; a law's end. -/
namespace Fw
open PySem PySem.Spec PyProof.Rows L2

/-- a def: its form, its text -/
structure Df where
  fd : Fd
  pa : Arguments
  bo : List Stmt
  sc : Scope
def tabOf (ds : List Df) : List Fd := ds.map (·.fd)
def fnsOf (ds : List Df) (f : Str) : Option Nat := ((tabOf ds).find? fun d => d.name == f).map (·.ps.length)
def sxOf (ds : List Df) (d : Df) : Sx := ⟨d.fd.N, d.sc, fun _ => true, fnsOf ds, fun _ => true⟩
def scB (N P : List Str) (sc : Scope) : Bool :=
  decide (sc.kind = .function) && !sc.isCoroutine && !sc.isGenerator && decide N.Nodup && decide (N.take P.length = P) && P.all (fun x => decide (sc.names.lookup x = some .local) || decide (sc.names.lookup x = some .cell)) && sc.names.all (fun y => !decide (y.2 = .free))
def okD (ds : List Df) (d : Df) : Bool := scB d.fd.N d.fd.ps d.sc && okSs (sxOf ds d) d.fd.body d.bo
def BindD (d : Df) : Prop := ∀ (kV doc pm : Value) (an : Option Addr) (cdv ct : Value) (us : List Value), us.length = d.fd.ps.length → bindArgs (PySem.W.fnOf d.fd.name d.fd.name d.pa d.bo d.sc .none kV doc pm an cdv ct) ⟨us, []⟩ = pure (d.fd.ps.zip us)
structure TabOk (ds : List Df) : Prop where
  nd : ((tabOf ds).map (·.name)).Nodup
  ok : ∀ d ∈ ds, okD ds d = true
  bi : ∀ d ∈ ds, BindD d
structure ModOk (K : PySem.W.Frag) (w : World) (mg : Str → Option Value) (ds : List Df) (glo : Str → Option D) (kd : Str → Option (List (Str × D))) : Prop where
  df : ∀ d ∈ ds, ∃ fa fdd, FunD K d.fd.name d.fd.name d.pa d.bo d.sc [] [] fa fdd ∧ mg d.fd.name = some (.ref fa)
  gl : ∀ x d, glo x = some d → ∃ u v, mg x = some u ∧ RelV v u ∧ ∀ G, Rep K G v d
  kd : ∀ x kv, kd x = some kv → ∃ p, mg x = some (.ref p) ∧ ∀ z d, kv.lookup z = some d → ∃ v, KDct K w p z v ∧ ∀ G, Rep K G v d
  bl : ∀ x, bltNames.contains x = true → mg x = none

theorem scB_ok {N P : List Str} {sc : Scope} (h : scB N P sc = true) : FnScope N P sc := by
  unfold scB at h
  simp only [Bool.and_eq_true, Bool.not_eq_true', decide_eq_true_eq, List.all_eq_true, Bool.or_eq_true, decide_eq_false_iff_not] at h
  obtain ⟨⟨⟨⟨⟨⟨h1, h2⟩, h3⟩, h4⟩, h5⟩, h6⟩, h7⟩ := h
  exact ⟨h1, h2, h3, h4, h5, h6, h7⟩
theorem find_name {l : List Fd} (nd : (l.map (·.name)).Nodup) {d : Fd} (h : d ∈ l) : (l.find? fun e => e.name == d.name) = some d := by
  induction l with
  | nil => cases h
  | cons e l ih =>
    rw [List.map_cons, List.nodup_cons] at nd
    rw [List.find?_cons]
    rcases List.mem_cons.mp h with rfl | h
    · rw [beq_self_eq_true]
    · have ne : (e.name == d.name) = false := by
        cases q : (e.name == d.name) with
        | false => rfl
        | true => exact absurd (List.mem_map.mpr ⟨d, h, (eq_of_beq q).symm⟩) nd.1
      rw [ne]
      exact ih nd.2 h
theorem name_find {l : List Df} {f : Str} {fd : Fd} (h : (tabOf l).find? (fun e => e.name == f) = some fd) : ∃ d ∈ l, d.fd = fd ∧ fd.name = f := by
  have h1 := List.mem_of_find?_eq_some h
  have h2 := List.find?_some h
  obtain ⟨d, hd, e⟩ := List.mem_map.mp h1
  exact ⟨d, hd, e, eq_of_beq h2⟩

section
variable {P : Program} {w : World} {K : PySem.W.Frag} {mg : Str → Option Value} {base : Heap} {ds : List Df} {glo : Str → Option D} {kd : Str → Option (List (Str × D))} {wf : Nat}
def pinsOf (vs : List V) (args : List Arg) (i : Nat) : Option Addr := match args[i]?, vs[i]? with
  | some (.bo _), some (.ref a) => some a
  | _, _ => none
theorem pinsOf_some {vs : List V} {args : List Arg} {i : Nat} {a : Addr} (h : pinsOf vs args i = some a) : ∃ o, args[i]? = some (.bo o) ∧ vs[i]? = some (.ref a) := by
  unfold pinsOf at h
  split at h
  · rename_i o b e1 e2
    cases h
    exact ⟨o, e1, e2⟩
  · cases h
theorem start_get {N : List Str} {vs : List V} {i : Nat} {v : V} (h : vs[i]? = some v) : (start N vs)[i]? = some (some v) := by
  obtain ⟨hi, e⟩ := List.getElem?_eq_some_iff.mp h
  unfold L2.start
  rw [List.getElem?_append_left (by simpa using hi), List.getElem?_map, h]
  rfl
theorem slots_get {args : List Arg} {k i : Nat} {s : Sl} (h : (args.map argSl ++ List.replicate k Sl.no)[i]? = some s) : (∃ a, args[i]? = some a ∧ s = argSl a) ∨ s = .no := by
  by_cases hi : i < args.length
  · rw [List.getElem?_append_left (by simpa using hi), List.getElem?_map] at h
    obtain ⟨a, e1, e2⟩ := Option.map_eq_some_iff.mp h
    exact .inl ⟨a, e1, e2.symm⟩
  · rw [List.getElem?_append_right (by simpa using Nat.le_of_not_lt hi), List.getElem?_replicate] at h
    split at h
    · cases h; exact .inr rfl
    · cases h
theorem slots_of {args : List Arg} {k i : Nat} {a : Arg} (h : args[i]? = some a) : (args.map argSl ++ List.replicate k Sl.no)[i]? = some (argSl a) := by
  obtain ⟨hi, e⟩ := List.getElem?_eq_some_iff.mp h
  rw [List.getElem?_append_left (by simpa using hi), List.getElem?_map, h]
  rfl
theorem own_slot {vs : List V} {args : List Arg} {N : List Str} {k i : Nat} {a : Addr} (hl : vs.length = args.length) (h : OwnAt (start N vs) (args.map argSl ++ List.replicate k Sl.no) i a) : ∃ o, args[i]? = some (.bo o) ∧ vs[i]? = some (.ref a) := by
  obtain ⟨e, s, hs, ho⟩ := h
  rcases slots_get hs with ⟨x, hx, rfl⟩ | rfl
  · cases x with
    | fr d => cases ho
    | bo o =>
      refine ⟨o, hx, ?_⟩
      have hi : i < vs.length := by rw [hl]; exact (List.getElem?_eq_some_iff.mp hx).1
      have e2 := start_get (N := N) (List.getElem?_eq_getElem hi)
      rw [e] at e2
      rw [List.getElem?_eq_getElem hi]
      have := Option.some.inj (Option.some.inj e2)
      rw [← this]
  · cases ho
theorem entry_ok {G H : Hp} {vs : List V} {args : List Arg} {N : List Str} (sg : Same G H) (a : ArgsOk K G H vs args) : StRep K (pinsOf vs args) H G H (start N vs) (args.map argSl ++ List.replicate (N.length - args.length) Sl.no) where
  pin := fun i a' h => by
    obtain ⟨o, e1, e2⟩ := pinsOf_some h
    exact ⟨start_get e2, _, slots_of e1, rfl⟩
  ali := fun _ z => z
  sub := sg
  len := by simp [L2.start, a.len]
  at_ := fun i s h => by
    rcases slots_get h with ⟨x, hx, rfl⟩ | rfl
    · cases x with
      | fr d => obtain ⟨v, e, r⟩ := a.fr i d hx; exact ⟨v, start_get e, r⟩
      | bo o => obtain ⟨b, e, r⟩ := a.bo i o hx; exact ⟨b, start_get e, r⟩
    · trivial
  inj := fun i j b h1 h2 => by
    obtain ⟨o, e1, e2⟩ := own_slot a.len h1
    obtain ⟨o', e3, e4⟩ := own_slot a.len h2
    exact a.inj i j o o' b e1 e3 e2 e4
theorem end_ok {G H G' H' : Hp} {σ' : St} {ρ' : List Sl} {vs : List V} {args : List Arg} {N : List Str} {m : Nat} (a : ArgsOk K G H vs args)
    (s : SI K (pinsOf vs args) H G H (start N vs) (args.map argSl ++ List.replicate (N.length - args.length) Sl.no) G' H' σ' ρ') : CallPost K G H vs args G' H' (ρ'.take m) where
  same := s.st.same
  sub := s.s1.sub
  keep := fun b o e n => s.st.keep b o e fun ⟨i, q⟩ => by
    obtain ⟨o', e1, e2⟩ := own_slot a.len q
    exact n ⟨i, o', e1, e2⟩
  alive := s.st.alive
  bs := fun i o b sl e1 e2 e3 => by
    have hp : pinsOf vs args i = some b := by unfold pinsOf; rw [e1, e2]
    obtain ⟨q1, s2, q2, q3⟩ := s.s1.pin i b hp
    have e4 : ρ'[i]? = some sl := by
      rw [List.getElem?_take] at e3
      split at e3
      · exact e3
      · cases e3
    rw [e4] at q2
    cases q2
    have q4 := s.s1.at_ i sl e4
    cases sl with
    | bor o' =>
      obtain ⟨b', z1, z2⟩ := q4
      rw [q1] at z1; cases z1
      exact .inl ⟨o', rfl, z2⟩
    | fz d =>
      obtain ⟨v, z1, z2⟩ := q4
      rw [q1] at z1; cases z1
      exact .inr ⟨d, rfl, z2⟩
    | no => cases q3
    | d d => cases q3
    | own o => cases q3

theorem defs_ok (T : TabOk ds) (M : ModOk K w mg ds glo kd) : ∀ (n : Nat) (d : Df), d ∈ ds → ∀ fa fdd, FunD K d.fd.name d.fd.name d.pa d.bo d.sc [] [] fa fdd →
    FnOk P w K mg base CX0 n fa fdd d.fd.ps (spF K (callN (tabOf ds) glo wf kd n) d.fd.name d.fd.ps.length)
  | 0, d, hd, fa, fdd, F => by
    have no : ∀ {vs H Q E}, spF K (callN (tabOf ds) glo wf kd 0) d.fd.name d.fd.ps.length vs H Q E → False := fun ⟨G, args, t, bs, _, _, e, _⟩ => by cases e
    exact ⟨fun vs H Q E h => (no h).elim, fun A outer s H args us vs Q E _ _ _ _ h => (no h).elim⟩
  | n + 1, d, hd, fa, fdd, F => by
    have ok := T.ok d hd
    unfold okD at ok
    rw [Bool.and_eq_true] at ok
    have S := scB_ok ok.1
    refine F.ok S (fun vs H Q E ⟨G, args, t, bs, _, _, _, l, _⟩ => l) fun cdv A outer s H vs Q E hr ⟨G, args, t, bs, sg, ao, e, l, q⟩ => ?_
    have hm : d.fd ∈ tabOf ds := List.mem_map.mpr ⟨d, hd, rfl⟩
    have e' : runF ⟨callN (tabOf ds) glo wf kd n, glo, wf, kd⟩ d.fd args = some (t, bs) := by
      unfold callN at e
      rw [find_name T.nd hm] at e
      exact e
    unfold runF at e'
    split at e'
    · rename_i hal
      obtain ⟨⟨fl, ρ'⟩, e1, e2⟩ := Option.bind_eq_some_iff.mp e'
      have c : CxOk n ⟨callN (tabOf ds) glo wf kd n, glo, wf, kd⟩ (sxOf ds d) (cxOf CX0 P w K mg base d.fd.N d.fd.name d.sc fa cdv A outer s H E).nox :=
        { calm := rfl, room := hr, N := rfl, nd := S.nd, sc := rfl, fn := rfl, xe := rfl
          gl := fun x _ d' h => M.gl x d' h, kd := M.kd, bl := M.bl
          fns := fun f np hf => by
            obtain ⟨fd2, h1, h2⟩ := Option.map_eq_some_iff.mp hf
            obtain ⟨d2, hd2, rfl, rfl⟩ := name_find h1
            obtain ⟨fa2, fdd2, F2, m2⟩ := M.df d2 hd2
            subst h2
            exact ⟨fa2, fdd2, d2.fd.ps, m2, F2.kp, F2.bindsN (T.bi d2 hd2), defs_ok T M n d2 hd2 fa2 fdd2 F2⟩ }
      refine ⟨tS K (pinsOf vs args) H (exSs ⟨callN (tabOf ds) glo wf kd n, glo, wf, kd⟩ d.fd.body), PSs.nox (sndSs (n := n) (B := pinsOf vs args) (H0 := H) d.fd.body S.kind c ok.2), ⟨G, _, fl, ρ', entry_ok sg ao, e1, fun σ' G' H' si => ?_⟩⟩
      have cp := end_ok (m := args.length) ao si
      cases fl with
      | nx => cases e2; exact q .non G' H' cp .non
      | bk => cases e2
      | ct => cases e2
      | rt t1 => cases t1 with
        | sl i => cases e2
        | d d1 => cases e2; exact fun v p => q v G' H' cp p
        | new o => cases e2; exact fun v p => q v G' H' cp p
    · cases e'
/-- a law of one list of ints -/
theorem law_sp {m : Nat} {call : Str → List Arg → Option (T × List Sl)} (h : ∀ ns : List Int, ns.length ≤ m → ∃ bs, call "law" [.fr (.rd (ns.map D.int))] = some (.d (.bl true), bs)) (H : Hp) (a : Addr) (ns : List Int) (hl : ns.length ≤ m) (hS : SqL K H a (ns.map V.int)) :
    spF K call "law" 1 [.ref a] H (fun v _ => v = .bl true) fun _ _ _ => False := by
  obtain ⟨bs, e⟩ := h ns hl
  refine ⟨H, _, _, bs, Same.refl _, ⟨rfl, fun i d hd => ?_, fun i o hd => ?_, fun i j o o' b hd => ?_⟩, e, rfl, fun v G' H' _ p => ?_⟩
  · cases i with
    | zero => cases hd; exact ⟨.ref a, rfl, .rd hS RepL.ints⟩
    | succ i => cases hd
  · cases i with
    | zero => cases hd
    | succ i => cases hd
  · cases i with
    | zero => cases hd
    | succ i => cases hd
  · cases (show Rep K G' v (.bl true) from p)
    rfl
end
end Fw

set_option maxHeartbeats 8000000
/-! Fw16: what the head must tell, and the module of it. -/
namespace Fw
open PySem PySem.Spec PyProof.Rows L2
mutual
def repB (K : PySem.W.Frag) : D → Value → Bool
  | .non, u => match u with
    | .none => true
    | _ => false
  | .bl b, u => match u with
    | .bool c => b == c
    | _ => false
  | .int i, u => match u with
    | .int j _ => decide (i = j)
    | _ => false
  | .str x, u => match u with
    | .str y _ => decide (x = y)
    | _ => false
  | .tup ds, u => match u with
    | .ref a => (match K.lookup a with
      | some ⟨.type c, _, .seq its _, _⟩ => decide (c = "tuple") && decide (its.size ≤ sizeLine) && repBs K ds its.toList
      | _ => false)
    | _ => false
  | .lst _, _ => false
  | .rd ds, u => match u with
    | .ref a => (match K.lookup a with
      | some ⟨.type c, none, .seq its _, _⟩ => decide (c = "list") && decide (its.size ≤ sizeLine) && repBs K ds its.toList
      | _ => false)
    | _ => false
def repBs (K : PySem.W.Frag) : List D → List Value → Bool
  | [], us => us.isEmpty
  | d :: ds, us => match us with
    | u :: us => repB K d u && repBs K ds us
    | [] => false
end
mutual
theorem repB_ok {K : PySem.W.Frag} : ∀ {d : D} {u : Value}, repB K d u = true → ∃ v, RelV v u ∧ ∀ G, Rep K G v d
  | .non, u, h => by
    unfold repB at h
    split at h
    · exact ⟨.non, rfl, fun _ => .non⟩
    · cases h
  | .bl b, u, h => by
    unfold repB at h
    split at h
    · exact ⟨.bl b, by rw [eq_of_beq h]; rfl, fun _ => .bl b⟩
    · cases h
  | .int i, u, h => by
    unfold repB at h
    split at h
    · rename_i j t
      exact ⟨.int i, ⟨t, by rw [of_decide_eq_true h]⟩, fun _ => .int i⟩
    · cases h
  | .str x, u, h => by
    unfold repB at h
    split at h
    · rename_i j t
      exact ⟨.str x, ⟨t, by rw [of_decide_eq_true h]⟩, fun _ => .str x⟩
    · cases h
  | .tup ds, u, h => by
    unfold repB at h
    split at h
    · rename_i a
      split at h
      · rename_i c od its n sl e
        simp only [Bool.and_eq_true, decide_eq_true_eq] at h
        obtain ⟨⟨rfl, h1⟩, h2⟩ := h
        obtain ⟨vs, r, q⟩ := repBs_ok h2
        exact ⟨.ref a, rfl, fun G => .tup (.inr ⟨_, its, n, e, rfl, rfl, h1, r⟩) (q G)⟩
      · cases h
    · cases h
  | .lst _, u, h => by
    unfold repB at h
    cases h
  | .rd ds, u, h => by
    unfold repB at h
    split at h
    · rename_i a
      split at h
      · rename_i c its n sl e
        simp only [Bool.and_eq_true, decide_eq_true_eq] at h
        obtain ⟨⟨rfl, h1⟩, h2⟩ := h
        obtain ⟨vs, r, q⟩ := repBs_ok h2
        exact ⟨.ref a, rfl, fun G => .rd (.inr ⟨_, its, n, e, rfl, rfl, rfl, h1, r⟩) (q G)⟩
      · cases h
    · cases h
theorem repBs_ok {K : PySem.W.Frag} : ∀ {ds : List D} {us : List Value}, repBs K ds us = true → ∃ vs, Vals vs us ∧ ∀ G, RepL K G vs ds
  | [], us, h => by
    unfold repBs at h
    cases us with
    | nil => exact ⟨[], .nil, fun _ => .nil⟩
    | cons => cases h
  | d :: ds, us, h => by
    unfold repBs at h
    cases us with
    | nil => cases h
    | cons u us =>
      rw [Bool.and_eq_true] at h
      obtain ⟨v, r, q⟩ := repB_ok h.1
      obtain ⟨vs, rs, qs⟩ := repBs_ok h.2
      exact ⟨v :: vs, .cons r rs, fun G => .cons (q G) (qs G)⟩
end
abbrev Glos := List (Str × D)
abbrev Kds := List (Str × List (Str × D))
def gloB (K : PySem.W.Frag) (q : Str × D) : Bool := match PySem.W.nsIn K mainGlobals q.1 with
  | some (some u) => repB K q.2 u
  | _ => false
def kdB (K : PySem.W.Frag) (q : Str × List (Str × D)) : Bool := (match PySem.W.nsIn K mainGlobals q.1 with
  | some (some (.ref _)) => true
  | _ => false) && q.2.all fun r => match PySem.W.nsIn K (He.ga K q.1) r.1 with
    | some (some u) => repB K r.2 u
    | _ => false
def exB (gs : Glos) (ks : Kds) (K : PySem.W.Frag) : Bool := gs.all (gloB K) && ks.all (kdB K)
def faOf (ds : List Df) : List He.Fa := (ds.map fun d => He.Fa.glo d.fd.name) ++ bltNames.map He.Fa.free
def fnOf (ds : List Df) : List He.DefD := ds.map fun d => ⟨(d.fd.name, none), d.fd.name, d.fd.name, d.pa, d.bo, d.sc, [], []⟩
def tsOf (ks : Kds) : List He.Tab := ks.map fun q => (fun K => He.ga K q.1, q.2.map (·.1))
abbrev hkOf (ds : List Df) (gs : Glos) (ks : Kds) : PySem.W.Hook := He.hookX 4 (faOf ds) (fnOf ds) (tsOf ks) [] (exB gs ks)
theorem lookup_mem' {α : Type} {l : List (Str × α)} {x : Str} {a : α} (h : l.lookup x = some a) : (x, a) ∈ l := PySem.mem_of_lookup h
theorem modOk_of {K : PySem.W.Frag} {w : World} {h : Heap} {mg : Str → Option Value} {ds : List Df} {gs : Glos} {ks : Kds} (X : K.In h) (G : h.Ns mainGlobals mg) (c : He.SaysX (faOf ds) (fnOf ds) (tsOf ks) [] (exB gs ks) w h K) :
    ModOk K w mg ds (fun x => gs.lookup x) (fun x => ks.lookup x) where
  df := fun d hd => by
    have h1 : (⟨(d.fd.name, none), d.fd.name, d.fd.name, d.pa, d.bo, d.sc, [], []⟩ : He.DefD) ∈ fnOf ds := List.mem_map.mpr ⟨d, hd, rfl⟩
    obtain ⟨fdd, F⟩ := He.SaysD.defs c.t.d h1
    have h2 : He.Fa.glo d.fd.name ∈ faOf ds := List.mem_append_left _ (List.mem_map.mpr ⟨d, hd, rfl⟩)
    exact ⟨_, fdd, F, He.glo_ok X G (He.SaysD.facts c.t.d h2)⟩
  gl := fun x d e => by
    have m := lookup_mem' e
    have h1 := c.more
    unfold exB at h1
    rw [Bool.and_eq_true] at h1
    have h2 := List.all_eq_true.mp h1.1 _ m
    unfold gloB at h2
    split at h2
    · rename_i u q
      obtain ⟨v, r, z⟩ := repB_ok h2
      exact ⟨u, v, PySem.W.mg_of X G q, r, z⟩
    · cases h2
  kd := fun x kv e => by
    have m := lookup_mem' e
    have h1 := c.more
    unfold exB at h1
    rw [Bool.and_eq_true] at h1
    have h2 := List.all_eq_true.mp h1.2 _ m
    unfold kdB at h2
    rw [Bool.and_eq_true] at h2
    obtain ⟨h3, h4⟩ := h2
    split at h3
    · rename_i p q
      have ga : He.ga K x = p := by unfold He.ga; rw [q]
      refine ⟨p, PySem.W.mg_of X G q, fun z d ez => ?_⟩
      have h5 := List.all_eq_true.mp h4 _ (lookup_mem' ez)
      split at h5
      · rename_i u q2
        obtain ⟨v, r, w'⟩ := repB_ok h5
        obtain ⟨i, hi, ei⟩ := List.mem_iff_getElem.mp m
        have ht : (tsOf ks)[i]? = some ((fun K => He.ga K x, kv.map (·.1)) : He.Tab) := by
          unfold tsOf
          rw [List.getElem?_map, List.getElem?_eq_getElem hi, ei]
          rfl
        obtain ⟨es, n, D⟩ := He.SaysT.tab c.t i ht
        have D' : KDict K w p es n := ga ▸ D
        have q3 : PySem.W.nsIn K p z = some (some u) := ga ▸ q2
        exact ⟨v, ⟨es, n, u, D'.at_, D'.lit, q3, r⟩, w'⟩
      · cases h5
    · cases h3
  bl := fun x e => by
    have h1 : He.Fa.free x ∈ faOf ds := List.mem_append_right _ (List.mem_map.mpr ⟨x, by simpa using e, rfl⟩)
    exact He.free_ok X G (He.SaysD.facts c.t.d h1)
/-- a law of one list: by its table, its module's facts and the plain law -/
theorem law_by {l : PySem.W.OpenLaw} {ds : List Df} {gs : Glos} {ks : Kds} {n m : Nat} {q : Program} {loose : List Str} {XP : (Str → Option Value) → Heap → Prop} {d : DefRec} {dl : Df} {wf : Nat}
    (hm : l.most = some m) (hm2 : m ≤ sizeLine) (hdf : d.params.defaults = []) (hr : Room n callerA) (hn : d.name = ("law" : Str)) (T : TabOk ds) (hd : dl ∈ ds) (hl : dl.fd.name = ("law" : Str)) (hp : dl.fd.ps = [("script" : Str)])
    (plain : ∀ ns : List Int, ns.length ≤ m → ∃ bs, callN (tabOf ds) (fun x => gs.lookup x) wf (fun x => ks.lookup x) n "law" [.fr (.rd (ns.map D.int))] = some (.d (.bl true), bs)) :
    PySem.W.WalkO q loose XP (hkOf ds gs ks).says l.row.toRowW d [] (fun f vs => PySem.call f vs) := by
  refine L2.walk_ofE (l := l) (n := m) (k := n) (x := "script") (CX := L2.CX0) hm hm2 hdf hr ?F (fun _ _ _ _ z => z)
  intro w mg fa h Y G hmg0
  obtain ⟨K, KX, c⟩ := Y
  rw [hn] at hmg0
  have M := modOk_of KX G c
  obtain ⟨fa2, fdd, F, m2⟩ := M.df dl hd
  rw [hl, hmg0] at m2
  cases m2
  have b := FunD.bindsA (ps := dl.fd.ps) F (T.bi dl hd)
  refine ⟨K, fdd, spF K (callN (tabOf ds) (fun x => gs.lookup x) wf (fun x => ks.lookup x) n) "law" 1, KX, fun s v => ?_, fun H a ns hn _ hS => law_sp plain H a ns hn hS, fun base _ _ => ?_⟩
  · have z := b s [v] (by rw [hp]; rfl)
    rw [hp] at z
    exact z
  · have z := defs_ok (P := l.prog) (w := w) (base := base) (wf := wf) T M n dl hd fa fdd F
    rw [hl, hp] at z
    exact z
end Fw

set_option maxHeartbeats 1000000
/-! Fw17: the evaluator, step by step. -/
namespace Fw
open PySem PySem.Spec PyProof.Rows L2
theorem nrfl {α : Type} {a b : α} (h : a = b) : a = b := h
/-! what follows waits in an argument that simp does not enter -/
class Kont (α β : Type) where
  f : α → Option β
def bnd {α β : Type} (x : Option α) [k : Kont α β] : Option β := x.bind k.f
theorem bnd_eq {α β : Type} {x : Option α} {g : α → Option β} : @bnd α β x ⟨g⟩ = x.bind g := rfl
@[simp ↓] theorem bind_bnd {α β : Type} {x : Option α} {g : α → Option β} : x.bind g = @bnd α β x ⟨g⟩ := nrfl rfl
@[simp ↓] theorem map_to_bnd {α β : Type} {x : Option α} {g : α → β} : x.map g = @bnd α β x ⟨fun a => some (g a)⟩ := by
  cases x <;> rfl
@[simp] theorem bnd_some {α β : Type} {a : α} {g : α → Option β} : @bnd α β (some a) ⟨g⟩ = g a := nrfl rfl
@[simp] theorem bnd_none {α β : Type} {k : Kont α β} : @bnd α β none k = none := nrfl rfl
class ForB where
  f : List Sl → Rs Fl
def forK [b : ForB] (tg : Tg) (ds : List D) (ρ : List Sl) : Rs Fl := forS b.f tg ds ρ
@[simp ↓] theorem forS_forK {f : List Sl → Rs Fl} {tg : Tg} {ds : List D} {ρ : List Sl} : forS f tg ds ρ = @forK ⟨f⟩ tg ds ρ := nrfl rfl
class TurnB where
  f : D → List Sl → Rs (List D)
def turnsK [b : TurnB] (ds : List D) (ρ : List Sl) : Rs (List D) := turns b.f ds ρ
@[simp ↓] theorem turns_turnsK {F : D → List Sl → Rs (List D)} {ds : List D} {ρ : List Sl} : turns F ds ρ = @turnsK ⟨F⟩ ds ρ := nrfl rfl
def rdV (s : Sl) (i : Nat) (ρ : List Sl) : Rs T := match s with
  | .d d => some (.d d, ρ)
  | .own _ => some (.sl i, ρ)
  | .bor _ => some (.sl i, ρ)
  | .fz d => some (.d d, ρ)
  | .no => none
def thenS (q : Fl × List Sl) (k : List Sl → Rs Fl) : Rs Fl := match q.1 with
  | .nx => k q.2
  | _ => some q
section
variable {C : Cfg} {ρ : List Sl}
@[simp] theorem rdV_d {d : D} {i : Nat} : rdV (.d d) i ρ = some (.d d, ρ) := nrfl rfl
@[simp] theorem rdV_own {o : O} {i : Nat} : rdV (.own o) i ρ = some (.sl i, ρ) := nrfl rfl
@[simp] theorem rdV_bor {o : O} {i : Nat} : rdV (.bor o) i ρ = some (.sl i, ρ) := nrfl rfl
@[simp] theorem rdV_fz {d : D} {i : Nat} : rdV (.fz d) i ρ = some (.d d, ρ) := nrfl rfl
@[simp] theorem thenS_nx {k : List Sl → Rs Fl} : thenS (.nx, ρ) k = k ρ := nrfl rfl
@[simp] theorem thenS_bk {k : List Sl → Rs Fl} : thenS (.bk, ρ) k = some (.bk, ρ) := nrfl rfl
@[simp] theorem thenS_ct {k : List Sl → Rs Fl} : thenS (.ct, ρ) k = some (.ct, ρ) := nrfl rfl
@[simp] theorem thenS_rt {t : T} {k : List Sl → Rs Fl} : thenS (.rt t, ρ) k = some (.rt t, ρ) := nrfl rfl
@[simp] theorem ev_var {i : Nat} : evE C (.var i) ρ = (ρ[i]?).bind fun s => rdV s i ρ := by
  simp only [evE]
  rfl
@[simp] theorem ev_non : evE C .non ρ = some (.d .non, ρ) := by simp only [evE]
@[simp] theorem ev_bl {b : Bool} : evE C (.bl b) ρ = some (.d (.bl b), ρ) := by simp only [evE]
@[simp] theorem ev_int {i : Int} : evE C (.int i) ρ = some (.d (.int i), ρ) := by simp only [evE]
@[simp] theorem ev_str {s : Str} : evE C (.str s) ρ = some (.d (.str s), ρ) := by simp only [evE]
@[simp] theorem ev_glo {x : Str} : evE C (.glo x) ρ = (C.glo x).map fun d => (.d d, ρ) := by simp only [evE]
@[simp] theorem ev_bin {op : Operator} {a b : IE} : evE C (.bin op a b) ρ = (evE C a ρ).bind fun r => (evE C b r.2).bind fun s => vw2 (binF op) s.2 r.1 s.1 := by simp only [evE]
@[simp] theorem ev_neg {a : IE} : evE C (.neg a) ρ = (evE C a ρ).bind fun r => vw1 negF r.2 r.1 := by simp only [evE]
@[simp] theorem ev_cmp {op : CmpOp} {a b : IE} : evE C (.cmp op a b) ρ = (evE C a ρ).bind fun r => (evE C b r.2).bind fun s => vw2 (fun x y => dB (cmpF op x y)) s.2 r.1 s.1 := by simp only [evE]
@[simp] theorem ev_and {a b : IE} : evE C (.and_ a b) ρ = (asB (evE C a ρ)).bind fun r => if r.1 then evE C b r.2 else some (.d (.bl false), r.2) := by simp only [evE]
@[simp] theorem ev_or {a b : IE} : evE C (.or_ a b) ρ = (asB (evE C a ρ)).bind fun r => if r.1 then some (.d (.bl true), r.2) else evE C b r.2 := by simp only [evE]
@[simp] theorem ev_one {a : IE} : evE C (.one a) ρ = evE C a ρ := by simp only [evE]
@[simp] theorem ev_not {a : IE} : evE C (.not_ a) ρ = (asB (evE C a ρ)).bind fun r => some (.d (.bl (!r.1)), r.2) := by simp only [evE]
@[simp] theorem ev_ife {c a b : IE} : evE C (.ife c a b) ρ = (asB (evE C c ρ)).bind fun r => if r.1 then evE C a r.2 else evE C b r.2 := by simp only [evE]
@[simp] theorem ev_ix {a b : IE} : evE C (.ix a b) ρ = (evE C a ρ).bind fun r => (evE C b r.2).bind fun s => vw2 ixF s.2 r.1 s.1 := by simp only [evE]
@[simp] theorem ev_kix {x : Str} {a : IE} : evE C (.kix x a) ρ = (C.kd x).bind fun kv => (evE C a ρ).bind fun r => vw1 (kixF kv) r.2 r.1 := by simp only [evE]
@[simp] theorem ev_slc {a lo hi : IE} : evE C (.slc a lo hi) ρ = (evE C a ρ).bind fun r => (asP lo.isNop (evE C lo r.2) r.2).bind fun l => (asP hi.isNop (evE C hi l.2) l.2).bind fun h => vw1 (fun x => slF x l.1 h.1) h.2 r.1 := by simp only [evE]
@[simp] theorem ev_frz {a : IE} : evE C (.frz a) ρ = (asD (evE C a ρ)).map fun r => (.d r.1, r.2) := by simp only [evE]
@[simp] theorem ev_tup {as : IAs} : evE C (.tup as) ρ = (evA C 2 as ρ).bind fun r => (tupF r.1).map fun t => (t, r.2) := by simp only [evE]
@[simp] theorem ev_lst {as : IAs} : evE C (.lst as) ρ = (evA C 2 as ρ).bind fun r => (lstF r.1).map fun t => (t, r.2) := by simp only [evE]
@[simp] theorem ev_call {f : Str} {as : IAs} : evE C (.call f as) ρ = (evA C 0 as ρ).bind fun r => callF C.call f r.1 r.2 := by simp only [evE]
@[simp] theorem ev_blt {f : Bl} {as : IAs} : evE C (.blt f as) ρ = (evA C 0 as ρ).bind fun r => vws (bltF f) r.2 r.1 := by simp only [evE]
@[simp] theorem ev_isi {a : IE} {ts : List Fw.Ty} : evE C (.isi a ts) ρ = (evE C a ρ).bind fun r => vw1 (fun d => dB (isiF d ts)) r.2 r.1 := by simp only [evE]
@[simp] theorem ev_rngs {f : Bool} {as : IAs} : evE C (.rngs f as) ρ = (evA C 0 as ρ).bind fun r => vws (rngsF f) r.2 r.1 := by simp only [evE]
@[simp] theorem ev_lrev {a : IE} : evE C (.lrev a) ρ = (evE C a ρ).bind fun r => vw1 lrevF r.2 r.1 := by simp only [evE]
@[simp] theorem ev_mth {m : Mt} {o : IE} {as : IAs} : evE C (.mth m o as) ρ = (evE C o ρ).bind fun r => (slOf r.1).bind fun i => (evA C (if m = .append then 2 else 0) as r.2).bind fun s => mthF m i s.1 s.2 := by simp only [evE]
@[simp] theorem ev_anil {m : Nat} : evA C m .nil ρ = some ([], ρ) := by simp only [evA]
@[simp] theorem ev_acons {m : Nat} {a : IE} {r : IAs} : evA C m (.cons a r) ρ = (evE C a ρ).bind fun x => (taken m x.2 x.1).bind fun y => (evA C m r y.2).bind fun z => some (y.1 :: z.1, z.2) := by simp only [evA]
@[simp] theorem ev_seq {e : IE} : evI C (.seq e) ρ = (asD (evE C e ρ)).bind fun r => (items r.1).map fun xs => (xs, r.2) := by simp only [evI]
@[simp] theorem ev_rng {as : IAs} : evI C (.rng as) ρ = (evA C 0 as ρ).bind fun r => (views r.2 r.1).bind fun ds => (rngF ds).map fun xs => (xs, r.2) := by simp only [evI]
@[simp] theorem ev_zip {a b : IE} : evI C (.zip a b) ρ = (asD (evE C a ρ)).bind fun r => (asD (evE C b r.2)).bind fun s => (zipF r.1 s.1).map fun xs => (xs, s.2) := by simp only [evI]
@[simp] theorem ev_enm {a : IE} : evI C (.enm a) ρ = (asD (evE C a ρ)).bind fun r => (enmF r.1).map fun xs => (xs, r.2) := by simp only [evI]
@[simp] theorem ev_rev {a : IE} : evI C (.rev a) ρ = (asD (evE C a ρ)).bind fun r => (seqOf r.1).map fun xs => (xs.reverse, r.2) := by simp only [evI]
@[simp] theorem ex_asg {i : Nat} {e : IE} : exS C (.asg i e) ρ = (evE C e ρ).bind fun r => (store r.2 i r.1).map fun ρ2 => (.nx, ρ2) := by simp only [exS]
@[simp] theorem ex_asgT {t : Tg} {e : IE} : exS C (.asgT t e) ρ = (asD (evE C e ρ)).bind fun r => (bindT t r.1 r.2).map fun ρ2 => (.nx, ρ2) := by simp only [exS]
@[simp] theorem ex_setI {o i e : IE} : exS C (.setI o i e) ρ = (asD (evE C e ρ)).bind fun r => (evE C o r.2).bind fun s => (slOf s.1).bind fun j => (asD (evE C i s.2)).bind fun k => (setF k.2 j k.1 r.1).map fun ρ2 => (.nx, ρ2) := by simp only [exS]
@[simp] theorem ex_ex {e : IE} : exS C (.ex e) ρ = (evE C e ρ).bind fun r => some (.nx, r.2) := by simp only [exS]
@[simp] theorem ex_if {c : IE} {a b : ISs} : exS C (.if_ c a b) ρ = (asB (evE C c ρ)).bind fun r => if r.1 then exSs C a r.2 else exSs C b r.2 := by simp only [exS]
@[simp] theorem ex_for {t : Tg} {it : II} {b : ISs} : exS C (.for_ t it b) ρ = (evI C it ρ).bind fun r => forS (fun ρ => exSs C b ρ) t r.1 r.2 := by simp only [exS]
@[simp] theorem ex_ret {e : IE} : exS C (.ret e) ρ = (evE C e ρ).bind fun r => (retT r.2 r.1).map fun s => (.rt s.1, s.2) := by simp only [exS]
@[simp] theorem ex_retN : exS C .retN ρ = some (.rt (.d .non), ρ) := by simp only [exS]
@[simp] theorem ex_brk : exS C .brk ρ = some (.bk, ρ) := by simp only [exS]
@[simp] theorem ex_cnt : exS C .cnt ρ = some (.ct, ρ) := by simp only [exS]
@[simp] theorem ex_pass : exS C .pass ρ = some (.nx, ρ) := by simp only [exS]
@[simp] theorem ex_nil : exSs C .nil ρ = some (.nx, ρ) := by simp only [exSs]
@[simp] theorem ex_cons {s : IS} {r : ISs} : exSs C (.cons s r) ρ = (exS C s ρ).bind fun q => thenS q fun ρ' => exSs C r ρ' := by
  simp only [exSs]
  rfl
end
/-! ### the steps, on what is known -/
section
variable {ρ : List Sl}
@[simp] theorem asB_some {b : Bool} : asB (some (.d (.bl b), ρ)) = some (b, ρ) := nrfl rfl
@[simp] theorem asD_d {d : D} : asD (some (.d d, ρ)) = some (d, ρ) := nrfl rfl
@[simp] theorem asD_new {o : O} : asD (some (.new o, ρ)) = some (o.frz, ρ) := nrfl rfl
@[simp] theorem frz_lst {xs : List D} : (O.lst xs).frz = .lst xs := nrfl rfl
@[simp] theorem view_lst {xs : List D} : (O.lst xs).view = .lst xs := nrfl rfl
@[simp] theorem asC_nop {r : Rs T} : asC true r ρ = some (true, ρ) := nrfl rfl
@[simp] theorem asC_not {r : Rs T} : asC false r ρ = asB r := nrfl rfl
@[simp] theorem asP_nop {r : Rs T} : asP true r ρ = some (none, ρ) := nrfl rfl
@[simp] theorem asP_int {i : Int} : asP false (some (.d (.int i), ρ)) ρ' = some (some i, ρ) := nrfl rfl
@[simp] theorem view_d {d : D} : view ρ (.d d) = some d := nrfl rfl
@[simp] theorem view_new {o : O} : view ρ (.new o) = some o.view := nrfl rfl
@[simp] theorem taken_0 {t : T} : taken 0 ρ t = some (t, ρ) := nrfl rfl
@[simp] theorem taken_2d {d : D} : taken 2 ρ (.d d) = some (.d d, ρ) := nrfl rfl
@[simp] theorem taken_2n {o : O} : taken 2 ρ (.new o) = some (.d o.frz, ρ) := nrfl rfl
@[simp] theorem dB_sm {b : Bool} : dB (some b) = some (.d (.bl b)) := nrfl rfl
@[simp] theorem retT_d {d : D} : retT ρ (.d d) = some (.d d, ρ) := nrfl rfl
@[simp] theorem retT_new {o : O} : retT ρ (.new o) = some (.new o, ρ) := nrfl rfl
@[simp] theorem slOf_sl {i : Nat} : slOf (.sl i) = some i := nrfl rfl
@[simp] theorem slOf_d {d : D} : slOf (.d d) = none := nrfl rfl
@[simp] theorem nop_nop : IE.isNop .nop = true := nrfl rfl
theorem vw2_dd {f : D → D → Option T} {x y : D} : vw2 f ρ (.d x) (.d y) = (f x y).map fun z => (z, ρ) := rfl
theorem vw1_d {f : D → Option T} {x : D} : vw1 f ρ (.d x) = (f x).map fun z => (z, ρ) := rfl
end

/-! ### data -/
section
variable {ρ : List Sl}
theorem ixN_nat {n k : Nat} (h : k < n) : ixN n (k : Int) = some k := by
  unfold ixN
  rw [if_pos (by omega), if_pos (by omega), Int.toNat_natCast]
theorem atI_nat {α : Type} {xs : List α} {k : Nat} (h : k < xs.length) : atI xs (k : Int) = some xs[k] := by
  unfold atI
  rw [ixN_nat h]
  exact List.getElem?_eq_getElem h
@[simp] theorem atI_0 {α : Type} {x : α} {xs : List α} : atI (x :: xs) 0 = some x := atI_nat (k := 0) (by simp)
@[simp] theorem atI_1 {α : Type} {x y : α} {xs : List α} : atI (x :: y :: xs) 1 = some y := atI_nat (k := 1) (xs := x :: y :: xs) (by simp)
@[simp] theorem atI_2 {α : Type} {x y z : α} {xs : List α} : atI (x :: y :: z :: xs) 2 = some z := atI_nat (k := 2) (xs := x :: y :: z :: xs) (by simp)
@[simp] theorem atI_3 {α : Type} {x y z u : α} {xs : List α} : atI (x :: y :: z :: u :: xs) 3 = some u := atI_nat (k := 3) (xs := x :: y :: z :: u :: xs) (by simp)
@[simp] theorem vw2_dd' {f : D → D → Option T} {x y : D} : vw2 f ρ (.d x) (.d y) = (f x y).map fun z => (z, ρ) := nrfl rfl
@[simp] theorem vw2_dn {f : D → D → Option T} {x : D} {y : List D} : vw2 f ρ (.d x) (.new (.lst y)) = (f x (.lst y)).map fun z => (z, ρ) := nrfl rfl
@[simp] theorem vw2_nd {f : D → D → Option T} {y : D} {x : List D} : vw2 f ρ (.new (.lst x)) (.d y) = (f (.lst x) y).map fun z => (z, ρ) := nrfl rfl
@[simp] theorem vw2_nn {f : D → D → Option T} {x y : List D} : vw2 f ρ (.new (.lst x)) (.new (.lst y)) = (f (.lst x) (.lst y)).map fun z => (z, ρ) := nrfl rfl
@[simp] theorem vw1_d' {f : D → Option T} {x : D} : vw1 f ρ (.d x) = (f x).map fun z => (z, ρ) := nrfl rfl
@[simp] theorem vw1_n {f : D → Option T} {x : List D} : vw1 f ρ (.new (.lst x)) = (f (.lst x)).map fun z => (z, ρ) := nrfl rfl
@[simp] theorem vws_nil {f : List D → Option T} : vws f ρ [] = (f []).map fun z => (z, ρ) := nrfl rfl
@[simp] theorem vws_1 {f : List D → Option T} {x : D} : vws f ρ [.d x] = (f [x]).map fun z => (z, ρ) := nrfl rfl
@[simp] theorem vws_1n {f : List D → Option T} {x : List D} : vws f ρ [.new (.lst x)] = (f [.lst x]).map fun z => (z, ρ) := nrfl rfl
@[simp] theorem vws_2 {f : List D → Option T} {x y : D} : vws f ρ [.d x, .d y] = (f [x, y]).map fun z => (z, ρ) := nrfl rfl
@[simp] theorem views_nil : views ρ [] = some [] := nrfl rfl
@[simp] theorem views_1 {x : D} : views ρ [.d x] = some [x] := nrfl rfl
@[simp] theorem views_1n {x : List D} : views ρ [.new (.lst x)] = some [.lst x] := nrfl rfl
@[simp] theorem views_2 {x y : D} : views ρ [.d x, .d y] = some [x, y] := nrfl rfl
@[simp] theorem ixF_tup {xs : List D} {i : Int} : ixF (.tup xs) (.int i) = (atI xs i).map .d := nrfl rfl
@[simp] theorem ixF_lst {xs : List D} {i : Int} : ixF (.lst xs) (.int i) = (atI xs i).map .d := nrfl rfl
@[simp] theorem ixF_rd {xs : List D} {i : Int} : ixF (.rd xs) (.int i) = (atI xs i).map .d := nrfl rfl
@[simp] theorem bin_addi {i j : Int} : binF .Add (.int i) (.int j) = some (.d (.int (i + j))) := nrfl rfl
@[simp] theorem bin_subi {i j : Int} : binF .Sub (.int i) (.int j) = some (.d (.int (i - j))) := nrfl rfl
@[simp] theorem bin_addt {xs ys : List D} : binF .Add (.tup xs) (.tup ys) = if xs.length + ys.length ≤ sizeLine then some (.d (.tup (xs ++ ys))) else none := nrfl rfl
@[simp] theorem bin_addl {xs ys : List D} : binF .Add (.lst xs) (.lst ys) = if xs.length + ys.length ≤ sizeLine then some (.new (.lst (xs ++ ys))) else none := nrfl rfl
@[simp] theorem cmp_lt {i j : Int} : cmpF .Lt (.int i) (.int j) = some (decide (i < j)) := nrfl rfl
@[simp] theorem cmp_le {i j : Int} : cmpF .LtE (.int i) (.int j) = some (decide (i ≤ j)) := nrfl rfl
@[simp] theorem cmp_gt {i j : Int} : cmpF .Gt (.int i) (.int j) = some (decide (j < i)) := nrfl rfl
@[simp] theorem cmp_ge {i j : Int} : cmpF .GtE (.int i) (.int j) = some (decide (j ≤ i)) := nrfl rfl
@[simp] theorem cmp_eqi {i j : Int} : cmpF .Eq (.int i) (.int j) = some (decide (i = j)) := nrfl rfl
@[simp] theorem cmp_eqs {i j : Str} : cmpF .Eq (.str i) (.str j) = some (decide (i = j)) := nrfl rfl
@[simp] theorem cmp_nei {i j : Int} : cmpF .NotEq (.int i) (.int j) = some (!decide (i = j)) := nrfl rfl
@[simp] theorem cmp_nes {i j : Str} : cmpF .NotEq (.str i) (.str j) = some (!decide (i = j)) := nrfl rfl
@[simp] theorem isi_1 {d : D} {t : Fw.Ty} : isiF d [t] = (d.isTy t).map fun a => a || false := by
  unfold isiF
  cases d.isTy t <;> rfl
@[simp] theorem ty_str {s : Str} {t : Fw.Ty} : (D.str s).isTy t = some (decide (t = .str)) := nrfl rfl
@[simp] theorem ty_int {s : Int} {t : Fw.Ty} : (D.int s).isTy t = some (decide (t = .int)) := nrfl rfl
@[simp] theorem ty_tup {s : List D} {t : Fw.Ty} : (D.tup s).isTy t = some (decide (t = .tuple)) := nrfl rfl
@[simp] theorem ty_lst {s : List D} {t : Fw.Ty} : (D.lst s).isTy t = some (decide (t = .list)) := nrfl rfl
@[simp] theorem ty_bl {s : Bool} {t : Fw.Ty} : (D.bl s).isTy t = some (decide (t = .bool) || decide (t = .int)) := nrfl rfl
@[simp] theorem ty_non {t : Fw.Ty} : D.non.isTy t = some false := nrfl rfl
@[simp] theorem blt_lent {xs : List D} : bltF .len [.tup xs] = some (.d (.int xs.length)) := nrfl rfl
@[simp] theorem blt_lenl {xs : List D} : bltF .len [.lst xs] = some (.d (.int xs.length)) := nrfl rfl
@[simp] theorem blt_lenr {xs : List D} : bltF .len [.rd xs] = some (.d (.int xs.length)) := nrfl rfl
@[simp] theorem blt_inti {i : Int} : bltF .int [.int i] = some (.d (.int i)) := nrfl rfl
@[simp] theorem blt_abs {i : Int} : bltF .abs [.int i] = some (.d (.int (if i < 0 then -i else i))) := nrfl rfl
@[simp] theorem blt_min {i j : Int} : bltF .min [.int i, .int j] = some (.d (.int (if j < i then j else i))) := nrfl rfl
@[simp] theorem blt_tupt {xs : List D} : bltF .tuple [.tup xs] = some (.d (.tup xs)) := nrfl rfl
@[simp] theorem blt_tupl {xs : List D} : bltF .tuple [.lst xs] = some (.d (.tup xs)) := nrfl rfl
@[simp] theorem blt_lstt {xs : List D} : bltF .list [.tup xs] = some (.new (.lst xs)) := nrfl rfl
@[simp] theorem blt_lstl {xs : List D} : bltF .list [.lst xs] = some (.new (.lst xs)) := nrfl rfl
@[simp] theorem neg_int {i : Int} : negF (.int i) = some (.d (.int (-i))) := nrfl rfl
@[simp] theorem Ds_nil : Ds [] = some [] := nrfl rfl
@[simp] theorem Ds_cons {d : D} {ts : List T} : Ds (.d d :: ts) = (Ds ts).map (d :: ·) := nrfl rfl
theorem tupF_ok {ts : List T} {ds : List D} (h : Ds ts = some ds) (hl : ds.length ≤ sizeLine) : tupF ts = some (.d (.tup ds)) := by
  unfold tupF
  rw [h]
  exact if_pos hl
theorem lstF_ok {ts : List T} {ds : List D} (h : Ds ts = some ds) (hl : ds.length ≤ sizeLine) : lstF ts = some (.new (.lst ds)) := by
  unfold lstF
  rw [h]
  exact if_pos hl
theorem szl : (10 : Nat) ≤ sizeLine := by decide
@[simp] theorem tupF_1 {a : D} : tupF [.d a] = some (.d (.tup [a])) := tupF_ok rfl (Nat.le_trans (by decide : 1 ≤ 10) szl)
@[simp] theorem tupF_2 {a b : D} : tupF [.d a, .d b] = some (.d (.tup [a, b])) := tupF_ok rfl (Nat.le_trans (by decide : 2 ≤ 10) szl)
@[simp] theorem tupF_3 {a b c : D} : tupF [.d a, .d b, .d c] = some (.d (.tup [a, b, c])) := tupF_ok rfl (Nat.le_trans (by decide : 3 ≤ 10) szl)
@[simp] theorem tupF_4 {a b c d : D} : tupF [.d a, .d b, .d c, .d d] = some (.d (.tup [a, b, c, d])) := tupF_ok rfl (Nat.le_trans (by decide : 4 ≤ 10) szl)
@[simp] theorem tupF_0 : tupF [] = some (.d (.tup [])) := tupF_ok rfl (Nat.zero_le _)
@[simp] theorem lstF_0 : lstF [] = some (.new (.lst [])) := lstF_ok rfl (Nat.zero_le _)
@[simp] theorem lstF_1 {a : D} : lstF [.d a] = some (.new (.lst [a])) := lstF_ok rfl (Nat.le_trans (by decide : 1 ≤ 10) szl)
@[simp] theorem lstF_2 {a b : D} : lstF [.d a, .d b] = some (.new (.lst [a, b])) := lstF_ok rfl (Nat.le_trans (by decide : 2 ≤ 10) szl)
@[simp] theorem lstF_3 {a b c : D} : lstF [.d a, .d b, .d c] = some (.new (.lst [a, b, c])) := lstF_ok rfl (Nat.le_trans (by decide : 3 ≤ 10) szl)
/-! ### calls -/
/-- a def that changes no argument, at depth n -/
def Pure (call : Str → List Fw.Arg → Option (T × List Sl)) (f : Str) (ds : List D) (r : D) : Prop := ∃ bs, call f (ds.map .fr) = some (.d r, bs) ∧ bs.length = ds.length
theorem backs_d : ∀ {ds : List D} {bs : List Sl}, bs.length = ds.length → backs ρ (ds.map T.d) bs = some []
  | [], [], _ => rfl
  | d :: ds, b :: bs, h => backs_d (ds := ds) (bs := bs) (by simpa using h)
theorem toArgs_d : ∀ {ds : List D}, toArgs ρ (ds.map T.d) = some (ds.map .fr)
  | [] => rfl
  | d :: ds => by
    show (match some (Fw.Arg.fr d), toArgs ρ (ds.map T.d) with
      | some a, some as => some (a :: as)
      | _, _ => none) = _
    rw [toArgs_d (ds := ds)]
    rfl
theorem lent_d : ∀ {ds : List D}, lent ρ (ds.map T.d) = []
  | [] => rfl
  | d :: ds => lent_d (ds := ds)
theorem news_d : ∀ {ds : List D}, news (ds.map T.d) = 0
  | [] => rfl
  | d :: ds => news_d (ds := ds)
theorem call_pure {call : Str → List Fw.Arg → Option (T × List Sl)} {f : Str} {ds : List D} {r : D} (h : Pure call f ds r) : callF call f (ds.map T.d) ρ = some (.d r, ρ) := by
  obtain ⟨bs, e, l⟩ := h
  unfold callF
  rw [toArgs_d, lent_d, news_d]
  simp [e, backs_d l, setAll]
theorem call_p1 {call : Str → List Fw.Arg → Option (T × List Sl)} {f : Str} {a r : D} (h : Pure call f [a] r) : callF call f [.d a] ρ = some (.d r, ρ) := call_pure h
theorem call_p2 {call : Str → List Fw.Arg → Option (T × List Sl)} {f : Str} {a b r : D} (h : Pure call f [a, b] r) : callF call f [.d a, .d b] ρ = some (.d r, ρ) := call_pure h
theorem call_p3 {call : Str → List Fw.Arg → Option (T × List Sl)} {f : Str} {a b c r : D} (h : Pure call f [a, b, c] r) : callF call f [.d a, .d b, .d c] ρ = some (.d r, ρ) := call_pure h
end

/-! ### loops -/
section
variable {ρ : List Sl}
theorem forS_ind {f : List Sl → Rs Fl} {tg : Tg} (P : Nat → List Sl → Prop) : ∀ (ds : List D) (ρ : List Sl) (k : Nat), P k ρ →
    (∀ i (hi : i < ds.length) ρ, P (k + i) ρ → ∃ ρ1 ρ2 fl, bindT tg ds[i] ρ = some ρ1 ∧ f ρ1 = some (fl, ρ2) ∧ (fl = .nx ∨ fl = .ct) ∧ P (k + i + 1) ρ2) → ∃ ρ', forS f tg ds ρ = some (.nx, ρ') ∧ P (k + ds.length) ρ'
  | [], ρ, k, h0, _ => ⟨ρ, rfl, h0⟩
  | d :: ds, ρ, k, h0, hs => by
    obtain ⟨ρ1, ρ2, fl, e1, e2, e3, p⟩ := hs 0 (by simp) ρ h0
    obtain ⟨ρ', e4, q⟩ := forS_ind P ds ρ2 (k + 1) p fun i hi ρ h => by
      have z := hs (i + 1) (by simpa using hi) ρ (by rw [show k + (i + 1) = k + 1 + i by omega]; exact h)
      rw [show k + (i + 1) = k + 1 + i by omega] at z
      exact z
    refine ⟨ρ', ?_, by rw [List.length_cons, show k + (ds.length + 1) = k + 1 + ds.length by omega]; exact q⟩
    have e1' : bindT tg d ρ = some ρ1 := e1
    unfold forS
    rw [e1']
    show (f ρ1).bind _ = _
    rw [e2]
    rcases e3 with rfl | rfl
    · exact e4
    · exact e4
theorem for_ind {f : List Sl → Rs Fl} {tg : Tg} (P : Nat → List Sl → Prop) {ds : List D} {ρ : List Sl} (h0 : P 0 ρ)
    (hs : ∀ i (hi : i < ds.length) ρ, P i ρ → ∃ ρ1 ρ2 fl, bindT tg ds[i] ρ = some ρ1 ∧ f ρ1 = some (fl, ρ2) ∧ (fl = .nx ∨ fl = .ct) ∧ P (i + 1) ρ2) : ∃ ρ', forS f tg ds ρ = some (.nx, ρ') ∧ P ds.length ρ' := by
  have z := forS_ind P ds ρ 0 h0 fun i hi ρ h => by
    rw [Nat.zero_add] at h ⊢
    exact hs i hi ρ h
  rw [Nat.zero_add] at z
  exact z
/-- a comprehension's turns, its state a function of the turn -/
theorem turns_ind {F : D → List Sl → Rs (List D)} (P : List D → List Sl → Prop) : ∀ (ds : List D) (acc : List D) (ρ : List Sl), P acc ρ →
    (∀ d ∈ ds, ∀ acc ρ, P acc ρ → ∃ x ρ2, F d ρ = some (x, ρ2) ∧ P (acc ++ x) ρ2) → ∃ xs ρ', turns F ds ρ = some (xs, ρ') ∧ P (acc ++ xs) ρ'
  | [], acc, ρ, h0, _ => ⟨[], ρ, rfl, by rw [List.append_nil]; exact h0⟩
  | d :: ds, acc, ρ, h0, hs => by
    obtain ⟨x, ρ2, e1, p⟩ := hs d List.mem_cons_self acc ρ h0
    obtain ⟨xs, ρ', e2, q⟩ := turns_ind P ds (acc ++ x) ρ2 p fun d hd => hs d (List.mem_cons_of_mem _ hd)
    refine ⟨x ++ xs, ρ', ?_, by rw [← List.append_assoc]; exact q⟩
    unfold turns
    rw [e1]
    show (match turns F ds ρ2 with
      | some (r, ρ2) => some (x ++ r, ρ2)
      | none => none) = _
    rw [e2]
theorem turns_map {F : D → List Sl → Rs (List D)} {g : D → D} : ∀ {ds : List D} {ρ : List Sl}, (∀ d ∈ ds, F d ρ = some ([g d], ρ)) → turns F ds ρ = some (ds.map g, ρ)
  | [], ρ, _ => rfl
  | d :: ds, ρ, h => by
    unfold turns
    rw [h d List.mem_cons_self]
    show (match turns F ds ρ with
      | some (r, ρ2) => some ([g d] ++ r, ρ2)
      | none => none) = _
    rw [turns_map fun d hd => h d (List.mem_cons_of_mem _ hd)]
    rfl
theorem turns_flat {F : D → List Sl → Rs (List D)} {g : D → List D} : ∀ {ds : List D} {ρ : List Sl}, (∀ d ∈ ds, F d ρ = some (g d, ρ)) → turns F ds ρ = some (ds.flatMap g, ρ)
  | [], ρ, _ => rfl
  | d :: ds, ρ, h => by
    unfold turns
    rw [h d List.mem_cons_self]
    show (match turns F ds ρ with
      | some (r, ρ2) => some (g d ++ r, ρ2)
      | none => none) = _
    rw [turns_flat fun d hd => h d (List.mem_cons_of_mem _ hd)]
    rfl
/-! ### slices -/
theorem cut_to {α : Type} {xs : List α} {k : Nat} : cutD xs none (some (k : Int)) = xs.take k := by
  unfold cutD
  rw [HT.sIx_none, HT.sIx_nat, List.drop_zero, Nat.sub_zero]
  rcases Nat.le_total k xs.length with h | h
  · rw [Nat.min_eq_left h]
  · rw [Nat.min_eq_right h, List.take_of_length_le (Nat.le_refl _), List.take_of_length_le h]
theorem cut_from {α : Type} {xs : List α} {k : Nat} : cutD xs (some (k : Int)) none = xs.drop k := by
  unfold cutD
  rw [HT.sIx_none, HT.sIx_nat]
  rcases Nat.le_total k xs.length with h | h
  · rw [Nat.min_eq_left h, List.take_of_length_le (by simp)]
  · rw [Nat.min_eq_right h, List.drop_of_length_le (Nat.le_refl _), List.drop_of_length_le h, List.take_nil]
theorem cut_of {α : Type} {xs : List α} {a b : Nat} (h : a ≤ xs.length) (hb : b ≤ xs.length) : cutD xs (some (a : Int)) (some (b : Int)) = (xs.drop a).take (b - a) := by
  unfold cutD
  rw [HT.sIx_nat, HT.sIx_nat, Nat.min_eq_left h, Nat.min_eq_left hb]
@[simp] theorem slF_tup {xs : List D} {lo hi : Option Int} : slF (.tup xs) lo hi = some (.d (.tup (cutD xs lo hi))) := nrfl rfl
@[simp] theorem slF_lst {xs : List D} {lo hi : Option Int} : slF (.lst xs) lo hi = some (.new (.lst (cutD xs lo hi))) := nrfl rfl
@[simp] theorem items_tup {xs : List D} : items (.tup xs) = some xs := nrfl rfl
@[simp] theorem items_lst {xs : List D} : items (.lst xs) = some xs := nrfl rfl
@[simp] theorem seqOf_tup {xs : List D} : seqOf (.tup xs) = some xs := nrfl rfl
@[simp] theorem seqOf_lst {xs : List D} : seqOf (.lst xs) = some xs := nrfl rfl
/-! ### slots -/
/-- a slot that may be bound -/
def Fre (s : Sl) : Prop := s = .no ∨ ∃ d, s = .d d
theorem Fre.no : Fre .no := .inl rfl
theorem Fre.d {d : D} : Fre (.d d) := .inr ⟨d, rfl⟩
theorem Fre.b {s : Sl} (h : Fre s) {ρ : List Sl} {i : Nat} (e : ρ[i]? = some s) : bindable ρ i = true := by
  unfold bindable
  rw [e]
  rcases h with rfl | ⟨d, rfl⟩ <;> rfl
theorem bindT_fre {s : Sl} (h : Fre s) {ρ : List Sl} {i : Nat} {d : D} (e : ρ[i]? = some s) : bindT (.nm i) d ρ = some (ρ.set i (.d d)) := by
  unfold bindT
  rw [if_pos (h.b e)]
theorem store_fre {s : Sl} (h : Fre s) {ρ : List Sl} {i : Nat} {d : D} (e : ρ[i]? = some s) : store ρ i (.d d) = some (ρ.set i (.d d)) := if_pos (h.b e)
theorem storeN_fre {s : Sl} (h : Fre s) {ρ : List Sl} {i : Nat} {o : O} (e : ρ[i]? = some s) : store ρ i (.new o) = some (ρ.set i (.own o)) := if_pos (h.b e)
end
/-! ### defs with a list lent as their first argument -/
def Pol (call : Str → List Fw.Arg → Option (T × List Sl)) (f : Str) (o : O) (ds : List D) (r : D) (o' : O) : Prop := ∃ bs, call f (.bo o :: ds.map .fr) = some (.d r, .bor o' :: bs) ∧ bs.length = ds.length
def PureN (call : Str → List Fw.Arg → Option (T × List Sl)) (f : Str) (ds : List D) (r : List D) : Prop := ∃ bs, call f (ds.map .fr) = some (.new (.lst r), bs) ∧ bs.length = ds.length
section
variable {ρ : List Sl} {call : Str → List Fw.Arg → Option (T × List Sl)} {f : Str} {ds : List D} {r : D} {o o' : O} {i : Nat}
theorem call_pureN {r : List D} (h : PureN call f ds r) : callF call f (ds.map T.d) ρ = some (.new (.lst r), ρ) := by
  obtain ⟨bs, e, l⟩ := h
  unfold callF
  rw [toArgs_d, lent_d, news_d]
  simp [e, backs_d l, setAll]
theorem call_own (h : Pol call f o ds r o') (e : ρ[i]? = some (.own o)) : callF call f (.sl i :: ds.map T.d) ρ = some (.d r, ρ.set i (.own o')) := by
  obtain ⟨bs, e1, l⟩ := h
  have e2 : toArgs ρ (.sl i :: ds.map T.d) = some (.bo o :: ds.map .fr) := by
    have q : toArg ρ (.sl i) = some (.bo o) := by
      show (match ρ[i]? with
        | some (.own o) => some (Fw.Arg.bo o)
        | some (.bor o) => some (.bo o)
        | some (.d d) => some (.fr d)
        | some (.fz d) => some (.fr d)
        | _ => none) = _
      rw [e]
    unfold toArgs
    rw [toArgs_d, q]
  have e3 : lent ρ (.sl i :: ds.map T.d) = [i] := by
    show (match ρ[i]? with
      | some (.own _) => i :: lent ρ (ds.map T.d)
      | some (.bor _) => i :: lent ρ (ds.map T.d)
      | _ => lent ρ (ds.map T.d)) = _
    rw [e, lent_d]
  have e4 : backs ρ (.sl i :: ds.map T.d) (.bor o' :: bs) = some [(i, .own o')] := by
    unfold backs
    rw [e]
    show (back1 (.own o) (.bor o')).bind _ = _
    rw [backs_d l]
    rfl
  have e5 : news (.sl i :: ds.map T.d) = 0 := news_d
  unfold callF
  rw [e2, e3, e5]
  simp [e1, e4, setAll]
theorem call_bor (h : Pol call f o ds r o') (e : ρ[i]? = some (.bor o)) : callF call f (.sl i :: ds.map T.d) ρ = some (.d r, ρ.set i (.bor o')) := by
  obtain ⟨bs, e1, l⟩ := h
  have e2 : toArgs ρ (.sl i :: ds.map T.d) = some (.bo o :: ds.map .fr) := by
    have q : toArg ρ (.sl i) = some (.bo o) := by
      show (match ρ[i]? with
        | some (.own o) => some (Fw.Arg.bo o)
        | some (.bor o) => some (.bo o)
        | some (.d d) => some (.fr d)
        | some (.fz d) => some (.fr d)
        | _ => none) = _
      rw [e]
    unfold toArgs
    rw [toArgs_d, q]
  have e3 : lent ρ (.sl i :: ds.map T.d) = [i] := by
    show (match ρ[i]? with
      | some (.own _) => i :: lent ρ (ds.map T.d)
      | some (.bor _) => i :: lent ρ (ds.map T.d)
      | _ => lent ρ (ds.map T.d)) = _
    rw [e, lent_d]
  have e4 : backs ρ (.sl i :: ds.map T.d) (.bor o' :: bs) = some [(i, .bor o')] := by
    unfold backs
    rw [e]
    show (back1 (.bor o) (.bor o')).bind _ = _
    rw [backs_d l]
    rfl
  have e5 : news (.sl i :: ds.map T.d) = 0 := news_d
  unfold callF
  rw [e2, e3, e5]
  simp [e1, e4, setAll]
theorem call_new (h : Pol call f o ds r o') : callF call f (.new o :: ds.map T.d) ρ = some (.d r, ρ) := by
  obtain ⟨bs, e1, l⟩ := h
  have e2 : toArgs ρ (.new o :: ds.map T.d) = some (.bo o :: ds.map .fr) := by
    unfold toArgs
    rw [toArgs_d]
    rfl
  have e3 : lent ρ (.new o :: ds.map T.d) = [] := lent_d
  have e4 : backs ρ (.new o :: ds.map T.d) (.bor o' :: bs) = some [] := backs_d l
  have e5 : news (.new o :: ds.map T.d) = 1 := by
    show news (ds.map T.d) + 1 = 1
    rw [news_d]
  unfold callF
  rw [e2, e3, e5]
  simp [e1, e4, setAll]
end

/-! ### runs -/
def Run {α : Type} (x : Rs α) (Q : α → List Sl → Prop) : Prop := ∃ a ρ, x = some (a, ρ) ∧ Q a ρ
class PostC (α : Type) where
  q : α → List Sl → Prop
def RunI {α : Type} (x : Rs α) [q : PostC α] : Prop := Run x q.q
@[simp ↓] theorem run_runI {α : Type} {x : Rs α} {Q : α → List Sl → Prop} : Run x Q = @RunI α x ⟨Q⟩ := rfl
theorem run_some {α : Type} {a : α} {ρ : List Sl} {Q : α → List Sl → Prop} : Run (some (a, ρ)) Q ↔ Q a ρ := ⟨fun ⟨_, _, e, q⟩ => by cases e; exact q, fun q => ⟨a, ρ, rfl, q⟩⟩
@[simp] theorem runI_some {α : Type} {a : α} {ρ : List Sl} {Q : α → List Sl → Prop} : @RunI α (some (a, ρ)) ⟨Q⟩ ↔ Q a ρ := run_some
theorem Run.imp {α : Type} {x : Rs α} {Q Q' : α → List Sl → Prop} (h : Run x Q) (im : ∀ a ρ, Q a ρ → Q' a ρ) : Run x Q' := by
  obtain ⟨a, ρ, e, q⟩ := h
  exact ⟨a, ρ, e, im a ρ q⟩
theorem Run.bind {α β : Type} {x : Rs α} {k : α × List Sl → Rs β} {P : α → List Sl → Prop} {Q : β → List Sl → Prop} (h : Run x P) (hk : ∀ a ρ, P a ρ → Run (k (a, ρ)) Q) : Run (x.bind k) Q := by
  obtain ⟨a, ρ, rfl, p⟩ := h
  exact hk a ρ p
/-- what a turn of a for leaves -/
def ForEnd (P : List Sl → Prop) (B : Fl → List Sl → Prop) (fl : Fl) (ρ : List Sl) : Prop := match fl with
  | .nx => P ρ
  | .ct => P ρ
  | .bk => B .nx ρ
  | .rt t => B (.rt t) ρ
section
variable {P : List Sl → Prop} {B : Fl → List Sl → Prop} {ρ : List Sl}
@[simp] theorem forEnd_nx : ForEnd P B .nx ρ ↔ P ρ := Iff.rfl
@[simp] theorem forEnd_ct : ForEnd P B .ct ρ ↔ P ρ := Iff.rfl
@[simp] theorem forEnd_bk : ForEnd P B .bk ρ ↔ B .nx ρ := Iff.rfl
@[simp] theorem forEnd_rt {t : T} : ForEnd P B (.rt t) ρ ↔ B (.rt t) ρ := Iff.rfl
end
theorem run_for0 {f : List Sl → Rs Fl} {tg : Tg} {B : Fl → List Sl → Prop} (P : Nat → List Sl → Prop) : ∀ (ds : List D) (ρ : List Sl) (k : Nat), P k ρ →
    (∀ i (hi : i < ds.length) ρ, P (k + i) ρ → ∃ ρ1, bindT tg ds[i] ρ = some ρ1 ∧ Run (f ρ1) (ForEnd (P (k + i + 1)) B)) → (∀ ρ, P (k + ds.length) ρ → B .nx ρ) → Run (forS f tg ds ρ) B
  | [], ρ, k, h0, _, he => ⟨.nx, ρ, rfl, he ρ h0⟩
  | d :: ds, ρ, k, h0, hs, he => by
    obtain ⟨ρ1, e1, fl, ρ2, e2, p⟩ := hs 0 (by simp) ρ h0
    have e1' : bindT tg d ρ = some ρ1 := e1
    have rest : P (k + 1) ρ2 → Run (forS f tg ds ρ2) B := fun p => run_for0 P ds ρ2 (k + 1) p (fun i hi ρ h => by
      have z := hs (i + 1) (by simpa using hi) ρ (by rw [show k + (i + 1) = k + 1 + i by omega]; exact h)
      rw [show k + (i + 1) = k + 1 + i by omega] at z
      exact z) (fun ρ h => he ρ (by rw [List.length_cons, show k + (ds.length + 1) = k + 1 + ds.length by omega]; exact h))
    unfold forS
    rw [e1']
    show Run ((f ρ1).bind _) B
    rw [e2]
    cases fl with
    | nx => exact rest p
    | ct => exact rest p
    | bk => exact ⟨.nx, ρ2, rfl, p⟩
    | rt t => exact ⟨.rt t, ρ2, rfl, p⟩
/-- a for, its turns by P, then the rest -/
theorem run_for {f : List Sl → Rs Fl} {tg : Tg} {β : Type} {k : Fl × List Sl → Rs β} {Q : β → List Sl → Prop} {ds : List D} {ρ : List Sl} (P : Nat → List Sl → Prop) (h0 : P 0 ρ)
    (hs : ∀ i (hi : i < ds.length) ρ, P i ρ → ∃ ρ1, bindT tg ds[i] ρ = some ρ1 ∧ Run (f ρ1) (ForEnd (P (i + 1)) fun fl ρ => Run (k (fl, ρ)) Q)) (he : ∀ ρ, P ds.length ρ → Run (k (.nx, ρ)) Q) : @RunI β (@bnd _ _ (@forK ⟨f⟩ tg ds ρ) ⟨k⟩) ⟨Q⟩ := by
  have z := run_for0 (f := f) (tg := tg) (B := fun fl ρ => Run (k (fl, ρ)) Q) P ds ρ 0 h0 (fun i hi ρ h => by
    rw [Nat.zero_add] at h ⊢
    exact hs i hi ρ h) (fun ρ h => he ρ (by rw [Nat.zero_add] at h; exact h))
  exact z.bind fun a ρ h => h
theorem run_turns0 {F : D → List Sl → Rs (List D)} {B : List D → List Sl → Prop} (P : Nat → List D → List Sl → Prop) : ∀ (ds : List D) (acc : List D) (ρ : List Sl) (k : Nat), P k acc ρ →
    (∀ i (hi : i < ds.length) acc ρ, P (k + i) acc ρ → Run (F ds[i] ρ) fun x ρ2 => P (k + i + 1) (acc ++ x) ρ2) → (∀ xs ρ, P (k + ds.length) (acc ++ xs) ρ → B xs ρ) → Run (turns F ds ρ) B
  | [], acc, ρ, k, h0, _, he => ⟨[], ρ, rfl, he [] ρ (by rw [List.append_nil]; exact h0)⟩
  | d :: ds, acc, ρ, k, h0, hs, he => by
    obtain ⟨x, ρ2, e1, p⟩ := hs 0 (by simp) acc ρ h0
    have e1' : F d ρ = some (x, ρ2) := e1
    obtain ⟨xs, ρ3, e2, q⟩ := run_turns0 (B := fun xs ρ => B (x ++ xs) ρ) P ds (acc ++ x) ρ2 (k + 1) p (fun i hi acc ρ h => by
      have z := hs (i + 1) (by simpa using hi) acc ρ (by rw [show k + (i + 1) = k + 1 + i by omega]; exact h)
      rw [show k + (i + 1) = k + 1 + i by omega] at z
      exact z) (fun xs ρ h => he (x ++ xs) ρ (by rw [List.length_cons, show k + (ds.length + 1) = k + 1 + ds.length by omega, ← List.append_assoc]; exact h))
    refine ⟨x ++ xs, ρ3, ?_, q⟩
    unfold turns
    rw [e1']
    show (match turns F ds ρ2 with
      | some (r, ρ2) => some (x ++ r, ρ2)
      | none => none) = _
    rw [e2]
/-- a comprehension's turns by P, then the rest -/
theorem run_turns {F : D → List Sl → Rs (List D)} {β : Type} {k : List D × List Sl → Rs β} {Q : β → List Sl → Prop} {ds : List D} {ρ : List Sl} (P : Nat → List D → List Sl → Prop) (h0 : P 0 [] ρ)
    (hs : ∀ i (hi : i < ds.length) acc ρ, P i acc ρ → Run (F ds[i] ρ) fun x ρ2 => P (i + 1) (acc ++ x) ρ2) (he : ∀ xs ρ, P ds.length xs ρ → Run (k (xs, ρ)) Q) : @RunI β (@bnd _ _ (@turnsK ⟨F⟩ ds ρ) ⟨k⟩) ⟨Q⟩ := by
  have z := run_turns0 (F := F) (B := fun xs ρ => Run (k (xs, ρ)) Q) P ds [] ρ 0 h0 (fun i hi acc ρ h => by
    rw [Nat.zero_add] at h ⊢
    exact hs i hi acc ρ h) (fun xs ρ h => he xs ρ (by rw [Nat.zero_add] at h; exact h))
  exact z.bind fun a ρ h => h
/-- .. each turn by itself -/
theorem run_map {F : D → List Sl → Rs (List D)} {β : Type} {k : List D × List Sl → Rs β} {Q : β → List Sl → Prop} {ds : List D} {ρ : List Sl} (g : D → List D) (hs : ∀ d ∈ ds, F d ρ = some (g d, ρ)) (he : Run (k (ds.flatMap g, ρ)) Q) : @RunI β (@bnd _ _ (@turnsK ⟨F⟩ ds ρ) ⟨k⟩) ⟨Q⟩ := by
  show Run ((turns F ds ρ).bind k) Q
  rw [turns_flat hs]
  exact he

/-! ### binding -/
@[simp] theorem nop_var : ∀ x0, IE.isNop (.var x0) = false := fun _  => nrfl rfl
@[simp] theorem nop_non : IE.isNop .non = false := nrfl rfl
@[simp] theorem nop_bl : ∀ x0, IE.isNop (.bl x0) = false := fun _  => nrfl rfl
@[simp] theorem nop_int : ∀ x0, IE.isNop (.int x0) = false := fun _  => nrfl rfl
@[simp] theorem nop_str : ∀ x0, IE.isNop (.str x0) = false := fun _  => nrfl rfl
@[simp] theorem nop_glo : ∀ x0, IE.isNop (.glo x0) = false := fun _  => nrfl rfl
@[simp] theorem nop_bin : ∀ x0 x1 x2, IE.isNop (.bin x0 x1 x2) = false := fun _ _ _  => nrfl rfl
@[simp] theorem nop_neg : ∀ x0, IE.isNop (.neg x0) = false := fun _  => nrfl rfl
@[simp] theorem nop_cmp : ∀ x0 x1 x2, IE.isNop (.cmp x0 x1 x2) = false := fun _ _ _  => nrfl rfl
@[simp] theorem nop_chn : ∀ x0 x1 x2 x3 x4, IE.isNop (.chn x0 x1 x2 x3 x4) = false := fun _ _ _ _ _  => nrfl rfl
@[simp] theorem nop_and : ∀ x0 x1, IE.isNop (.and_ x0 x1) = false := fun _ _  => nrfl rfl
@[simp] theorem nop_or : ∀ x0 x1, IE.isNop (.or_ x0 x1) = false := fun _ _  => nrfl rfl
@[simp] theorem nop_one : ∀ x0, IE.isNop (.one x0) = false := fun _  => nrfl rfl
@[simp] theorem nop_not : ∀ x0, IE.isNop (.not_ x0) = false := fun _  => nrfl rfl
@[simp] theorem nop_ife : ∀ x0 x1 x2, IE.isNop (.ife x0 x1 x2) = false := fun _ _ _  => nrfl rfl
@[simp] theorem nop_ix : ∀ x0 x1, IE.isNop (.ix x0 x1) = false := fun _ _  => nrfl rfl
@[simp] theorem nop_kix : ∀ x0 x1, IE.isNop (.kix x0 x1) = false := fun _ _  => nrfl rfl
@[simp] theorem nop_slc : ∀ x0 x1 x2, IE.isNop (.slc x0 x1 x2) = false := fun _ _ _  => nrfl rfl
@[simp] theorem nop_frz : ∀ x0, IE.isNop (.frz x0) = false := fun _  => nrfl rfl
@[simp] theorem nop_tup : ∀ x0, IE.isNop (.tup x0) = false := fun _  => nrfl rfl
@[simp] theorem nop_lst : ∀ x0, IE.isNop (.lst x0) = false := fun _  => nrfl rfl
@[simp] theorem nop_call : ∀ x0 x1, IE.isNop (.call x0 x1) = false := fun _ _  => nrfl rfl
@[simp] theorem nop_blt : ∀ x0 x1, IE.isNop (.blt x0 x1) = false := fun _ _  => nrfl rfl
@[simp] theorem nop_isi : ∀ x0 x1, IE.isNop (.isi x0 x1) = false := fun _ _  => nrfl rfl
@[simp] theorem nop_rngs : ∀ x0 x1, IE.isNop (.rngs x0 x1) = false := fun _ _  => nrfl rfl
@[simp] theorem nop_lrev : ∀ x0, IE.isNop (.lrev x0) = false := fun _  => nrfl rfl
@[simp] theorem nop_mth : ∀ x0 x1 x2, IE.isNop (.mth x0 x1 x2) = false := fun _ _ _  => nrfl rfl
@[simp] theorem nop_lc : ∀ x0 x1 x2 x3 x4, IE.isNop (.lc x0 x1 x2 x3 x4) = false := fun _ _ _ _ _  => nrfl rfl
@[simp] theorem nop_lc2 : ∀ x0 x1 x2 x3 x4 x5 x6, IE.isNop (.lc2 x0 x1 x2 x3 x4 x5 x6) = false := fun _ _ _ _ _ _ _  => nrfl rfl

def bndO : Option Sl → Bool
  | some (.bor _) => false
  | some (.fz _) => false
  | some _ => true
  | none => false
section
variable {ρ : List Sl} {i : Nat} {d : D}
@[simp] theorem bndO_no : bndO (some .no) = true := nrfl rfl
@[simp] theorem bndO_d : bndO (some (.d d)) = true := nrfl rfl
@[simp] theorem bndO_own {o : O} : bndO (some (.own o)) = true := nrfl rfl
@[simp] theorem bindable_eq : bindable ρ i = bndO (ρ[i]?) := by
  unfold bindable bndO
  rfl
theorem Fre.bo {s : Sl} (h : Fre s) : bndO (some s) = true := by
  rcases h with rfl | ⟨d, rfl⟩ <;> rfl
@[simp] theorem bindT_nm : bindT (.nm i) d ρ = if bndO (ρ[i]?) then some (ρ.set i (.d d)) else none := by
  unfold bindT
  rw [bindable_eq]
@[simp] theorem bindT_tp {ts : List Tg} {ds : List D} : bindT (.tp ts) (.tup ds) ρ = bindTs ts ds ρ := by
  conv => lhs; unfold bindT
@[simp] theorem bindTs_nil : bindTs [] [] ρ = some ρ := by
  unfold bindTs
  rfl
@[simp] theorem bindTs_cons {t : Tg} {ts : List Tg} {ds : List D} : bindTs (t :: ts) (d :: ds) ρ = (bindT t d ρ).bind fun ρ' => bindTs ts ds ρ' := by
  conv => lhs; unfold bindTs
  cases bindT t d ρ <;> rfl
@[simp] theorem store_d : store ρ i (.d d) = if bndO (ρ[i]?) then some (ρ.set i (.d d)) else none := by
  rw [← bindable_eq]
  rfl
@[simp] theorem store_n {o : O} : store ρ i (.new o) = if bndO (ρ[i]?) then some (ρ.set i (.own o)) else none := by
  rw [← bindable_eq]
  rfl
def vwO : Option Sl → Option D
  | some (.own o) => some o.view
  | some (.bor o) => some o.view
  | some (.d d) => some d
  | some (.fz d) => some d
  | _ => none
@[simp] theorem vwO_own {o : O} : vwO (some (.own o)) = some o.view := nrfl rfl
@[simp] theorem vwO_bor {o : O} : vwO (some (.bor o)) = some o.view := nrfl rfl
@[simp] theorem view_sl : view ρ (.sl i) = vwO (ρ[i]?) := by
  unfold view vwO
  rfl
def stO (ρ : List Sl) (i : Nat) : Option Sl → Option (D × List Sl)
  | some (.own o) => some (o.frz, ρ.set i (.d o.frz))
  | some (.bor o) => some (o.frz, ρ.set i (.fz o.frz))
  | some (.d d) => some (d, ρ)
  | some (.fz d) => some (d, ρ)
  | _ => none
@[simp] theorem stO_own {o : O} : stO ρ i (some (.own o)) = some (o.frz, ρ.set i (.d o.frz)) := nrfl rfl
@[simp] theorem stO_bor {o : O} : stO ρ i (some (.bor o)) = some (o.frz, ρ.set i (.fz o.frz)) := nrfl rfl
@[simp] theorem asD_sl : asD (some (.sl i, ρ)) = stO ρ i (ρ[i]?) := by
  unfold stO
  rfl
@[simp] theorem vw1_sl {f : D → Option T} : vw1 f ρ (.sl i) = (vwO (ρ[i]?)).bind fun x => (f x).map fun z => (z, ρ) := by
  rw [← view_sl]
  rfl
@[simp] theorem vw2_sd {f : D → D → Option T} {y : D} : vw2 f ρ (.sl i) (.d y) = (vwO (ρ[i]?)).bind fun x => (f x y).map fun z => (z, ρ) := by
  rw [← view_sl]
  rfl
@[simp] theorem vw2_sn {f : D → D → Option T} {y : List D} : vw2 f ρ (.sl i) (.new (.lst y)) = (vwO (ρ[i]?)).bind fun x => (f x (.lst y)).map fun z => (z, ρ) := by
  rw [← view_sl]
  rfl
@[simp] theorem vws_s {f : List D → Option T} : vws f ρ [.sl i] = (vwO (ρ[i]?)).bind fun x => (f [x]).map fun z => (z, ρ) := by
  rw [← view_sl]
  unfold vws views views
  cases view ρ (.sl i) <;> rfl
def gtO : Option Sl → Option O
  | some (.own o) => some o
  | some (.bor o) => some o
  | _ => none
@[simp] theorem gtO_own {o : O} : gtO (some (.own o)) = some o := nrfl rfl
@[simp] theorem gtO_bor {o : O} : gtO (some (.bor o)) = some o := nrfl rfl
@[simp] theorem getO_eq : getO ρ i = gtO (ρ[i]?) := by
  unfold getO gtO
  rfl
def seO (ρ : List Sl) (i : Nat) (o : O) : Option Sl → Option (List Sl)
  | some (.own _) => some (ρ.set i (.own o))
  | some (.bor _) => some (ρ.set i (.bor o))
  | _ => none
@[simp] theorem seO_own {o o' : O} : seO ρ i o (some (.own o')) = some (ρ.set i (.own o)) := nrfl rfl
@[simp] theorem seO_bor {o o' : O} : seO ρ i o (some (.bor o')) = some (ρ.set i (.bor o)) := nrfl rfl
@[simp] theorem setO_eq {o : O} : setO ρ i o = seO ρ i o (ρ[i]?) := by
  unfold setO seO
  rfl
@[simp] theorem mut_app {xs : List D} : mutF .append xs [d] = if xs.length < sizeLine then some (.non, xs ++ [d]) else none := nrfl rfl
@[simp] theorem mut_extt {xs ys : List D} : mutF .extend xs [.tup ys] = if xs.length + ys.length ≤ sizeLine then some (.non, xs ++ ys) else none := nrfl rfl
@[simp] theorem mut_extl {xs ys : List D} : mutF .extend xs [.lst ys] = if xs.length + ys.length ≤ sizeLine then some (.non, xs ++ ys) else none := nrfl rfl
theorem mut_pop {xs : List D} : mutF .pop (xs ++ [d]) [] = some (d, xs) := by
  unfold mutF
  simp
def rtO (ρ : List Sl) (i : Nat) : Option Sl → Rs T
  | some (.own o) => some (.new o, ρ.set i .no)
  | some (.bor o) => some (.d o.frz, ρ.set i (.fz o.frz))
  | some (.d d) => some (.d d, ρ)
  | some (.fz d) => some (.d d, ρ)
  | _ => none
@[simp] theorem rtO_own {o : O} : rtO ρ i (some (.own o)) = some (.new o, ρ.set i .no) := nrfl rfl
@[simp] theorem rtO_bor {o : O} : rtO ρ i (some (.bor o)) = some (.d o.frz, ρ.set i (.fz o.frz)) := nrfl rfl
@[simp] theorem retT_sl : retT ρ (.sl i) = rtO ρ i (ρ[i]?) := by
  unfold retT rtO
  dsimp only
  cases ρ[i]? with
  | none => rfl
  | some s => cases s <;> rfl
@[simp] theorem mthF_eq {m : Mt} {ts : List T} : mthF m i ts ρ = (views ρ ts).bind fun ds => (gtO (ρ[i]?)).bind fun o => match o with
    | .lst xs => (mutF m xs ds).bind fun r => (seO ρ i (.lst r.2) (ρ[i]?)).map fun ρ3 => (.d r.1, ρ3) := by
  unfold mthF
  simp only [getO_eq, setO_eq]
end
/-! ### comprehensions -/
section
variable {C : Cfg} {ρ : List Sl}
@[simp] theorem ev_lc {it : II} {tg : Tg} {c e : IE} {own : List Nat} : evE C (.lc it tg c e own) ρ = if noOwn ρ own then (evI C it ρ).bind fun r => if noOwn r.2 own then
      (turns (lcTurn own tg (fun ρ3 => asC c.isNop (evE C c ρ3) ρ3) (fun ρ4 => asD (evE C e ρ4))) r.1 (wipeS r.2 own)).bind fun s => if s.1.length ≤ sizeLine then some (.new (.lst s.1), restS r.2 s.2 own) else none else none else none := by
  conv => lhs; unfold evE
  rfl
@[simp] theorem ev_lc2 {it it1 : II} {tg tg1 : Tg} {c e : IE} {own : List Nat} : evE C (.lc2 it tg it1 tg1 c e own) ρ = if noOwn ρ own then (evI C it ρ).bind fun r => if noOwn r.2 own then
      (turns (lcTurn2 own tg tg1.ix (fun ρ3 => evI C it1 ρ3) tg1 (fun ρ3 => asC c.isNop (evE C c ρ3) ρ3) (fun ρ4 => asD (evE C e ρ4))) r.1 (wipeS r.2 own)).bind fun s => if s.1.length ≤ sizeLine then some (.new (.lst s.1), restS r.2 s.2 own) else none else none else none := by
  conv => lhs; unfold evE
  rfl
def noO : Option Sl → Bool
  | some (.own _) => false
  | some (.bor _) => false
  | some (.fz _) => false
  | some _ => true
  | none => false
@[simp] theorem noO_no : noO (some .no) = true := nrfl rfl
@[simp] theorem noO_d {d : D} : noO (some (.d d)) = true := nrfl rfl
theorem Fre.nw {s : Sl} (h : Fre s) : noO (some s) = true := by
  rcases h with rfl | ⟨d, rfl⟩ <;> rfl
@[simp] theorem noOwn_nil : noOwn ρ [] = true := nrfl rfl
@[simp] theorem noOwn_cons {v : Nat} {vs : List Nat} : noOwn ρ (v :: vs) = (noO (ρ[v]?) && noOwn ρ vs) := by
  unfold noOwn noO
  rfl
@[simp] theorem wipeS_nil : wipeS ρ [] = ρ := nrfl rfl
@[simp] theorem wipeS_cons {v : Nat} {vs : List Nat} : wipeS ρ (v :: vs) = (wipeS ρ vs).set v .no := nrfl rfl
@[simp] theorem restS_nil {ρ0 : List Sl} : restS ρ0 ρ [] = ρ := nrfl rfl
@[simp] theorem restS_cons {ρ0 : List Sl} {v : Nat} {vs : List Nat} : restS ρ0 ρ (v :: vs) = (restS ρ0 ρ vs).set v ((ρ0[v]?).getD .no) := nrfl rfl
@[simp] theorem lcTurn_eq {own : List Nat} {tg : Tg} {c : List Sl → Rs Bool} {e : List Sl → Rs D} {x : D} : lcTurn own tg c e x ρ = (bindT tg x ρ).bind fun ρ3 => (c ρ3).bind fun r => if r.1 then (e r.2).bind fun s => some ([s.1], wipeS s.2 own) else some ([], wipeS r.2 own) := nrfl rfl
@[simp] theorem lcTurn2_eq {own vs1 : List Nat} {tg tg1 : Tg} {f : List Sl → Rs (List D)} {c : List Sl → Rs Bool} {e : List Sl → Rs D} {x : D} : lcTurn2 own tg vs1 f tg1 c e x ρ =
    (bindT tg x ρ).bind fun ρ3 => (f ρ3).bind fun r => if noOwn r.2 vs1 then (turns (lcTurn vs1 tg1 c e) r.1 (wipeS r.2 vs1)).bind fun s => some (s.1, wipeS (restS r.2 s.2 vs1) own) else none := rfl
end

/-! ### turns over a list of any things -/
section
variable {α β : Type} {F : D → List Sl → Rs (List D)} {f : α → D} {ps : List α} {ρ : List Sl} {k : List D × List Sl → Rs β}
theorem turns_mapL {g : α → List D} : ∀ {ps : List α}, (∀ p ∈ ps, F (f p) ρ = some (g p, ρ)) → turns F (ps.map f) ρ = some (ps.flatMap g, ρ)
  | [], _ => rfl
  | p :: ps, h => by
    rw [List.map_cons]
    unfold turns
    rw [h p List.mem_cons_self]
    show (match turns F (ps.map f) ρ with
      | some (r, ρ2) => some (g p ++ r, ρ2)
      | none => none) = _
    rw [turns_mapL fun d hd => h d (List.mem_cons_of_mem _ hd)]
    rfl
theorem tb_map {g : α → List D} {y : Rs β} (hs : ∀ p ∈ ps, F (f p) ρ = some (g p, ρ)) (he : k (ps.flatMap g, ρ) = y) : @bnd _ _ (@turnsK ⟨F⟩ (ps.map f) ρ) ⟨k⟩ = y := by
  show (turns F (ps.map f) ρ).bind k = y
  rw [turns_mapL hs]
  exact he
theorem run_mapL {g : α → List D} {Q : β → List Sl → Prop} (hs : ∀ p ∈ ps, F (f p) ρ = some (g p, ρ)) (he : Run (k (ps.flatMap g, ρ)) Q) : @RunI β (@bnd _ _ (@turnsK ⟨F⟩ (ps.map f) ρ) ⟨k⟩) ⟨Q⟩ := by
  show Run ((turns F (ps.map f) ρ).bind k) Q
  rw [turns_mapL hs]
  exact he
theorem flat_one {h : α → D} : ps.flatMap (fun p => [h p]) = ps.map h := by
  induction ps with
  | nil => rfl
  | cons p ps ih => simp [ih]
theorem run_map1 {h : α → D} {Q : β → List Sl → Prop} (hs : ∀ p ∈ ps, F (f p) ρ = some ([h p], ρ)) (he : Run (k (ps.map h, ρ)) Q) : @RunI β (@bnd _ _ (@turnsK ⟨F⟩ (ps.map f) ρ) ⟨k⟩) ⟨Q⟩ :=
  run_mapL (g := fun p => [h p]) hs (by rw [flat_one]; exact he)
theorem tb_map1 {h : α → D} {y : Rs β} (hs : ∀ p ∈ ps, F (f p) ρ = some ([h p], ρ)) (he : k (ps.map h, ρ) = y) : @bnd _ _ (@turnsK ⟨F⟩ (ps.map f) ρ) ⟨k⟩ = y :=
  tb_map (g := fun p => [h p]) hs (by rw [flat_one]; exact he)
end
section
variable {ρ : List Sl} {call : Str → List Fw.Arg → Option (T × List Sl)} {f : Str} {a b c e g : D} {r : D} {rs : List D} {o o' : O} {i : Nat}
theorem call_p4 (h : Pure call f [a, b, c, e] r) : callF call f [.d a, .d b, .d c, .d e] ρ = some (.d r, ρ) := call_pure h
theorem call_p5 (h : Pure call f [a, b, c, e, g] r) : callF call f [.d a, .d b, .d c, .d e, .d g] ρ = some (.d r, ρ) := call_pure h
theorem call_p6 {g' : D} (h : Pure call f [a, b, c, e, g, g'] r) : callF call f [.d a, .d b, .d c, .d e, .d g, .d g'] ρ = some (.d r, ρ) := call_pure h
theorem call_n1 (h : PureN call f [a] rs) : callF call f [.d a] ρ = some (.new (.lst rs), ρ) := call_pureN h
theorem call_n2 (h : PureN call f [a, b] rs) : callF call f [.d a, .d b] ρ = some (.new (.lst rs), ρ) := call_pureN h
theorem call_b0 (h : Pol call f o [] r o') (e : ρ[i]? = some (.bor o)) : callF call f [.sl i] ρ = some (.d r, ρ.set i (.bor o')) := call_bor h e
theorem call_b1 (h : Pol call f o [a] r o') (e : ρ[i]? = some (.bor o)) : callF call f [.sl i, .d a] ρ = some (.d r, ρ.set i (.bor o')) := call_bor h e
theorem call_b2 (h : Pol call f o [a, b] r o') (e : ρ[i]? = some (.bor o)) : callF call f [.sl i, .d a, .d b] ρ = some (.d r, ρ.set i (.bor o')) := call_bor h e
theorem call_b3 (h : Pol call f o [a, b, c] r o') (e : ρ[i]? = some (.bor o)) : callF call f [.sl i, .d a, .d b, .d c] ρ = some (.d r, ρ.set i (.bor o')) := call_bor h e
theorem call_b4 (h : Pol call f o [a, b, c, g] r o') (e : ρ[i]? = some (.bor o)) : callF call f [.sl i, .d a, .d b, .d c, .d g] ρ = some (.d r, ρ.set i (.bor o')) := call_bor h e
theorem call_o0 (h : Pol call f o [] r o') (e : ρ[i]? = some (.own o)) : callF call f [.sl i] ρ = some (.d r, ρ.set i (.own o')) := call_own h e
theorem call_o1 (h : Pol call f o [a] r o') (e : ρ[i]? = some (.own o)) : callF call f [.sl i, .d a] ρ = some (.d r, ρ.set i (.own o')) := call_own h e
theorem call_o2 (h : Pol call f o [a, b] r o') (e : ρ[i]? = some (.own o)) : callF call f [.sl i, .d a, .d b] ρ = some (.d r, ρ.set i (.own o')) := call_own h e
theorem call_o3 (h : Pol call f o [a, b, c] r o') (e : ρ[i]? = some (.own o)) : callF call f [.sl i, .d a, .d b, .d c] ρ = some (.d r, ρ.set i (.own o')) := call_own h e
theorem call_w1 (h : Pol call f o [a] r o') : callF call f [.new o, .d a] ρ = some (.d r, ρ) := call_new h
theorem atI_last {α : Type} {xs : List α} {x : α} : atI (xs ++ [x]) (-1) = some x := by
  unfold atI ixN
  rw [if_neg (by omega), if_pos (by rw [List.length_append, List.length_singleton]; omega)]
  have e : ((-1 : Int) + ((xs ++ [x]).length : Nat)).toNat = xs.length := by
    rw [List.length_append, List.length_singleton]
    omega
  show (xs ++ [x])[((-1 : Int) + ((xs ++ [x]).length : Nat)).toNat]? = some x
  rw [e]
  simp
end

/-! ### what waits stands in front -/
section
variable {α : Type}
@[simp] theorem bnd_asc {α β γ : Type} {x : Option α} {f : α → Option β} {g : β → Option γ} : @bnd β γ (@bnd α β x ⟨f⟩) ⟨g⟩ = @bnd α γ x ⟨fun a => (f a).bind g⟩ := by
  cases x <;> rfl
@[simp] theorem asD_bnd {x : Option α} {f : α → Rs T} : asD (@bnd _ _ x ⟨f⟩) = @bnd _ _ x ⟨fun a => asD (f a)⟩ := by
  cases x <;> rfl
@[simp] theorem asB_bnd {x : Option α} {f : α → Rs T} : asB (@bnd _ _ x ⟨f⟩) = @bnd _ _ x ⟨fun a => asB (f a)⟩ := by
  cases x <;> rfl
end
end Fw

set_option maxHeartbeats 0
namespace Tab
open PySem PySem.Spec PyProof.Rows L2 Fw
def top (i : Nat) : Stmt := PySem.Challenge.pw_fractionwords_k72_places_and_letters.main.body.getD i (.Pass ⟨0, 0, 0, 0⟩)
/-- size_of -/
def f_size_of : Fd := ⟨"size_of", ["kind"], ["kind"], (.cons (.if_ (.isi (.var 0) [.str]) (.cons (.ret (.int 1)) .nil) .nil) (.cons (.ret (.frz (.bin .Add (.call "size_of" (.cons (.ix (.var 0) (.int 1)) .nil)) (.call "size_of" (.cons (.ix (.var 0) (.int 2)) .nil))))) .nil))⟩
/-- atoms_of -/
def f_atoms_of : Fd := ⟨"atoms_of", ["kind"], ["kind"], (.cons (.if_ (.isi (.var 0) [.str]) (.cons (.ret (.tup (.cons (.var 0) .nil))) .nil) .nil) (.cons (.ret (.frz (.bin .Add (.call "atoms_of" (.cons (.ix (.var 0) (.int 1)) .nil)) (.call "atoms_of" (.cons (.ix (.var 0) (.int 2)) .nil))))) .nil))⟩
/-- sequent_atoms -/
def f_sequent_atoms : Fd := ⟨"sequent_atoms", ["sequent"], ["sequent", "atoms", "kind", "premises", "goal"], (.cons (.asgT (.tp [(.nm 3), (.nm 4)]) (.var 0)) (.cons (.asg 1 (.lst .nil)) (.cons (.for_ (.nm 2) (.seq (.bin .Add (.var 3) (.tup (.cons (.var 4) .nil)))) (.cons (.ex (.mth .extend (.var 1) (.cons (.call "atoms_of" (.cons (.var 2) .nil)) .nil))) .nil)) (.cons (.ret (.blt .tuple (.cons (.var 1) .nil))) .nil))))⟩
/-- place_rows -/
def f_place_rows : Fd := ⟨"place_rows", ["sequent"], ["sequent", "rows", "start", "kind", "premises", "goal", "stop"], (.cons (.asgT (.tp [(.nm 4), (.nm 5)]) (.var 0)) (.cons (.asg 1 (.lst .nil)) (.cons (.asg 2 (.int 0)) (.cons (.for_ (.nm 3) (.seq (.bin .Add (.var 4) (.tup (.cons (.var 5) .nil)))) (.cons (.asg 6 (.frz (.bin .Add (.var 2) (.call "size_of" (.cons (.var 3) .nil))))) (.cons (.ex (.mth .append (.var 1) (.cons (.rngs true (.cons (.var 2) (.cons (.var 6) .nil))) .nil))) (.cons (.asg 2 (.var 6)) .nil)))) (.cons (.ret (.var 1)) .nil)))))⟩
/-- split_row -/
def f_split_row : Fd := ⟨"split_row", ["kind", "row"], ["kind", "row", "size"], (.cons (.asg 2 (.call "size_of" (.cons (.ix (.var 0) (.int 1)) .nil))) (.cons (.ret (.tup (.cons (.slc (.var 1) .nop (.var 2)) (.cons (.slc (.var 1) (.var 2) .nop) .nil)))) .nil))⟩
/-- goal_part_rows -/
def f_goal_part_rows : Fd := ⟨"goal_part_rows", ["rule", "goal", "rows", "last", "at"], ["rule", "goal", "rows", "last", "at", "first", "second"], (.cons (.asgT (.tp [(.nm 5), (.nm 6)]) (.call "split_row" (.cons (.var 1) (.cons (.var 3) .nil)))) (.cons (.if_ (.cmp .Eq (.var 0) (.str "over right")) (.cons (.ret (.tup (.cons (.bin .Add (.var 2) (.lst (.cons (.var 6) (.cons (.var 5) .nil)))) .nil))) .nil) .nil) (.cons (.if_ (.cmp .Eq (.var 0) (.str "under right")) (.cons (.ret (.tup (.cons (.bin .Add (.bin .Add (.lst (.cons (.var 5) .nil)) (.var 2)) (.lst (.cons (.var 6) .nil))) .nil))) .nil) .nil) (.cons (.ret (.tup (.cons (.bin .Add (.slc (.var 2) .nop (.var 4)) (.lst (.cons (.var 5) .nil))) (.cons (.bin .Add (.slc (.var 2) (.var 4) .nop) (.lst (.cons (.var 6) .nil))) .nil)))) .nil))))⟩
/-- premise_part_rows -/
def f_premise_part_rows : Fd := ⟨"premise_part_rows", ["rule", "kind", "rows", "last", "at", "width"], ["rule", "kind", "rows", "last", "at", "width", "start", "first", "second", "stop"], (.cons (.asgT (.tp [(.nm 7), (.nm 8)]) (.call "split_row" (.cons (.var 1) (.cons (.ix (.var 2) (.var 4)) .nil)))) (.cons (.if_ (.cmp .Eq (.var 0) (.str "pair left")) (.cons (.ret (.tup (.cons (.bin .Add (.bin .Add (.bin .Add (.slc (.var 2) .nop (.var 4)) (.lst (.cons (.var 7) (.cons (.var 8) .nil)))) (.slc (.var 2) (.bin .Add (.var 4) (.int 1)) .nop)) (.lst (.cons (.var 3) .nil))) .nil))) .nil) .nil) (.cons (.if_ (.cmp .Eq (.var 0) (.str "over left")) (.cons (.asg 9 (.bin .Add (.bin .Add (.var 4) (.int 1)) (.var 5))) (.cons (.ret (.tup (.cons (.bin .Add (.slc (.var 2) (.bin .Add (.var 4) (.int 1)) (.var 9)) (.lst (.cons (.var 8) .nil))) (.cons (.bin .Add (.bin .Add (.bin .Add (.slc (.var 2) .nop (.var 4)) (.lst (.cons (.var 7) .nil))) (.slc (.var 2) (.var 9) .nop)) (.lst (.cons (.var 3) .nil))) .nil)))) .nil)) .nil) (.cons (.asg 6 (.bin .Sub (.var 4) (.var 5))) (.cons (.ret (.tup (.cons (.bin .Add (.slc (.var 2) (.var 6) (.var 4)) (.lst (.cons (.var 7) .nil))) (.cons (.bin .Add (.bin .Add (.bin .Add (.slc (.var 2) .nop (.var 6)) (.lst (.cons (.var 8) .nil))) (.slc (.var 2) (.bin .Add (.var 4) (.int 1)) .nop)) (.lst (.cons (.var 3) .nil))) .nil)))) .nil)))))⟩
/-- part_places -/
def f_part_places : Fd := ⟨"part_places", ["sequent", "step"], ["sequent", "step", "rows", "last", "rule", "at", "width", "_", "premises", "goal", "found", "part", "row", "place"], (.cons (.asgT (.tp [(.nm 4), (.nm 5), (.nm 6), (.nm 7)]) (.var 1)) (.cons (.asgT (.tp [(.nm 8), (.nm 9)]) (.var 0)) (.cons (.asg 2 (.call "place_rows" (.cons (.var 0) .nil))) (.cons (.asg 3 (.mth .pop (.var 2) .nil)) (.cons (.if_ (.cmp .Eq (.var 4) (.str "axiom")) (.cons (.ret (.tup .nil)) .nil) .nil) (.cons (.if_ (.cmp .In (.var 4) (.tup (.cons (.str "over right") (.cons (.str "under right") (.cons (.str "pair right") .nil))))) (.cons (.asg 10 (.call "goal_part_rows" (.cons (.var 4) (.cons (.var 9) (.cons (.frz (.var 2)) (.cons (.var 3) (.cons (.var 5) .nil))))))) .nil) (.cons (.asg 10 (.call "premise_part_rows" (.cons (.var 4) (.cons (.ix (.var 8) (.var 5)) (.cons (.frz (.var 2)) (.cons (.var 3) (.cons (.var 5) (.cons (.var 6) .nil)))))))) .nil)) (.cons (.ret (.blt .tuple (.cons (.lc (.seq (.var 10)) (.nm 11) .nop (.blt .tuple (.cons (.lc2 (.seq (.var 11)) (.nm 12) (.seq (.var 12)) (.nm 13) .nop (.var 13) [12, 13]) .nil)) [11]) .nil))) .nil)))))))⟩
/-- push_letters_at -/
def f_push_letters_at : Fd := ⟨"push_letters_at", ["letters", "kind", "row", "way"], ["letters", "kind", "row", "way", "sign", "first", "second", "first_way", "second_way", "first_row", "second_row"], (.cons (.if_ (.isi (.var 1) [.str]) (.cons (.ex (.mth .append (.var 0) (.cons (.tup (.cons (.ix (.var 2) (.int 0)) (.cons (.var 3) .nil))) .nil))) (.cons .retN .nil)) .nil) (.cons (.asgT (.tp [(.nm 4), (.nm 5), (.nm 6)]) (.var 1)) (.cons (.asgT (.tp [(.nm 7), (.nm 8)]) (.kix "WAYS" (.var 4))) (.cons (.asgT (.tp [(.nm 9), (.nm 10)]) (.call "split_row" (.cons (.var 1) (.cons (.var 2) .nil)))) (.cons (.if_ (.cmp .Eq (.var 3) (.int 1)) (.cons (.ex (.call "push_letters_at" (.cons (.var 0) (.cons (.var 5) (.cons (.var 9) (.cons (.var 7) .nil)))))) (.cons (.ex (.call "push_letters_at" (.cons (.var 0) (.cons (.var 6) (.cons (.var 10) (.cons (.var 8) .nil)))))) .nil)) (.cons (.ex (.call "push_letters_at" (.cons (.var 0) (.cons (.var 6) (.cons (.var 10) (.cons (.neg (.var 8)) .nil)))))) (.cons (.ex (.call "push_letters_at" (.cons (.var 0) (.cons (.var 5) (.cons (.var 9) (.cons (.neg (.var 7)) .nil)))))) .nil))) .nil)))))⟩
/-- letter_row -/
def f_letter_row : Fd := ⟨"letter_row", ["sequent"], ["sequent", "rows", "letters", "premises", "goal", "kind", "row"], (.cons (.asgT (.tp [(.nm 3), (.nm 4)]) (.var 0)) (.cons (.asg 1 (.frz (.call "place_rows" (.cons (.var 0) .nil)))) (.cons (.asg 2 (.lst .nil)) (.cons (.for_ (.tp [(.nm 5), (.nm 6)]) (.zip (.var 3) (.var 1)) (.cons (.ex (.call "push_letters_at" (.cons (.var 2) (.cons (.var 5) (.cons (.var 6) (.cons (.int 1) .nil)))))) .nil)) (.cons (.ex (.call "push_letters_at" (.cons (.var 2) (.cons (.var 4) (.cons (.ix (.var 1) (.neg (.int 1))) (.cons (.neg (.int 1)) .nil)))))) (.cons (.ret (.blt .tuple (.cons (.var 2) .nil))) .nil))))))⟩
/-- _law_cell -/
def f_law_cell : Fd := ⟨"_law_cell", ["script", "k"], ["script", "k"], (.cons (.if_ (.cmp .Lt (.var 1) (.blt .len (.cons (.var 0) .nil))) (.cons (.ret (.blt .int (.cons (.ix (.var 0) (.var 1)) .nil))) .nil) .nil) (.cons (.ret (.int 0)) .nil))⟩
/-- _law_mix -/
def f_law_mix : Fd := ⟨"_law_mix", ["x"], ["x"], (.cons (.asg 0 (.bin .Mod (.blt .int (.cons (.bin .Add (.bin .Add (.bin .Mult (.var 0) (.var 0)) (.bin .Mult (.int 3) (.var 0))) (.int 7919)) .nil)) (.int 1000003))) (.cons (.ret (.bin .Mod (.blt .int (.cons (.bin .Add (.bin .Add (.bin .Mult (.var 0) (.var 0)) (.bin .Mult (.int 5) (.var 0))) (.int 104729)) .nil)) (.int 998244353))) .nil))⟩
/-- _law_pool -/
def f_law_pool : Fd := ⟨"_law_pool", ["script", "k"], ["script", "k", "cell"], (.cons (.asg 2 (.call "_law_cell" (.cons (.var 0) (.cons (.var 1) .nil)))) (.cons (.if_ (.cmp .GtE (.var 2) (.bin .Pow (.int 10) (.int 18))) (.cons (.ret (.lst (.cons (.bin .Sub (.var 2) (.bin .Pow (.int 10) (.int 18))) (.cons (.bin .Mult (.int 40009) (.bin .Add (.var 1) (.int 1))) (.cons (.int 0) .nil))))) .nil) .nil) (.cons (.ret (.lst (.cons (.int 0) (.cons (.bin .Add (.bin .Mod (.blt .int (.cons (.blt .abs (.cons (.var 2) .nil)) .nil)) (.int 2000000011)) (.bin .Mult (.int 7919) (.var 1))) (.cons (.int 0) .nil))))) .nil)))⟩
/-- _law_draw -/
def f_law_draw : Fd := ⟨"_law_draw", ["pool", "many"], ["pool", "many", "digit"], (.cons (.if_ (.cmp .Gt (.ix (.var 0) (.int 0)) (.int 0)) (.cons (.asg 2 (.bin .Mod (.blt .int (.cons (.ix (.var 0) (.int 0)) .nil)) (.var 1))) (.cons (.setI (.var 0) (.int 0) (.bin .FloorDiv (.ix (.var 0) (.int 0)) (.var 1))) (.cons (.ret (.var 2)) .nil))) .nil) (.cons (.setI (.var 0) (.int 2) (.bin .Add (.ix (.var 0) (.int 2)) (.int 1))) (.cons (.ret (.bin .Mod (.blt .int (.cons (.bin .FloorDiv (.call "_law_mix" (.cons (.bin .Add (.ix (.var 0) (.int 1)) (.bin .Mult (.int 7368787) (.ix (.var 0) (.int 2)))) .nil)) (.int 8)) .nil)) (.var 1))) .nil)))⟩
/-- _law_any_atom -/
def f_law_any_atom : Fd := ⟨"_law_any_atom", ["pool"], ["pool", "small", "atom", "k"], (.cons (.asg 1 (.str "abcdefghijklmnopqrstuvwxyz")) (.cons (.asg 2 (.ix (.var 1) (.call "_law_draw" (.cons (.var 0) (.cons (.int 26) .nil))))) (.cons (.for_ (.nm 3) (.rng (.cons (.call "_law_draw" (.cons (.var 0) (.cons (.int 8) .nil))) .nil)) (.cons (.asg 2 (.frz (.bin .Add (.var 2) (.ix (.bin .Add (.var 1) (.str "0123456789")) (.call "_law_draw" (.cons (.var 0) (.cons (.int 36) .nil))))))) .nil)) (.cons (.if_ (.cmp .Eq (.call "_law_draw" (.cons (.var 0) (.cons (.int 4) .nil))) (.int 3)) (.cons (.asg 2 (.bin .Add (.bin .Add (.var 2) (.str ".")) (.blt .str (.cons (.bin .Add (.int 1) (.call "_law_draw" (.cons (.var 0) (.cons (.int 999999) .nil)))) .nil)))) .nil) .nil) (.cons (.ret (.var 2)) .nil)))))⟩
/-- _law_size -/
def f_law_size : Fd := ⟨"_law_size", ["kind"], ["kind"], (.cons (.if_ (.isi (.var 0) [.str]) (.cons (.ret (.int 1)) .nil) .nil) (.cons (.ret (.frz (.bin .Add (.call "_law_size" (.cons (.ix (.var 0) (.int 1)) .nil)) (.call "_law_size" (.cons (.ix (.var 0) (.int 2)) .nil))))) .nil))⟩
/-- _law_atoms -/
def f_law_atoms : Fd := ⟨"_law_atoms", ["kind"], ["kind"], (.cons (.if_ (.isi (.var 0) [.str]) (.cons (.ret (.frz (.lst (.cons (.var 0) .nil)))) .nil) .nil) (.cons (.ret (.frz (.bin .Add (.call "_law_atoms" (.cons (.ix (.var 0) (.int 1)) .nil)) (.call "_law_atoms" (.cons (.ix (.var 0) (.int 2)) .nil))))) .nil))⟩
/-- _law_all_atoms -/
def f_law_all_atoms : Fd := ⟨"_law_all_atoms", ["line"], ["line", "found", "kind"], (.cons (.asg 1 (.frz (.lst .nil))) (.cons (.for_ (.nm 2) (.seq (.bin .Add (.ix (.var 0) (.int 0)) (.tup (.cons (.ix (.var 0) (.int 1)) .nil)))) (.cons (.asg 1 (.frz (.bin .Add (.var 1) (.call "_law_atoms" (.cons (.var 2) .nil))))) .nil)) (.cons (.ret (.var 1)) .nil)))⟩
/-- _law_kind -/
def f_law_kind : Fd := ⟨"_law_kind", ["pool", "names", "size"], ["pool", "names", "size", "left", "sign", "first"], (.cons (.if_ (.cmp .LtE (.var 2) (.int 1)) (.cons (.ret (.ix (.var 1) (.call "_law_draw" (.cons (.var 0) (.cons (.blt .len (.cons (.var 1) .nil)) .nil))))) .nil) .nil) (.cons (.asg 3 (.bin .Add (.int 1) (.call "_law_draw" (.cons (.var 0) (.cons (.bin .Sub (.var 2) (.int 1)) .nil))))) (.cons (.asg 4 (.ix (.str "/>*") (.call "_law_draw" (.cons (.var 0) (.cons (.int 3) .nil))))) (.cons (.asg 5 (.call "_law_kind" (.cons (.var 0) (.cons (.var 1) (.cons (.var 3) .nil))))) (.cons (.ret (.tup (.cons (.var 4) (.cons (.var 5) (.cons (.call "_law_kind" (.cons (.var 0) (.cons (.var 1) (.cons (.bin .Sub (.var 2) (.var 3)) .nil)))) .nil))))) .nil)))))⟩
/-- _law_line_of -/
def f_law_line_of : Fd := ⟨"_law_line_of", ["pool", "names", "many", "cap", "most"], ["pool", "names", "many", "cap", "most", "left", "row", "k", "goal", "size"], (.cons (.asg 5 (.bin .Sub (.var 4) (.int 1))) (.cons (.asg 6 (.lst .nil)) (.cons (.for_ (.nm 7) (.rng (.cons (.var 2) .nil)) (.cons (.if_ (.cmp .Gt (.var 5) (.int 0)) (.cons (.asg 9 (.bin .Add (.int 1) (.call "_law_draw" (.cons (.var 0) (.cons (.blt .min (.cons (.var 3) (.cons (.var 5) .nil))) .nil))))) (.cons (.ex (.mth .append (.var 6) (.cons (.call "_law_kind" (.cons (.var 0) (.cons (.var 1) (.cons (.var 9) .nil)))) .nil))) (.cons (.asg 5 (.bin .Sub (.var 5) (.var 9))) .nil))) .nil) .nil)) (.cons (.asg 8 (.call "_law_kind" (.cons (.var 0) (.cons (.var 1) (.cons (.bin .Add (.int 1) (.call "_law_draw" (.cons (.var 0) (.cons (.blt .min (.cons (.var 3) (.cons (.bin .Add (.var 5) (.int 1)) .nil))) .nil)))) .nil))))) (.cons (.ret (.tup (.cons (.blt .tuple (.cons (.var 6) .nil)) (.cons (.var 8) .nil)))) .nil)))))⟩
/-- _law_premise_steps -/
def f_law_premise_steps : Fd := ⟨"_law_premise_steps", ["row", "goal", "i"], ["row", "goal", "i", "kind", "found", "w", "rest"], (.cons (.asg 3 (.ix (.var 0) (.var 2))) (.cons (.asg 4 (.lst .nil)) (.cons (.if_ (.isi (.var 3) [.str]) (.cons (.ret (.frz (.var 4))) .nil) .nil) (.cons (.if_ (.cmp .Eq (.ix (.var 3) (.int 0)) (.str "*")) (.cons (.ret (.frz (.lst (.cons (.tup (.cons (.str "pair left") (.cons (.var 2) (.cons (.int 0) (.cons (.tup (.cons (.tup (.cons (.bin .Add (.bin .Add (.slc (.var 0) .nop (.var 2)) (.slc (.var 3) (.int 1) .nop)) (.slc (.var 0) (.bin .Add (.var 2) (.int 1)) .nop)) (.cons (.var 1) .nil))) .nil)) .nil))))) .nil)))) .nil) .nil) (.cons (.if_ (.cmp .Eq (.ix (.var 3) (.int 0)) (.str "/")) (.cons (.for_ (.nm 5) (.rng (.cons (.int 1) (.cons (.bin .Sub (.blt .len (.cons (.var 0) .nil)) (.var 2)) .nil))) (.cons (.asg 6 (.bin .Add (.bin .Add (.slc (.var 0) .nop (.var 2)) (.tup (.cons (.ix (.var 3) (.int 1)) .nil))) (.slc (.var 0) (.bin .Add (.bin .Add (.var 2) (.int 1)) (.var 5)) .nop))) (.cons (.ex (.mth .append (.var 4) (.cons (.tup (.cons (.str "over left") (.cons (.var 2) (.cons (.var 5) (.cons (.tup (.cons (.tup (.cons (.slc (.var 0) (.bin .Add (.var 2) (.int 1)) (.bin .Add (.bin .Add (.var 2) (.int 1)) (.var 5))) (.cons (.ix (.var 3) (.int 2)) .nil))) (.cons (.tup (.cons (.var 6) (.cons (.var 1) .nil))) .nil))) .nil))))) .nil))) .nil))) (.cons (.ret (.frz (.var 4))) .nil)) .nil) (.cons (.for_ (.nm 5) (.rng (.cons (.int 1) (.cons (.bin .Add (.var 2) (.int 1)) .nil))) (.cons (.asg 6 (.bin .Add (.bin .Add (.slc (.var 0) .nop (.bin .Sub (.var 2) (.var 5))) (.tup (.cons (.ix (.var 3) (.int 2)) .nil))) (.slc (.var 0) (.bin .Add (.var 2) (.int 1)) .nop))) (.cons (.ex (.mth .append (.var 4) (.cons (.tup (.cons (.str "under left") (.cons (.var 2) (.cons (.var 5) (.cons (.tup (.cons (.tup (.cons (.slc (.var 0) (.bin .Sub (.var 2) (.var 5)) (.var 2)) (.cons (.ix (.var 3) (.int 1)) .nil))) (.cons (.tup (.cons (.var 6) (.cons (.var 1) .nil))) .nil))) .nil))))) .nil))) .nil))) (.cons (.ret (.frz (.var 4))) .nil)))))))⟩
/-- _law_last_steps -/
def f_law_last_steps : Fd := ⟨"_law_last_steps", ["line"], ["line", "found", "i", "row", "goal", "k"], (.cons (.asgT (.tp [(.nm 3), (.nm 4)]) (.var 0)) (.cons (.asg 1 (.lst .nil)) (.cons (.if_ (.isi (.var 4) [.str]) (.cons (.if_ (.cmp .Eq (.var 3) (.tup (.cons (.var 4) .nil))) (.cons (.ex (.mth .append (.var 1) (.cons (.tup (.cons (.str "axiom") (.cons (.int 0) (.cons (.int 0) (.cons (.tup .nil) .nil))))) .nil))) .nil) .nil) .nil) (.cons (.if_ (.cmp .Eq (.ix (.var 4) (.int 0)) (.str "/")) (.cons (.ex (.mth .append (.var 1) (.cons (.tup (.cons (.str "over right") (.cons (.int 0) (.cons (.int 0) (.cons (.tup (.cons (.tup (.cons (.bin .Add (.var 3) (.tup (.cons (.ix (.var 4) (.int 2)) .nil))) (.cons (.ix (.var 4) (.int 1)) .nil))) .nil)) .nil))))) .nil))) .nil) (.cons (.if_ (.cmp .Eq (.ix (.var 4) (.int 0)) (.str ">")) (.cons (.ex (.mth .append (.var 1) (.cons (.tup (.cons (.str "under right") (.cons (.int 0) (.cons (.int 0) (.cons (.tup (.cons (.tup (.cons (.bin .Add (.tup (.cons (.ix (.var 4) (.int 1)) .nil)) (.var 3)) (.cons (.ix (.var 4) (.int 2)) .nil))) .nil)) .nil))))) .nil))) .nil) (.cons (.for_ (.nm 5) (.rng (.cons (.int 1) (.cons (.blt .len (.cons (.var 3) .nil)) .nil))) (.cons (.ex (.mth .append (.var 1) (.cons (.tup (.cons (.str "pair right") (.cons (.var 5) (.cons (.int 0) (.cons (.tup (.cons (.tup (.cons (.slc (.var 3) .nop (.var 5)) (.cons (.ix (.var 4) (.int 1)) .nil))) (.cons (.tup (.cons (.slc (.var 3) (.var 5) .nop) (.cons (.ix (.var 4) (.int 2)) .nil))) .nil))) .nil))))) .nil))) .nil)) .nil)) .nil)) .nil)) (.cons (.for_ (.nm 2) (.rng (.cons (.blt .len (.cons (.var 3) .nil)) .nil)) (.cons (.asg 1 (.bin .Add (.var 1) (.call "_law_premise_steps" (.cons (.var 3) (.cons (.var 4) (.cons (.var 2) .nil)))))) .nil)) (.cons (.ret (.frz (.var 1))) .nil)))))⟩
/-- _law_put -/
def f_law_put : Fd := ⟨"_law_put", ["kind", "box"], ["kind", "box", "first"], (.cons (.if_ (.isi (.var 0) [.str]) (.cons (.ret (.mth .pop (.var 1) .nil)) .nil) .nil) (.cons (.asg 2 (.call "_law_put" (.cons (.ix (.var 0) (.int 1)) (.cons (.var 1) .nil)))) (.cons (.ret (.tup (.cons (.ix (.var 0) (.int 0)) (.cons (.var 2) (.cons (.call "_law_put" (.cons (.ix (.var 0) (.int 2)) (.cons (.var 1) .nil))) .nil))))) .nil)))⟩
/-- _law_with_atoms -/
def f_law_with_atoms : Fd := ⟨"_law_with_atoms", ["line", "atoms"], ["line", "atoms", "box", "row", "kind"], (.cons (.asg 2 (.lrev (.var 1))) (.cons (.asg 3 (.blt .tuple (.cons (.lc (.seq (.ix (.var 0) (.int 0))) (.nm 4) .nop (.call "_law_put" (.cons (.var 4) (.cons (.var 2) .nil))) [4]) .nil))) (.cons (.ret (.tup (.cons (.var 3) (.cons (.call "_law_put" (.cons (.ix (.var 0) (.int 1)) (.cons (.var 2) .nil))) .nil)))) .nil)))⟩
/-- _law_opposite -/
def f_law_opposite : Fd := ⟨"_law_opposite", ["letters"], ["letters", "pair"], (.cons (.ret (.frz (.lc (.rev (.var 0)) (.nm 1) .nop (.tup (.cons (.ix (.var 1) (.int 0)) (.cons (.neg (.ix (.var 1) (.int 1))) .nil))) [1]))) .nil)⟩
/-- _law_letters -/
def f_law_letters : Fd := ⟨"_law_letters", ["kind", "start"], ["kind", "start", "first", "second"], (.cons (.if_ (.isi (.var 0) [.str]) (.cons (.ret (.frz (.lst (.cons (.tup (.cons (.var 1) (.cons (.int 1) .nil))) .nil)))) .nil) .nil) (.cons (.asg 2 (.call "_law_letters" (.cons (.ix (.var 0) (.int 1)) (.cons (.var 1) .nil)))) (.cons (.asg 3 (.call "_law_letters" (.cons (.ix (.var 0) (.int 2)) (.cons (.frz (.bin .Add (.var 1) (.call "_law_size" (.cons (.ix (.var 0) (.int 1)) .nil)))) .nil)))) (.cons (.if_ (.cmp .Eq (.ix (.var 0) (.int 0)) (.str "/")) (.cons (.ret (.frz (.bin .Add (.var 2) (.call "_law_opposite" (.cons (.var 3) .nil))))) .nil) .nil) (.cons (.if_ (.cmp .Eq (.ix (.var 0) (.int 0)) (.str ">")) (.cons (.ret (.frz (.bin .Add (.call "_law_opposite" (.cons (.var 2) .nil)) (.var 3)))) .nil) .nil) (.cons (.ret (.frz (.bin .Add (.var 2) (.var 3)))) .nil))))))⟩
/-- _law_letter_row -/
def f_law_letter_row : Fd := ⟨"_law_letter_row", ["line"], ["line", "found", "start", "kind"], (.cons (.asg 1 (.frz (.lst .nil))) (.cons (.asg 2 (.int 0)) (.cons (.for_ (.nm 3) (.seq (.ix (.var 0) (.int 0))) (.cons (.asg 1 (.frz (.bin .Add (.var 1) (.call "_law_letters" (.cons (.var 3) (.cons (.var 2) .nil)))))) (.cons (.asg 2 (.frz (.bin .Add (.var 2) (.call "_law_size" (.cons (.var 3) .nil))))) .nil))) (.cons (.ret (.frz (.bin .Add (.var 1) (.call "_law_opposite" (.cons (.call "_law_letters" (.cons (.ix (.var 0) (.int 1)) (.cons (.var 2) .nil))) .nil))))) .nil))))⟩
/-- _law_is_integer -/
def f_law_is_integer : Fd := ⟨"_law_is_integer", ["told"], ["told"], (.cons (.ret (.and_ (.isi (.var 0) [.int]) (.one (.not_ (.isi (.var 0) [.bool]))))) .nil)⟩
/-- _law_is_places -/
def f_law_is_places : Fd := ⟨"_law_is_places", ["told", "due"], ["told", "due", "k"], (.cons (.if_ (.or_ (.not_ (.isi (.var 0) [.tuple])) (.one (.cmp .NotEq (.blt .len (.cons (.var 0) .nil)) (.blt .len (.cons (.var 1) .nil))))) (.cons (.ret (.bl false)) .nil) .nil) (.cons (.for_ (.nm 2) (.rng (.cons (.blt .len (.cons (.var 1) .nil)) .nil)) (.cons (.if_ (.or_ (.not_ (.call "_law_is_integer" (.cons (.ix (.var 0) (.var 2)) .nil))) (.one (.cmp .NotEq (.ix (.var 0) (.var 2)) (.ix (.var 1) (.var 2))))) (.cons (.ret (.bl false)) .nil) .nil) .nil)) (.cons (.ret (.bl true)) .nil)))⟩
/-- _law_drawn -/
def f_law_drawn : Fd := ⟨"_law_drawn", ["pool", "names"], ["pool", "names", "way", "many"], (.cons (.asg 2 (.call "_law_draw" (.cons (.var 0) (.cons (.int 8) .nil)))) (.cons (.if_ (.cmp .Lt (.var 2) (.int 5)) (.cons (.ret (.call "_law_line_of" (.cons (.var 0) (.cons (.var 1) (.cons (.bin .Add (.int 1) (.call "_law_draw" (.cons (.var 0) (.cons (.int 7) .nil)))) (.cons (.bin .Add (.int 1) (.call "_law_draw" (.cons (.var 0) (.cons (.int 5) .nil)))) (.cons (.int 24) .nil))))))) .nil) .nil) (.cons (.asg 3 (.bin .Add (.int 1) (.call "_law_draw" (.cons (.var 0) (.cons (.ix (.lst (.cons (.int 40) (.cons (.int 14) (.cons (.int 4) .nil)))) (.bin .Sub (.var 2) (.int 5))) .nil))))) (.cons (.ret (.call "_law_line_of" (.cons (.var 0) (.cons (.var 1) (.cons (.var 3) (.cons (.ix (.lst (.cons (.int 2) (.cons (.int 6) (.cons (.int 40) .nil)))) (.bin .Sub (.var 2) (.int 5))) (.cons (.int 80) .nil))))))) .nil))))⟩
/-- _law_chosen -/
def f_law_chosen : Fd := ⟨"_law_chosen", ["pool", "many"], ["pool", "many", "k"], (.cons (.if_ (.cmp .LtE (.var 1) (.int 12)) (.cons (.ret (.frz (.rngs false (.cons (.var 1) .nil)))) .nil) .nil) (.cons (.ret (.frz (.bin .Add (.lst (.cons (.int 0) (.cons (.bin .Sub (.var 1) (.int 1)) .nil))) (.lc (.rng (.cons (.int 10) .nil)) (.nm 2) .nop (.call "_law_draw" (.cons (.var 0) (.cons (.var 1) .nil))) [2])))) .nil))⟩
/-- _law_is_row -/
def f_law_is_row : Fd := ⟨"_law_is_row", ["told", "due"], ["told", "due", "k"], (.cons (.if_ (.or_ (.not_ (.isi (.var 0) [.tuple])) (.one (.cmp .NotEq (.blt .len (.cons (.var 0) .nil)) (.blt .len (.cons (.var 1) .nil))))) (.cons (.ret (.bl false)) .nil) .nil) (.cons (.for_ (.nm 2) (.rng (.cons (.blt .len (.cons (.var 1) .nil)) .nil)) (.cons (.if_ (.not_ (.call "_law_is_places" (.cons (.ix (.var 0) (.var 2)) (.cons (.ix (.var 1) (.var 2)) .nil)))) (.cons (.ret (.bl false)) .nil) .nil) .nil)) (.cons (.ret (.bl true)) .nil)))⟩
/-- _law_is_atoms -/
def f_law_is_atoms : Fd := ⟨"_law_is_atoms", ["told", "due"], ["told", "due", "k"], (.cons (.if_ (.or_ (.not_ (.isi (.var 0) [.tuple])) (.one (.cmp .NotEq (.blt .len (.cons (.var 0) .nil)) (.blt .len (.cons (.var 1) .nil))))) (.cons (.ret (.bl false)) .nil) .nil) (.cons (.ret (.cmp .Eq (.blt .len (.cons (.lc (.rng (.cons (.blt .len (.cons (.var 1) .nil)) .nil)) (.nm 2) (.or_ (.not_ (.isi (.ix (.var 0) (.var 2)) [.str])) (.one (.cmp .NotEq (.ix (.var 0) (.var 2)) (.ix (.var 1) (.var 2))))) (.var 2) [2]) .nil)) (.int 0))) .nil))⟩
/-- _law_read -/
def f_law_read : Fd := ⟨"_law_read", ["part"], ["part", "atom"], (.cons (.ret (.frz (.lc (.seq (.call "_law_all_atoms" (.cons (.var 0) .nil))) (.nm 1) .nop (.blt .int (.cons (.var 1) .nil)) [1]))) .nil)⟩
/-- law -/
def f_law : Fd := ⟨"law", ["script"], ["script", "pool", "names", "line", "atoms", "steps", "marked", "chosen", "turn", "told", "k", "step", "due", "part"], (.cons (.asg 1 (.call "_law_pool" (.cons (.var 0) (.cons (.int 0) .nil)))) (.cons (.asg 2 (.frz (.lc (.rng (.cons (.bin .Add (.int 1) (.call "_law_draw" (.cons (.var 1) (.cons (.int 3) .nil)))) .nil)) (.nm 10) .nop (.call "_law_any_atom" (.cons (.var 1) .nil)) [10]))) (.cons (.asg 3 (.call "_law_drawn" (.cons (.var 1) (.cons (.var 2) .nil)))) (.cons (.asg 4 (.call "_law_all_atoms" (.cons (.var 3) .nil))) (.cons (.asg 5 (.frz (.lc (.seq (.call "_law_last_steps" (.cons (.var 3) .nil))) (.nm 11) (.cmp .NotEq (.ix (.var 11) (.int 0)) (.str "axiom")) (.var 11) [11]))) (.cons (.asg 6 (.call "_law_last_steps" (.cons (.call "_law_with_atoms" (.cons (.var 3) (.cons (.frz (.lc (.rng (.cons (.blt .len (.cons (.var 4) .nil)) .nil)) (.nm 10) .nop (.blt .str (.cons (.var 10) .nil)) [10])) .nil))) .nil))) (.cons (.asg 7 (.call "_law_chosen" (.cons (.call "_law_pool" (.cons (.var 0) (.cons (.int 1) .nil))) (.cons (.blt .len (.cons (.var 5) .nil)) .nil)))) (.cons (.for_ (.nm 8) (.rng (.cons (.int 2) .nil)) (.cons (.if_ (.not_ (.call "_law_is_atoms" (.cons (.call "sequent_atoms" (.cons (.var 3) .nil)) (.cons (.var 4) .nil)))) (.cons (.ret (.bl false)) .nil) .nil) (.cons (.if_ (.not_ (.call "_law_is_row" (.cons (.call "letter_row" (.cons (.var 3) .nil)) (.cons (.call "_law_letter_row" (.cons (.var 3) .nil)) .nil)))) (.cons (.ret (.bl false)) .nil) .nil) (.cons (.for_ (.nm 10) (.seq (.var 7)) (.cons (.asg 12 (.frz (.lc (.seq (.ix (.ix (.var 6) (.var 10)) (.int 3))) (.nm 13) .nop (.call "_law_read" (.cons (.var 13) .nil)) [13]))) (.cons (.if_ (.not_ (.call "_law_is_row" (.cons (.call "part_places" (.cons (.var 3) (.cons (.ix (.var 5) (.var 10)) .nil))) (.cons (.var 12) .nil)))) (.cons (.ret (.bl false)) .nil) .nil) .nil))) .nil)))) (.cons (.asg 9 (.call "part_places" (.cons (.tup (.cons (.tup (.cons (.ix (.var 2) (.int 0)) .nil)) (.cons (.ix (.var 2) (.int 0)) .nil))) (.cons (.tup (.cons (.str "axiom") (.cons (.int 0) (.cons (.int 0) (.cons (.tup .nil) .nil))))) .nil)))) (.cons (.ret (.and_ (.isi (.var 9) [.tuple]) (.one (.cmp .Eq (.blt .len (.cons (.var 9) .nil)) (.int 0))))) .nil))))))))))⟩
def dfs : List Df := [⟨f_size_of, defArgs (top 2), defBody (top 2), defScope (top 2)⟩, ⟨f_atoms_of, defArgs (top 3), defBody (top 3), defScope (top 3)⟩, ⟨f_sequent_atoms, defArgs (top 5), defBody (top 5), defScope (top 5)⟩, ⟨f_place_rows, defArgs (top 6), defBody (top 6), defScope (top 6)⟩, ⟨f_split_row, defArgs (top 7), defBody (top 7), defScope (top 7)⟩, ⟨f_goal_part_rows, defArgs (top 8), defBody (top 8), defScope (top 8)⟩, ⟨f_premise_part_rows, defArgs (top 9), defBody (top 9), defScope (top 9)⟩, ⟨f_part_places, defArgs (top 10), defBody (top 10), defScope (top 10)⟩, ⟨f_push_letters_at, defArgs (top 11), defBody (top 11), defScope (top 11)⟩, ⟨f_letter_row, defArgs (top 12), defBody (top 12), defScope (top 12)⟩, ⟨f_law_cell, defArgs (top 14), defBody (top 14), defScope (top 14)⟩, ⟨f_law_mix, defArgs (top 15), defBody (top 15), defScope (top 15)⟩, ⟨f_law_pool, defArgs (top 16), defBody (top 16), defScope (top 16)⟩, ⟨f_law_draw, defArgs (top 17), defBody (top 17), defScope (top 17)⟩, ⟨f_law_any_atom, defArgs (top 18), defBody (top 18), defScope (top 18)⟩, ⟨f_law_size, defArgs (top 19), defBody (top 19), defScope (top 19)⟩, ⟨f_law_atoms, defArgs (top 20), defBody (top 20), defScope (top 20)⟩, ⟨f_law_all_atoms, defArgs (top 21), defBody (top 21), defScope (top 21)⟩, ⟨f_law_kind, defArgs (top 22), defBody (top 22), defScope (top 22)⟩, ⟨f_law_line_of, defArgs (top 23), defBody (top 23), defScope (top 23)⟩, ⟨f_law_premise_steps, defArgs (top 24), defBody (top 24), defScope (top 24)⟩, ⟨f_law_last_steps, defArgs (top 25), defBody (top 25), defScope (top 25)⟩, ⟨f_law_put, defArgs (top 26), defBody (top 26), defScope (top 26)⟩, ⟨f_law_with_atoms, defArgs (top 27), defBody (top 27), defScope (top 27)⟩, ⟨f_law_opposite, defArgs (top 28), defBody (top 28), defScope (top 28)⟩, ⟨f_law_letters, defArgs (top 29), defBody (top 29), defScope (top 29)⟩, ⟨f_law_letter_row, defArgs (top 30), defBody (top 30), defScope (top 30)⟩, ⟨f_law_is_integer, defArgs (top 31), defBody (top 31), defScope (top 31)⟩, ⟨f_law_is_places, defArgs (top 32), defBody (top 32), defScope (top 32)⟩, ⟨f_law_drawn, defArgs (top 33), defBody (top 33), defScope (top 33)⟩, ⟨f_law_chosen, defArgs (top 34), defBody (top 34), defScope (top 34)⟩, ⟨f_law_is_row, defArgs (top 35), defBody (top 35), defScope (top 35)⟩, ⟨f_law_is_atoms, defArgs (top 36), defBody (top 36), defScope (top 36)⟩, ⟨f_law_read, defArgs (top 37), defBody (top 37), defScope (top 37)⟩, ⟨f_law, defArgs (top 38), defBody (top 38), defScope (top 38)⟩]
theorem dfs_bi : ∀ d ∈ dfs, BindD d := by
  refine List.forall_mem_cons.mpr ⟨fun _ _ _ _ _ _ us hl => match us, hl with | [_], _ => rfl, ?_⟩
  refine List.forall_mem_cons.mpr ⟨fun _ _ _ _ _ _ us hl => match us, hl with | [_], _ => rfl, ?_⟩
  refine List.forall_mem_cons.mpr ⟨fun _ _ _ _ _ _ us hl => match us, hl with | [_], _ => rfl, ?_⟩
  refine List.forall_mem_cons.mpr ⟨fun _ _ _ _ _ _ us hl => match us, hl with | [_], _ => rfl, ?_⟩
  refine List.forall_mem_cons.mpr ⟨fun _ _ _ _ _ _ us hl => match us, hl with | [_, _], _ => rfl, ?_⟩
  refine List.forall_mem_cons.mpr ⟨fun _ _ _ _ _ _ us hl => match us, hl with | [_, _, _, _, _], _ => rfl, ?_⟩
  refine List.forall_mem_cons.mpr ⟨fun _ _ _ _ _ _ us hl => match us, hl with | [_, _, _, _, _, _], _ => rfl, ?_⟩
  refine List.forall_mem_cons.mpr ⟨fun _ _ _ _ _ _ us hl => match us, hl with | [_, _], _ => rfl, ?_⟩
  refine List.forall_mem_cons.mpr ⟨fun _ _ _ _ _ _ us hl => match us, hl with | [_, _, _, _], _ => rfl, ?_⟩
  refine List.forall_mem_cons.mpr ⟨fun _ _ _ _ _ _ us hl => match us, hl with | [_], _ => rfl, ?_⟩
  refine List.forall_mem_cons.mpr ⟨fun _ _ _ _ _ _ us hl => match us, hl with | [_, _], _ => rfl, ?_⟩
  refine List.forall_mem_cons.mpr ⟨fun _ _ _ _ _ _ us hl => match us, hl with | [_], _ => rfl, ?_⟩
  refine List.forall_mem_cons.mpr ⟨fun _ _ _ _ _ _ us hl => match us, hl with | [_, _], _ => rfl, ?_⟩
  refine List.forall_mem_cons.mpr ⟨fun _ _ _ _ _ _ us hl => match us, hl with | [_, _], _ => rfl, ?_⟩
  refine List.forall_mem_cons.mpr ⟨fun _ _ _ _ _ _ us hl => match us, hl with | [_], _ => rfl, ?_⟩
  refine List.forall_mem_cons.mpr ⟨fun _ _ _ _ _ _ us hl => match us, hl with | [_], _ => rfl, ?_⟩
  refine List.forall_mem_cons.mpr ⟨fun _ _ _ _ _ _ us hl => match us, hl with | [_], _ => rfl, ?_⟩
  refine List.forall_mem_cons.mpr ⟨fun _ _ _ _ _ _ us hl => match us, hl with | [_], _ => rfl, ?_⟩
  refine List.forall_mem_cons.mpr ⟨fun _ _ _ _ _ _ us hl => match us, hl with | [_, _, _], _ => rfl, ?_⟩
  refine List.forall_mem_cons.mpr ⟨fun _ _ _ _ _ _ us hl => match us, hl with | [_, _, _, _, _], _ => rfl, ?_⟩
  refine List.forall_mem_cons.mpr ⟨fun _ _ _ _ _ _ us hl => match us, hl with | [_, _, _], _ => rfl, ?_⟩
  refine List.forall_mem_cons.mpr ⟨fun _ _ _ _ _ _ us hl => match us, hl with | [_], _ => rfl, ?_⟩
  refine List.forall_mem_cons.mpr ⟨fun _ _ _ _ _ _ us hl => match us, hl with | [_, _], _ => rfl, ?_⟩
  refine List.forall_mem_cons.mpr ⟨fun _ _ _ _ _ _ us hl => match us, hl with | [_, _], _ => rfl, ?_⟩
  refine List.forall_mem_cons.mpr ⟨fun _ _ _ _ _ _ us hl => match us, hl with | [_], _ => rfl, ?_⟩
  refine List.forall_mem_cons.mpr ⟨fun _ _ _ _ _ _ us hl => match us, hl with | [_, _], _ => rfl, ?_⟩
  refine List.forall_mem_cons.mpr ⟨fun _ _ _ _ _ _ us hl => match us, hl with | [_], _ => rfl, ?_⟩
  refine List.forall_mem_cons.mpr ⟨fun _ _ _ _ _ _ us hl => match us, hl with | [_], _ => rfl, ?_⟩
  refine List.forall_mem_cons.mpr ⟨fun _ _ _ _ _ _ us hl => match us, hl with | [_, _], _ => rfl, ?_⟩
  refine List.forall_mem_cons.mpr ⟨fun _ _ _ _ _ _ us hl => match us, hl with | [_, _], _ => rfl, ?_⟩
  refine List.forall_mem_cons.mpr ⟨fun _ _ _ _ _ _ us hl => match us, hl with | [_, _], _ => rfl, ?_⟩
  refine List.forall_mem_cons.mpr ⟨fun _ _ _ _ _ _ us hl => match us, hl with | [_, _], _ => rfl, ?_⟩
  refine List.forall_mem_cons.mpr ⟨fun _ _ _ _ _ _ us hl => match us, hl with | [_, _], _ => rfl, ?_⟩
  refine List.forall_mem_cons.mpr ⟨fun _ _ _ _ _ _ us hl => match us, hl with | [_], _ => rfl, ?_⟩
  refine List.forall_mem_cons.mpr ⟨fun _ _ _ _ _ _ us hl => match us, hl with | [_], _ => rfl, ?_⟩
  exact fun _ h => nomatch h
-- retnew: ['_law_pool', 'place_rows']
-- mut: {'sequent_atoms': ['atoms'], 'place_rows': ['rows'], 'part_places': ['rows'], 'push_letters_at': ['letters'], 'letter_row': ['letters'], '_law_draw': ['pool'], '_law_any_atom': ['pool'], '_law_kind': ['pool'], '_law_line_of': ['pool', 'row'], '_law_premise_steps': ['found'], '_law_last_steps': ['found'], '_law_put': ['box'], '_law_with_atoms': ['box'], '_law_drawn': ['pool'], '_law_chosen': ['pool'], 'law': ['pool']}
theorem dfs_ok : (dfs.all (okD dfs)) = true := by decide +kernel
theorem tabOk : TabOk dfs := ⟨by decide +kernel, fun d h => List.all_eq_true.mp dfs_ok d h, dfs_bi⟩
end Tab

set_option maxHeartbeats 400000
namespace Tab
open PySem PySem.Spec PyProof.Rows L2 Fw
def gs : Glos := []
def ks : Kds := [("WAYS", [("/", .tup [.int 1, .int (-1)]), (">", .tup [.int (-1), .int 1]), ("*", .tup [.int 1, .int 1])])]
def wf : Nat := 0
abbrev cl (n : Nat) : Str → List Fw.Arg → Option (Fw.T × List Sl) := callN (tabOf dfs) (fun x => gs.lookup x) wf (fun x => ks.lookup x) n
abbrev cf (n : Nat) : Cfg := ⟨cl n, fun x => gs.lookup x, wf, fun x => ks.lookup x⟩
theorem cl_by {n : Nat} {fd : Fd} (h : fd ∈ tabOf dfs) (args : List Fw.Arg) : cl (n + 1) fd.name args = runF (cf n) fd args := by
  show ((tabOf dfs).find? fun d => d.name == fd.name).bind _ = _
  rw [find_name tabOk.nd h]
  rfl
theorem m_size_of : f_size_of ∈ tabOf dfs := by unfold tabOf dfs; simp
theorem m_atoms_of : f_atoms_of ∈ tabOf dfs := by unfold tabOf dfs; simp
theorem m_sequent_atoms : f_sequent_atoms ∈ tabOf dfs := by unfold tabOf dfs; simp
theorem m_place_rows : f_place_rows ∈ tabOf dfs := by unfold tabOf dfs; simp
theorem m_split_row : f_split_row ∈ tabOf dfs := by unfold tabOf dfs; simp
theorem m_goal_part_rows : f_goal_part_rows ∈ tabOf dfs := by unfold tabOf dfs; simp
theorem m_premise_part_rows : f_premise_part_rows ∈ tabOf dfs := by unfold tabOf dfs; simp
theorem m_part_places : f_part_places ∈ tabOf dfs := by unfold tabOf dfs; simp
theorem m_push_letters_at : f_push_letters_at ∈ tabOf dfs := by unfold tabOf dfs; simp
theorem m_letter_row : f_letter_row ∈ tabOf dfs := by unfold tabOf dfs; simp
theorem m_law_cell : f_law_cell ∈ tabOf dfs := by unfold tabOf dfs; simp
theorem m_law_mix : f_law_mix ∈ tabOf dfs := by unfold tabOf dfs; simp
theorem m_law_pool : f_law_pool ∈ tabOf dfs := by unfold tabOf dfs; simp
theorem m_law_draw : f_law_draw ∈ tabOf dfs := by unfold tabOf dfs; simp
theorem m_law_any_atom : f_law_any_atom ∈ tabOf dfs := by unfold tabOf dfs; simp
theorem m_law_size : f_law_size ∈ tabOf dfs := by unfold tabOf dfs; simp
theorem m_law_atoms : f_law_atoms ∈ tabOf dfs := by unfold tabOf dfs; simp
theorem m_law_all_atoms : f_law_all_atoms ∈ tabOf dfs := by unfold tabOf dfs; simp
theorem m_law_kind : f_law_kind ∈ tabOf dfs := by unfold tabOf dfs; simp
theorem m_law_line_of : f_law_line_of ∈ tabOf dfs := by unfold tabOf dfs; simp
theorem m_law_premise_steps : f_law_premise_steps ∈ tabOf dfs := by unfold tabOf dfs; simp
theorem m_law_last_steps : f_law_last_steps ∈ tabOf dfs := by unfold tabOf dfs; simp
theorem m_law_put : f_law_put ∈ tabOf dfs := by unfold tabOf dfs; simp
theorem m_law_with_atoms : f_law_with_atoms ∈ tabOf dfs := by unfold tabOf dfs; simp
theorem m_law_opposite : f_law_opposite ∈ tabOf dfs := by unfold tabOf dfs; simp
theorem m_law_letters : f_law_letters ∈ tabOf dfs := by unfold tabOf dfs; simp
theorem m_law_letter_row : f_law_letter_row ∈ tabOf dfs := by unfold tabOf dfs; simp
theorem m_law_is_integer : f_law_is_integer ∈ tabOf dfs := by unfold tabOf dfs; simp
theorem m_law_is_places : f_law_is_places ∈ tabOf dfs := by unfold tabOf dfs; simp
theorem m_law_drawn : f_law_drawn ∈ tabOf dfs := by unfold tabOf dfs; simp
theorem m_law_chosen : f_law_chosen ∈ tabOf dfs := by unfold tabOf dfs; simp
theorem m_law_is_row : f_law_is_row ∈ tabOf dfs := by unfold tabOf dfs; simp
theorem m_law_is_atoms : f_law_is_atoms ∈ tabOf dfs := by unfold tabOf dfs; simp
theorem m_law_read : f_law_read ∈ tabOf dfs := by unfold tabOf dfs; simp
theorem m_law : f_law ∈ tabOf dfs := by unfold tabOf dfs; simp

abbrev Sgn := Str
inductive Kd where
  | at (s : Str) | op (c : Str) (a b : Kd)
def Kd.d : Kd → D
  | .at s => .str s
  | .op c a b => .tup [.str c, a.d, b.d]
def Kd.sz : Kd → Nat
  | .at _ => 1
  | .op _ a b => a.sz + b.sz
def Kd.dep : Kd → Nat
  | .at _ => 0
  | .op _ a b => max a.dep b.dep + 1
def Kd.ats : Kd → List Str
  | .at s => [s]
  | .op _ a b => a.ats ++ b.ats
theorem Kd.ats_len : ∀ k : Kd, k.ats.length = k.sz
  | .at _ => rfl
  | .op _ a b => by
    show (a.ats ++ b.ats).length = a.sz + b.sz
    rw [List.length_append, a.ats_len, b.ats_len]
theorem Kd.dep_lt : ∀ k : Kd, k.dep < k.sz
  | .at _ => Nat.zero_lt_one
  | .op _ a b => by
    have h1 := a.dep_lt
    have h2 := b.dep_lt
    show max a.dep b.dep + 1 < a.sz + b.sz
    omega
theorem szl' : (10000 : Nat) ≤ sizeLine := by decide
/-- by its body -/
theorem pure_by {n : Nat} {fd : Fd} {ds : List D} {r : D} (h : fd ∈ tabOf dfs) (hl : ds.length = fd.ps.length) (hN : ds.length ≤ fd.N.length)
    (e : Run (exSs (cf n) fd.body (ds.map Sl.d ++ List.replicate (fd.N.length - ds.length) .no)) fun fl ρ => fl = .rt (.d r) ∧ ds.length ≤ ρ.length) : Pure (cl (n + 1)) fd.name ds r := by
  obtain ⟨fl, ρ, e, rfl, l⟩ := e
  refine ⟨ρ.take ds.length, (cl_by h _).trans ?_, by rw [List.length_take]; omega⟩
  unfold runF
  rw [if_pos (by rw [List.length_map]; exact hl)]
  have e1 : (ds.map Fw.Arg.fr).map argSl = ds.map Sl.d := by rw [List.map_map]; rfl
  rw [e1, List.length_map, e]
  rfl
theorem pureN_by {n : Nat} {fd : Fd} {ds : List D} {r : List D} (h : fd ∈ tabOf dfs) (hl : ds.length = fd.ps.length) (hN : ds.length ≤ fd.N.length)
    (e : Run (exSs (cf n) fd.body (ds.map Sl.d ++ List.replicate (fd.N.length - ds.length) .no)) fun fl ρ => fl = .rt (.new (.lst r)) ∧ ds.length ≤ ρ.length) : PureN (cl (n + 1)) fd.name ds r := by
  obtain ⟨fl, ρ, e, rfl, l⟩ := e
  refine ⟨ρ.take ds.length, (cl_by h _).trans ?_, by rw [List.length_take]; omega⟩
  unfold runF
  rw [if_pos (by rw [List.length_map]; exact hl)]
  have e1 : (ds.map Fw.Arg.fr).map argSl = ds.map Sl.d := by rw [List.map_map]; rfl
  rw [e1, List.length_map, e]
  rfl
/-- .. its first argument lent -/
theorem pol_by {n : Nat} {fd : Fd} {o o' : O} {ds : List D} {r : D} (h : fd ∈ tabOf dfs) (hl : ds.length + 1 = fd.ps.length) (hN : ds.length + 1 ≤ fd.N.length)
    (e : Run (exSs (cf n) fd.body (.bor o :: (ds.map Sl.d ++ List.replicate (fd.N.length - (ds.length + 1)) .no))) fun fl ρ => fl = .rt (.d r) ∧ ds.length + 1 ≤ ρ.length ∧ ρ[0]? = some (.bor o')) : Pol (cl (n + 1)) fd.name o ds r o' := by
  obtain ⟨fl, ρ, e, rfl, l, h0⟩ := e
  cases ρ with
  | nil => simp at h0
  | cons s ρ =>
    simp at h0
    subst h0
    refine ⟨ρ.take ds.length, (cl_by h _).trans ?_, by rw [List.length_take]; rw [List.length_cons] at l; omega⟩
    unfold runF
    rw [if_pos (by rw [List.length_cons, List.length_map]; exact hl)]
    have e1 : (Fw.Arg.bo o :: ds.map Fw.Arg.fr).map argSl = .bor o :: ds.map Sl.d := by rw [List.map_cons, List.map_map]; rfl
    rw [e1, List.length_cons, List.length_map, List.cons_append, e]
    rfl
theorem e_size_of (k : Kd) : ∀ n, k.dep < n → Pure (cl n) "size_of" [k.d] (.int (k.sz : Nat)) := by
  induction k with
  | «at» s =>
    intro n hn
    obtain ⟨n, rfl⟩ : ∃ m, n = m + 1 := ⟨n - 1, by omega⟩
    refine pure_by m_size_of rfl (Nat.le_of_ble_eq_true rfl) ?_
    simp -implicitDefEqProofs [f_size_of, Kd.d, Kd.sz]
  | op c a b iha ihb =>
    intro n hn
    obtain ⟨n, rfl⟩ : ∃ m, n = m + 1 := ⟨n - 1, by omega⟩
    have hd : (Kd.op c a b).dep = max a.dep b.dep + 1 := rfl
    have h1 := iha n (by omega)
    have h2 := ihb n (by omega)
    refine pure_by m_size_of rfl (Nat.le_of_ble_eq_true rfl) ?_
    simp -implicitDefEqProofs [f_size_of, Kd.d, Kd.sz, call_p1 h1, call_p1 h2]
theorem e_law_size (k : Kd) : ∀ n, k.dep < n → Pure (cl n) "_law_size" [k.d] (.int (k.sz : Nat)) := by
  induction k with
  | «at» s =>
    intro n hn
    obtain ⟨n, rfl⟩ : ∃ m, n = m + 1 := ⟨n - 1, by omega⟩
    refine pure_by m_law_size rfl (Nat.le_of_ble_eq_true rfl) ?_
    simp -implicitDefEqProofs [f_law_size, Kd.d, Kd.sz]
  | op c a b iha ihb =>
    intro n hn
    obtain ⟨n, rfl⟩ : ∃ m, n = m + 1 := ⟨n - 1, by omega⟩
    have hd : (Kd.op c a b).dep = max a.dep b.dep + 1 := rfl
    have h1 := iha n (by omega)
    have h2 := ihb n (by omega)
    refine pure_by m_law_size rfl (Nat.le_of_ble_eq_true rfl) ?_
    simp -implicitDefEqProofs [f_law_size, Kd.d, Kd.sz, call_p1 h1, call_p1 h2]
theorem e_atoms_of (k : Kd) : ∀ n, k.dep < n → k.sz ≤ 10000 → Pure (cl n) "atoms_of" [k.d] (.tup (k.ats.map .str)) := by
  induction k with
  | «at» s =>
    intro n hn hz
    obtain ⟨n, rfl⟩ : ∃ m, n = m + 1 := ⟨n - 1, by omega⟩
    refine pure_by m_atoms_of rfl (Nat.le_of_ble_eq_true rfl) ?_
    simp -implicitDefEqProofs [f_atoms_of, Kd.d, Kd.ats]
  | op c a b iha ihb =>
    intro n hn hz
    obtain ⟨n, rfl⟩ : ∃ m, n = m + 1 := ⟨n - 1, by omega⟩
    have hd : (Kd.op c a b).dep = max a.dep b.dep + 1 := rfl
    have hs : (Kd.op c a b).sz = a.sz + b.sz := rfl
    have h1 := iha n (by omega) (by omega)
    have h2 := ihb n (by omega) (by omega)
    have h3 : a.sz + b.sz ≤ sizeLine := Nat.le_trans (by omega) szl'
    refine pure_by m_atoms_of rfl (Nat.le_of_ble_eq_true rfl) ?_
    simp -implicitDefEqProofs [f_atoms_of, Kd.d, Kd.ats, call_p1 h1, call_p1 h2, Kd.ats_len, h3]
theorem e_law_atoms (k : Kd) : ∀ n, k.dep < n → k.sz ≤ 10000 → Pure (cl n) "_law_atoms" [k.d] (.lst (k.ats.map .str)) := by
  induction k with
  | «at» s =>
    intro n hn hz
    obtain ⟨n, rfl⟩ : ∃ m, n = m + 1 := ⟨n - 1, by omega⟩
    refine pure_by m_law_atoms rfl (Nat.le_of_ble_eq_true rfl) ?_
    simp -implicitDefEqProofs [f_law_atoms, Kd.d, Kd.ats]
  | op c a b iha ihb =>
    intro n hn hz
    obtain ⟨n, rfl⟩ : ∃ m, n = m + 1 := ⟨n - 1, by omega⟩
    have hd : (Kd.op c a b).dep = max a.dep b.dep + 1 := rfl
    have hs : (Kd.op c a b).sz = a.sz + b.sz := rfl
    have h1 := iha n (by omega) (by omega)
    have h2 := ihb n (by omega) (by omega)
    have h3 : a.sz + b.sz ≤ sizeLine := Nat.le_trans (by omega) szl'
    refine pure_by m_law_atoms rfl (Nat.le_of_ble_eq_true rfl) ?_
    simp -implicitDefEqProofs [f_law_atoms, Kd.d, Kd.ats, call_p1 h1, call_p1 h2, Kd.ats_len, h3]
/-! ### lines -/
abbrev Line := List Kd × Kd
def Line.d (l : Line) : D := .tup [.tup (l.1.map Kd.d), l.2.d]
def Line.all (l : Line) : List Kd := l.1 ++ [l.2]
def Line.sz (l : Line) : Nat := (l.all.map Kd.sz).sum
def Line.ats (l : Line) : List Str := l.all.flatMap Kd.ats
theorem Line.all_d (l : Line) : l.1.map Kd.d ++ [l.2.d] = l.all.map Kd.d := by simp [Line.all]
theorem sum_take_le : ∀ (l : List Nat) (i : Nat), (l.take i).sum ≤ l.sum
  | [], i => by simp
  | a :: l, 0 => by simp
  | a :: l, i + 1 => by
    have := sum_take_le l i
    simp
    omega
theorem mem_le_sum : ∀ {l : List Nat} {a : Nat}, a ∈ l → a ≤ l.sum
  | b :: l, a, h => by
    rcases List.mem_cons.mp h with rfl | h
    · simp
    · have := mem_le_sum h
      simp
      omega
theorem flat_len (l : List Kd) : (l.flatMap Kd.ats).length = (l.map Kd.sz).sum := by
  induction l with
  | nil => rfl
  | cons k l ih => simp [Kd.ats_len, ih]
/-- a line not too large -/
structure LOk (l : Line) : Prop where
  len : l.all.length ≤ 200
  sz : l.sz ≤ 5000
  dep : ∀ k ∈ l.all, k.dep < 60
theorem LOk.one {l : Line} (h : LOk l) {k : Kd} (m : k ∈ l.all) : k.sz ≤ 5000 := Nat.le_trans (mem_le_sum (List.mem_map.mpr ⟨k, m, rfl⟩)) h.sz
theorem LOk.cat {l : Line} (h : LOk l) : l.1.length + 1 ≤ sizeLine := by
  have := h.len
  have e : l.all.length = l.1.length + 1 := by simp [Line.all]
  have := szl'
  omega
theorem LOk.part {l : Line} (h : LOk l) (i : Nat) : ((l.all.take i).flatMap Kd.ats).length ≤ 5000 := by
  rw [flat_len, List.map_take]
  exact Nat.le_trans (sum_take_le _ _) h.sz
theorem Line.all_get (l : Line) {i : Nat} (hi : i < (l.1.map Kd.d ++ [l.2.d]).length) : ∃ k, l.all[i]? = some k ∧ (l.1.map Kd.d ++ [l.2.d])[i] = k.d ∧ k ∈ l.all := by
  have e := l.all_d
  have hi' : i < l.all.length := by simpa [Line.all] using hi
  refine ⟨l.all[i], List.getElem?_eq_getElem hi', ?_, List.getElem_mem hi'⟩
  have : (l.1.map Kd.d ++ [l.2.d])[i]? = (l.all.map Kd.d)[i]? := by rw [e]
  rw [List.getElem?_eq_getElem hi, List.getElem?_map, List.getElem?_eq_getElem hi'] at this
  exact Option.some.inj this
theorem take_succ' {α : Type} {l : List α} {i : Nat} {a : α} (h : l[i]? = some a) : l.take (i + 1) = l.take i ++ [a] := by
  rw [List.take_add_one, h]
  rfl

/-- the atoms of the first i kinds -/
def pre (l : Line) (i : Nat) : List Str := (l.all.take i).flatMap Kd.ats
theorem pre_succ {l : Line} {i : Nat} {k : Kd} (h : l.all[i]? = some k) : pre l (i + 1) = pre l i ++ k.ats := by
  unfold pre
  rw [take_succ' h, List.flatMap_append]
  simp
theorem pre_all {l : Line} : pre l l.all.length = l.ats := by
  unfold pre
  rw [List.take_length]
  rfl
theorem LOk.pre {l : Line} (h : LOk l) {i : Nat} {k : Kd} (g : l.all[i]? = some k) : (pre l i).length + k.ats.length ≤ sizeLine := by
  have z := h.part (i + 1)
  rw [show (l.all.take (i + 1)).flatMap Kd.ats = Tab.pre l (i + 1) from rfl, pre_succ g, List.length_append] at z
  have := szl'
  omega
theorem e_sequent_atoms (l : Line) (h : LOk l) (n : Nat) (hn : 100 ≤ n) : Pure (cl n) "sequent_atoms" [l.d] (.tup (l.ats.map .str)) := by
  obtain ⟨n, rfl⟩ : ∃ m, n = m + 1 := ⟨n - 1, by omega⟩
  refine pure_by m_sequent_atoms rfl (Nat.le_of_ble_eq_true rfl) ?_
  have hc := h.cat
  simp -implicitDefEqProofs [f_sequent_atoms, Line.d, hc]
  refine run_for (fun i ρ => ∃ s, Fre s ∧ ρ = [Sl.d (D.tup [D.tup (List.map Kd.d l.1), l.2.d]), Sl.own (O.lst ((pre l i).map D.str)), s, Sl.d (D.tup (List.map Kd.d l.1)), Sl.d l.2.d])
    ⟨.no, .no, rfl⟩ (fun i hi ρ ⟨s, hs, e⟩ => ?_) fun ρ ⟨s, hs, e⟩ => ?_
  · subst e
    obtain ⟨k, g1, g2, g3⟩ := l.all_get hi
    have h1 := e_atoms_of k n (by have := h.dep k g3; omega) (by have := h.one g3; omega)
    have hl := h.pre g1
    rw [g2]
    refine ⟨_, bindT_fre hs rfl, ?_⟩
    simp -implicitDefEqProofs [call_p1 h1, pre_succ g1, hl, Fre]
  · subst e
    rw [show (l.1.map Kd.d ++ [l.2.d]).length = l.all.length by simp [Line.all], pre_all]
    simp
end Tab

set_option maxHeartbeats 400000
namespace Tab
open PySem PySem.Spec PyProof.Rows L2 Fw
def rowD (r : List Nat) : D := .tup (r.map fun (p : Nat) => D.int p)
def rowsOf : List Kd → Nat → List (List Nat)
  | [], _ => []
  | k :: ks, s => List.range' s k.sz :: rowsOf ks (s + k.sz)
def szs (l : List Kd) : Nat := (l.map Kd.sz).sum
theorem rowsOf_append : ∀ (a b : List Kd) (s : Nat), rowsOf (a ++ b) s = rowsOf a s ++ rowsOf b (s + szs a)
  | [], b, s => by simp [rowsOf, szs]
  | k :: a, b, s => by
    simp only [List.cons_append, rowsOf, rowsOf_append a b, szs, List.map_cons, List.sum_cons, Nat.add_assoc]
def rwT (l : Line) (i : Nat) : List (List Nat) := rowsOf (l.all.take i) 0
def pos (l : Line) (i : Nat) : Nat := szs (l.all.take i)
theorem rwT_succ {l : Line} {i : Nat} {k : Kd} (h : l.all[i]? = some k) : rwT l (i + 1) = rwT l i ++ [List.range' (pos l i) k.sz] := by
  unfold rwT pos
  rw [take_succ' h, rowsOf_append]
  simp [rowsOf]
theorem pos_succ {l : Line} {i : Nat} {k : Kd} (h : l.all[i]? = some k) : pos l (i + 1) = pos l i + k.sz := by
  unfold pos
  rw [take_succ' h]
  simp [szs]
theorem LOk.pos {l : Line} (h : LOk l) (i : Nat) : pos l i ≤ 5000 := by
  unfold Tab.pos szs
  rw [List.map_take]
  exact Nat.le_trans (sum_take_le _ _) h.sz
theorem rwT_len (l : Line) : ∀ i, i ≤ l.all.length → (rwT l i).length = i
  | 0, _ => by simp [rwT, rowsOf]
  | i + 1, h => by
    rw [rwT_succ (List.getElem?_eq_getElem h), List.length_append, rwT_len l i (by omega)]
    rfl
theorem rngs_ok {a n : Nat} (h : a + n ≤ 10000) : rngsF true [.int (a : Int), .int ((a : Int) + (n : Int))] = some (.d (rowD (List.range' a n))) := by
  have e : ((a : Int) + (n : Int) - (a : Int)).toNat = n := by omega
  have e1 : rngF [.int (a : Int), .int ((a : Int) + (n : Int))] = some (rngL a (a + n)) := by
    simp only [rngF]
    rw [if_pos (by omega)]
  unfold rngsF
  rw [e1]
  unfold rngL
  rw [e]
  simp only [Option.bind_some, List.length_map, List.length_range, rowD]
  rw [if_pos (by omega)]
  simp only [cond_true, Option.some.injEq, Fw.T.d.injEq, D.tup.injEq]
  rw [List.range'_eq_map_range, List.map_map]
  apply List.map_congr_left
  intro k _
  simp
theorem e_place_rows (l : Line) (h : LOk l) (n : Nat) (hn : 100 ≤ n) : PureN (cl n) "place_rows" [l.d] ((rwT l l.all.length).map rowD) := by
  obtain ⟨n, rfl⟩ : ∃ m, n = m + 1 := ⟨n - 1, by omega⟩
  refine pureN_by m_place_rows rfl (Nat.le_of_ble_eq_true rfl) ?_
  have hc := h.cat
  simp -implicitDefEqProofs [f_place_rows, Line.d, hc]
  refine run_for (fun i ρ => ∃ s s', Fre s ∧ Fre s' ∧ ρ = [Sl.d (D.tup [D.tup (List.map Kd.d l.1), l.2.d]), Sl.own (O.lst ((rwT l i).map rowD)), .d (.int (pos l i : Nat)), s, Sl.d (D.tup (List.map Kd.d l.1)), Sl.d l.2.d, s'] ∧ i ≤ l.all.length)
    ⟨.no, .no, .no, .no, rfl, Nat.zero_le _⟩ (fun i hi ρ ⟨s, s', hs, hs', e, hi'⟩ => ?_) fun ρ ⟨s, s', hs, hs', e, _⟩ => ?_
  · subst e
    obtain ⟨k, g1, g2, g3⟩ := l.all_get hi
    have h1 := e_size_of k n (by have := h.dep k g3; omega)
    have h2 := pos_succ g1
    have h3 := h.pos (i + 1)
    have h4 := rngs_ok (a := pos l i) (n := k.sz) (by omega)
    have h5 := rwT_len l i hi'
    have h6 : i < l.all.length := (List.getElem?_eq_some_iff.mp g1).1
    have h7 : i < sizeLine := by have := h.len; have := szl'; omega
    rw [g2]
    refine ⟨_, bindT_fre hs rfl, ?_⟩
    simp -implicitDefEqProofs [call_p1 h1, hs'.bo, h4, h5, h7]
    refine ⟨Sl.d k.d, Fre.d, Sl.d (.int ((pos l i : Int) + (k.sz : Int))), Fre.d, ⟨?_, ?_, rfl, rfl⟩, by omega⟩
    · simp [rwT_succ g1]
    · rw [h2]; omega
  · subst e
    rw [show (l.1.map Kd.d ++ [l.2.d]).length = l.all.length by simp [Line.all]]
    simp -implicitDefEqProofs
theorem e_split_row (c : Str) (a b : Kd) (r : List Nat) (n : Nat) (hn : a.dep + 1 < n) : Pure (cl n) "split_row" [(Kd.op c a b).d, rowD r] (.tup [rowD (r.take a.sz), rowD (r.drop a.sz)]) := by
  obtain ⟨n, rfl⟩ : ∃ m, n = m + 1 := ⟨n - 1, by omega⟩
  refine pure_by m_split_row rfl (Nat.le_of_ble_eq_true rfl) ?_
  have h1 := e_size_of a n (by omega)
  simp -implicitDefEqProofs [f_split_row, Kd.d, call_p1 h1, rowD, cut_to, cut_from]
theorem cons_map {α β : Type} (f : α → β) (a : α) (l : List α) : f a :: l.map f = (a :: l).map f := rfl
section
variable {c : Str} {a b : Kd} {R : List (List Nat)} {r : List Nat} {n at_ w : Nat}
theorem e_goal_over (hn : a.dep + 2 < n) (hR : R.length ≤ 1000) : Pure (cl n) "goal_part_rows" [.str "over right", (Kd.op c a b).d, .lst (R.map rowD), rowD r, .int (at_ : Nat)]
    (.tup [.lst ((R ++ [r.drop a.sz, r.take a.sz]).map rowD)]) := by
  obtain ⟨n, rfl⟩ : ∃ m, n = m + 1 := ⟨n - 1, by omega⟩
  refine pure_by m_goal_part_rows rfl (Nat.le_of_ble_eq_true rfl) ?_
  have h1 := e_split_row c a b r n (by omega)
  have h2 : R.length + 2 ≤ sizeLine := by have := szl'; omega
  simp -implicitDefEqProofs [f_goal_part_rows, call_p2 h1, h2]
theorem e_goal_under (hn : a.dep + 2 < n) (hR : R.length ≤ 1000) : Pure (cl n) "goal_part_rows" [.str "under right", (Kd.op c a b).d, .lst (R.map rowD), rowD r, .int (at_ : Nat)]
    (.tup [.lst (([r.take a.sz] ++ R ++ [r.drop a.sz]).map rowD)]) := by
  obtain ⟨n, rfl⟩ : ∃ m, n = m + 1 := ⟨n - 1, by omega⟩
  refine pure_by m_goal_part_rows rfl (Nat.le_of_ble_eq_true rfl) ?_
  have h1 := e_split_row c a b r n (by omega)
  have h2 : 1 + R.length ≤ sizeLine := by have := szl'; omega
  have h3 : R.length + 1 + 1 ≤ sizeLine := by have := szl'; omega
  have e : decide (("under right" : Str) = ("over right" : Str)) = false := by decide +kernel
  simp -implicitDefEqProofs [f_goal_part_rows, call_p2 h1, h2, h3, e]
theorem e_goal_pair (hn : a.dep + 2 < n) (hR : R.length ≤ 1000) : Pure (cl n) "goal_part_rows" [.str "pair right", (Kd.op c a b).d, .lst (R.map rowD), rowD r, .int (at_ : Nat)]
    (.tup [.lst ((R.take at_ ++ [r.take a.sz]).map rowD), .lst ((R.drop at_ ++ [r.drop a.sz]).map rowD)]) := by
  obtain ⟨n, rfl⟩ : ∃ m, n = m + 1 := ⟨n - 1, by omega⟩
  refine pure_by m_goal_part_rows rfl (Nat.le_of_ble_eq_true rfl) ?_
  have h1 := e_split_row c a b r n (by omega)
  have h2 : min at_ R.length + 1 ≤ sizeLine := by have := szl'; omega
  have h3 : R.length - at_ + 1 ≤ sizeLine := by have := szl'; omega
  have e : decide (("pair right" : Str) = ("over right" : Str)) = false := by decide +kernel
  have e2 : decide (("pair right" : Str) = ("under right" : Str)) = false := by decide +kernel
  simp -implicitDefEqProofs [f_goal_part_rows, call_p2 h1, h2, h3, e, e2, cut_to, cut_from]
end
/-! ### slices at sums -/
section
variable {α : Type} {xs : List α} {k w : Nat}
theorem cut_from1 : cutD xs (some ((k : Int) + 1)) none = xs.drop (k + 1) := cut_from (k := k + 1)
theorem cut_from2 : cutD xs (some ((k : Int) + 1 + (w : Int))) none = xs.drop (k + 1 + w) := by
  rw [show (k : Int) + 1 + (w : Int) = ((k + 1 + w : Nat) : Int) by omega]
  exact cut_from
theorem cut_mid1 (h : k + 1 + w ≤ xs.length) : cutD xs (some ((k : Int) + 1)) (some ((k : Int) + 1 + (w : Int))) = (xs.drop (k + 1)).take w := by
  rw [show (k : Int) + 1 + (w : Int) = ((k + 1 + w : Nat) : Int) by omega, show (k : Int) + 1 = ((k + 1 : Nat) : Int) by omega, cut_of (by omega) (by omega), show k + 1 + w - (k + 1) = w by omega]
theorem cut_to3 (h : w ≤ k) : cutD xs none (some ((k : Int) - (w : Int))) = xs.take (k - w) := by
  rw [show (k : Int) - (w : Int) = ((k - w : Nat) : Int) by omega]
  exact cut_to
theorem cut_mid3 (h : w ≤ k) (hk : k ≤ xs.length) : cutD xs (some ((k : Int) - (w : Int))) (some (k : Int)) = (xs.drop (k - w)).take w := by
  rw [show (k : Int) - (w : Int) = ((k - w : Nat) : Int) by omega, cut_of (by omega) hk, show k - (k - w) = w by omega]
theorem atI_map {β : Type} {f : α → β} {a : α} (h : xs[k]? = some a) : atI (xs.map f) (k : Int) = some (f a) := by
  obtain ⟨hk, e⟩ := List.getElem?_eq_some_iff.mp h
  rw [atI_nat (by simpa using hk), List.getElem_map, e]
end
section
variable {c : Str} {a b : Kd} {R : List (List Nat)} {r la : List Nat} {n i w : Nat}
theorem e_prem_pair (hn : a.dep + 2 < n) (hR : R.length ≤ 1000) (hr : R[i]? = some r) : Pure (cl n) "premise_part_rows" [.str "pair left", (Kd.op c a b).d, .lst (R.map rowD), rowD la, .int (i : Nat), .int (w : Nat)]
    (.tup [.lst ((R.take i ++ [r.take a.sz, r.drop a.sz] ++ R.drop (i + 1) ++ [la]).map rowD)]) := by
  obtain ⟨n, rfl⟩ : ∃ m, n = m + 1 := ⟨n - 1, by omega⟩
  refine pure_by m_premise_part_rows rfl (Nat.le_of_ble_eq_true rfl) ?_
  have h1 := e_split_row c a b r n (by omega)
  have hi := (List.getElem?_eq_some_iff.mp hr).1
  have z := szl'
  have h2 : i + 2 ≤ sizeLine := by omega
  have h3 : i + 1 + 1 + (R.length - (i + 1)) ≤ sizeLine := by omega
  have h4 : i + (R.length - (i + 1) + 1 + 1) + 1 ≤ sizeLine := by omega
  have h5 : min i R.length = i := by omega
  simp -implicitDefEqProofs [f_premise_part_rows, call_p2 h1, atI_map hr, cut_to, cut_from1, h2, h3, h4, h5]
theorem e_prem_over (hn : a.dep + 2 < n) (hR : R.length ≤ 1000) (hr : R[i]? = some r) (hw : i + 1 + w ≤ R.length) : Pure (cl n) "premise_part_rows" [.str "over left", (Kd.op c a b).d, .lst (R.map rowD), rowD la, .int (i : Nat), .int (w : Nat)]
    (.tup [.lst (((R.drop (i + 1)).take w ++ [r.drop a.sz]).map rowD), .lst ((R.take i ++ [r.take a.sz] ++ R.drop (i + 1 + w) ++ [la]).map rowD)]) := by
  obtain ⟨n, rfl⟩ : ∃ m, n = m + 1 := ⟨n - 1, by omega⟩
  refine pure_by m_premise_part_rows rfl (Nat.le_of_ble_eq_true rfl) ?_
  have h1 := e_split_row c a b r n (by omega)
  have hi := (List.getElem?_eq_some_iff.mp hr).1
  have z := szl'
  have e : decide (("over left" : Str) = ("pair left" : Str)) = false := by decide +kernel
  have hc : cutD (R.map rowD) (some ((i : Int) + 1)) (some ((i : Int) + 1 + (w : Int))) = ((R.drop (i + 1)).take w).map rowD := by
    rw [cut_mid1 (by simpa using hw), ← List.map_drop, ← List.map_take]
  have h2 : min w (R.length - (i + 1)) + 1 ≤ sizeLine := by omega
  have h3 : i + 1 ≤ sizeLine := by omega
  have h4 : i + 1 + (R.length - (i + 1 + w)) ≤ sizeLine := by omega
  have h6 : i + (R.length - (i + 1 + w) + 1) + 1 ≤ sizeLine := by omega
  have h5 : min i R.length = i := by omega
  simp -implicitDefEqProofs [f_premise_part_rows, call_p2 h1, atI_map hr, cut_to, hc, cut_from2, e, h2, h3, h4, h5, h6]
theorem e_prem_under (hn : a.dep + 2 < n) (hR : R.length ≤ 1000) (hr : R[i]? = some r) (hw : w ≤ i) : Pure (cl n) "premise_part_rows" [.str "under left", (Kd.op c a b).d, .lst (R.map rowD), rowD la, .int (i : Nat), .int (w : Nat)]
    (.tup [.lst (((R.drop (i - w)).take w ++ [r.take a.sz]).map rowD), .lst ((R.take (i - w) ++ [r.drop a.sz] ++ R.drop (i + 1) ++ [la]).map rowD)]) := by
  obtain ⟨n, rfl⟩ : ∃ m, n = m + 1 := ⟨n - 1, by omega⟩
  refine pure_by m_premise_part_rows rfl (Nat.le_of_ble_eq_true rfl) ?_
  have h1 := e_split_row c a b r n (by omega)
  have hi := (List.getElem?_eq_some_iff.mp hr).1
  have z := szl'
  have e : decide (("under left" : Str) = ("pair left" : Str)) = false := by decide +kernel
  have e2 : decide (("under left" : Str) = ("over left" : Str)) = false := by decide +kernel
  have hc : cutD (R.map rowD) (some ((i : Int) - (w : Int))) (some (i : Int)) = ((R.drop (i - w)).take w).map rowD := by
    rw [cut_mid3 hw (by simpa using Nat.le_of_lt hi), ← List.map_drop, ← List.map_take]
  have h2 : min w (R.length - (i - w)) + 1 ≤ sizeLine := by omega
  have h3 : i - w + 1 ≤ sizeLine := by omega
  have h4 : i - w + 1 + (R.length - (i + 1)) ≤ sizeLine := by omega
  have h6 : i - w + (R.length - (i + 1) + 1) + 1 ≤ sizeLine := by omega
  have h5 : min (i - w) R.length = i - w := by omega
  simp -implicitDefEqProofs [f_premise_part_rows, call_p2 h1, atI_map hr, cut_to3 hw, hc, cut_from1, e, e2, h2, h3, h4, h5, h6]
end
end Tab

set_option maxHeartbeats 400000
namespace Tab
open PySem PySem.Spec PyProof.Rows L2 Fw
/-- a step as the program has it -/
def stD (rule : Str) (at_ w : Nat) (x : D) : D := .tup [.str rule, .int (at_ : Nat), .int (w : Nat), x]
theorem cl_mono {n : Nat} (h : 100 ≤ n) : ∃ m, n = m + 1 ∧ 99 ≤ m := ⟨n - 1, by omega, by omega⟩
def partD (p : List (List Nat)) : D := .lst (p.map rowD)
def lastR (l : Line) : List Nat := List.range' (pos l l.1.length) l.2.sz
theorem rwT_last (l : Line) : rwT l l.all.length = rwT l l.1.length ++ [lastR l] := by
  have e : l.all.length = l.1.length + 1 := by simp [Line.all]
  have g : l.all[l.1.length]? = some l.2 := by simp [Line.all]
  rw [e, rwT_succ g]
  rfl
def goalRules : D := .tup [.str "over right", .str "under right", .str "pair right"]
theorem e_pp_goal (l : Line) (h : LOk l) {n : Nat} (hn : 101 ≤ n) {rule : Str} {at_ w : Nat} {x : D} {parts : List (List (List Nat))} (h1 : parts.length ≤ 100) (h2 : ∀ p ∈ parts, p.flatten.length ≤ 10000)
    (na : decide (rule = ("axiom" : Str)) = false) (he : cmpF .In (.str rule) goalRules = some true)
    (hg : ∀ m, 100 ≤ m → Pure (cl m) "goal_part_rows" [.str rule, l.2.d, .lst ((rwT l l.1.length).map rowD), rowD (lastR l), .int (at_ : Nat)] (.tup (parts.map partD))) :
    Pure (cl n) "part_places" [l.d, stD rule at_ w x] (.tup (parts.map fun p => rowD p.flatten)) := by
  obtain ⟨n, rfl, hn⟩ := cl_mono (by omega : 100 ≤ n)
  refine pure_by m_part_places rfl (Nat.le_of_ble_eq_true rfl) ?_
  have a1 := e_place_rows l h n (by omega)
  rw [rwT_last] at a1
  have a2 := hg n (by omega)
  have he' : cmpF .In (.str rule) (.tup [.str "over right", .str "under right", .str "pair right"]) = some true := he
  simp -implicitDefEqProofs [f_part_places, Line.d, stD] at a1 ⊢
  simp -implicitDefEqProofs [call_n1 a1, mut_pop, na, he', call_p5 a2]
  have z := szl'
  refine run_map1 (h := fun (p : List (List Nat)) => rowD p.flatten) (fun p hp => ?_) ?_
  · simp -implicitDefEqProofs [partD]
    refine tb_map (g := fun (r : List Nat) => r.map fun (p : Nat) => D.int p) (fun r hr => ?_) ?_
    · simp -implicitDefEqProofs [rowD, Tg.ix]
      refine tb_map1 (h := fun (p : Nat) => D.int p) (fun q hq => ?_) ?_
      · simp -implicitDefEqProofs
      · simp -implicitDefEqProofs
    · have h3 := h2 p hp
      have h4 : (p.flatMap fun (r : List Nat) => r.map fun (p : Nat) => D.int p) = p.flatten.map fun (p : Nat) => D.int p := by
        rw [List.flatMap_def, List.map_flatten]
      have h5 : p.flatten.length ≤ sizeLine := by omega
      rw [h4]
      simp -implicitDefEqProofs only [List.length_map]
      rw [if_pos h5]
      simp -implicitDefEqProofs [rowD]
  · have h5 : parts.length ≤ sizeLine := by omega
    simp -implicitDefEqProofs [h5]


theorem e_pp_prem (l : Line) (h : LOk l) {n : Nat} (hn : 101 ≤ n) {rule : Str} {at_ w : Nat} {x : D} {k : Kd} {parts : List (List (List Nat))} (h1 : parts.length ≤ 100) (h2 : ∀ p ∈ parts, p.flatten.length ≤ 10000)
    (na : decide (rule = ("axiom" : Str)) = false) (he : cmpF .In (.str rule) goalRules = some false) (hk : l.1[at_]? = some k)
    (hg : ∀ m, 100 ≤ m → Pure (cl m) "premise_part_rows" [.str rule, k.d, .lst ((rwT l l.1.length).map rowD), rowD (lastR l), .int (at_ : Nat), .int (w : Nat)] (.tup (parts.map partD))) :
    Pure (cl n) "part_places" [l.d, stD rule at_ w x] (.tup (parts.map fun p => rowD p.flatten)) := by
  obtain ⟨n, rfl, hn⟩ := cl_mono (by omega : 100 ≤ n)
  refine pure_by m_part_places rfl (Nat.le_of_ble_eq_true rfl) ?_
  have a1 := e_place_rows l h n (by omega)
  rw [rwT_last] at a1
  have a2 := hg n (by omega)
  have he' : cmpF .In (.str rule) (.tup [.str "over right", .str "under right", .str "pair right"]) = some false := he
  have a3 := atI_map (f := Kd.d) hk
  simp -implicitDefEqProofs [f_part_places, Line.d, stD] at a1 ⊢
  simp -implicitDefEqProofs [call_n1 a1, mut_pop, na, he', a3, call_p6 a2]
  have z := szl'
  refine run_map1 (h := fun (p : List (List Nat)) => rowD p.flatten) (fun p hp => ?_) ?_
  · simp -implicitDefEqProofs [partD]
    refine tb_map (g := fun (r : List Nat) => r.map fun (p : Nat) => D.int p) (fun r hr => ?_) ?_
    · simp -implicitDefEqProofs [rowD, Tg.ix]
      refine tb_map1 (h := fun (p : Nat) => D.int p) (fun q hq => ?_) ?_
      · simp -implicitDefEqProofs
      · simp -implicitDefEqProofs
    · have h3 := h2 p hp
      have h4 : (p.flatMap fun (r : List Nat) => r.map fun (p : Nat) => D.int p) = p.flatten.map fun (p : Nat) => D.int p := by
        rw [List.flatMap_def, List.map_flatten]
      have h5 : p.flatten.length ≤ sizeLine := by omega
      rw [h4]
      simp -implicitDefEqProofs only [List.length_map]
      rw [if_pos h5]
      simp -implicitDefEqProofs [rowD]
  · have h5 : parts.length ≤ sizeLine := by omega
    simp -implicitDefEqProofs [h5]
theorem e_pp_axiom (l : Line) (h : LOk l) {n : Nat} (hn : 101 ≤ n) {at_ w : Nat} {x : D} : Pure (cl n) "part_places" [l.d, stD "axiom" at_ w x] (.tup []) := by
  obtain ⟨n, rfl, hn⟩ := cl_mono (by omega : 100 ≤ n)
  refine pure_by m_part_places rfl (Nat.le_of_ble_eq_true rfl) ?_
  have a1 := e_place_rows l h n (by omega)
  rw [rwT_last] at a1
  simp -implicitDefEqProofs [f_part_places, Line.d, stD] at a1 ⊢
  simp -implicitDefEqProofs [call_n1 a1, mut_pop]
end Tab

set_option maxHeartbeats 400000
namespace Tab
open PySem PySem.Spec PyProof.Rows L2 Fw
def Wf : Kd → Prop
  | .at _ => True
  | .op c a b => (c = "/" ∨ c = ">" ∨ c = "*") ∧ Wf a ∧ Wf b
def lD (p : Nat × Int) : D := .tup [.int (p.1 : Nat), .int p.2]
def w1 (c : Str) : Int := if c = ">" then -1 else 1
def w2 (c : Str) : Int := if c = "/" then -1 else 1
def plt : Kd → Nat → Int → List (Nat × Int)
  | .at _, s, w => [(s, w)]
  | .op c a b, s, w => if w = 1 then plt a s (w1 c) ++ plt b (s + a.sz) (w2 c) else plt b (s + a.sz) (-(w2 c)) ++ plt a s (-(w1 c))
theorem plt_len : ∀ (k : Kd) (s : Nat) (w : Int), (plt k s w).length = k.sz
  | .at _, s, w => rfl
  | .op c a b, s, w => by
    unfold plt
    show (if w = 1 then _ else _ : List (Nat × Int)).length = a.sz + b.sz
    split
    · rw [List.length_append, plt_len, plt_len]
    · rw [List.length_append, plt_len, plt_len, Nat.add_comm]
def waysL : List (Str × D) := [("/", .tup [.int 1, .int (-1)]), (">", .tup [.int (-1), .int 1]), ("*", .tup [.int 1, .int 1])]
theorem ways' {c : Str} (h : c = "/" ∨ c = ">" ∨ c = "*") : waysL.lookup c = some (.tup [.int (w1 c), .int (w2 c)]) := by
  unfold waysL
  rcases h with rfl | rfl | rfl
  · rw [show w1 ("/" : Str) = 1 by decide +kernel, show w2 ("/" : Str) = -1 by decide +kernel, List.lookup_cons_self]
  · rw [show w1 (">" : Str) = -1 by decide +kernel, show w2 (">" : Str) = 1 by decide +kernel, List.lookup_cons, show ((">" : Str) == ("/" : Str)) = false by decide +kernel]
    dsimp only
    rw [List.lookup_cons_self]
  · rw [show w1 ("*" : Str) = 1 by decide +kernel, show w2 ("*" : Str) = 1 by decide +kernel, List.lookup_cons, show (("*" : Str) == ("/" : Str)) = false by decide +kernel]
    dsimp only
    rw [List.lookup_cons, show (("*" : Str) == (">" : Str)) = false by decide +kernel]
    dsimp only
    rw [List.lookup_cons_self]
theorem kd_ways : List.lookup ("WAYS" : Str) ks = some waysL := by
  unfold ks waysL
  rw [List.lookup_cons_self]
/-- its first argument lent, handing back None -/
theorem poln_by {n : Nat} {fd : Fd} {o o' : O} {ds : List D} (h : fd ∈ tabOf dfs) (hl : ds.length + 1 = fd.ps.length) (hN : ds.length + 1 ≤ fd.N.length)
    (e : Fw.Run (exSs (cf n) fd.body (.bor o :: (ds.map Sl.d ++ List.replicate (fd.N.length - (ds.length + 1)) .no))) fun fl ρ => (fl = .nx ∨ fl = .rt (.d .non)) ∧ ds.length + 1 ≤ ρ.length ∧ ρ[0]? = some (.bor o')) : Pol (cl (n + 1)) fd.name o ds .non o' := by
  obtain ⟨fl, ρ, e, hf, l, h0⟩ := e
  cases ρ with
  | nil => simp at h0
  | cons s ρ =>
    simp at h0
    subst h0
    refine ⟨ρ.take ds.length, (cl_by h _).trans ?_, by rw [List.length_take]; rw [List.length_cons] at l; omega⟩
    unfold runF
    rw [if_pos (by rw [List.length_cons, List.length_map]; exact hl)]
    have e1 : (Fw.Arg.bo o :: ds.map Fw.Arg.fr).map argSl = .bor o :: ds.map Sl.d := by rw [List.map_cons, List.map_map]; rfl
    rw [e1, List.length_cons, List.length_map, List.cons_append, e]
    rcases hf with rfl | rfl <;> rfl
theorem row_take (s x y : Nat) : (List.range' s (x + y)).take x = List.range' s x := by
  rw [← List.range'_append_1, List.take_left' (by simp)]
theorem row_drop (s x y : Nat) : (List.range' s (x + y)).drop x = List.range' (s + x) y := by
  rw [← List.range'_append_1, List.drop_left' (by simp)]
theorem e_push (k : Kd) : ∀ (n s : Nat) (w : Int) (L : List (Nat × Int)), k.dep + 2 < n → Wf k → L.length + k.sz ≤ 10000 →
    Pol (cl n) "push_letters_at" (.lst (L.map lD)) [k.d, rowD (List.range' s k.sz), .int w] .non (.lst ((L ++ plt k s w).map lD)) := by
  induction k with
  | «at» a =>
    intro n s w L hn hw hz
    obtain ⟨n, rfl⟩ : ∃ m, n = m + 1 := ⟨n - 1, by omega⟩
    refine poln_by m_push_letters_at rfl (Nat.le_of_ble_eq_true rfl) ?_
    have z := szl'
    have h1 : L.length < sizeLine := by have : (Kd.at a).sz = 1 := rfl; omega
    have h2 : rowD (List.range' s (Kd.at a).sz) = .tup [.int (s : Nat)] := rfl
    rw [h2]
    simp -implicitDefEqProofs [f_push_letters_at, Kd.d, h1, plt, lD]
  | op c a b iha ihb =>
    intro n s w L hn hw hz
    obtain ⟨n, rfl⟩ : ∃ m, n = m + 1 := ⟨n - 1, by omega⟩
    have hd : (Kd.op c a b).dep = max a.dep b.dep + 1 := rfl
    have hs : (Kd.op c a b).sz = a.sz + b.sz := rfl
    refine poln_by m_push_letters_at rfl (Nat.le_of_ble_eq_true rfl) ?_
    have h1 := e_split_row c a b (List.range' s (a.sz + b.sz)) n (by omega)
    rw [row_take, row_drop] at h1
    have h2 := ways' hw.1
    rw [hs] at hz ⊢
    by_cases hw1 : w = 1
    · subst hw1
      have i1 := iha n s (w1 c) L (by omega) hw.2.1 (by omega)
      have i2 := ihb n (s + a.sz) (w2 c) (L ++ plt a s (w1 c)) (by omega) hw.2.2 (by rw [List.length_append, plt_len]; omega)
      simp -implicitDefEqProofs at i1 i2
      simp -implicitDefEqProofs [Kd.d] at h1
      simp -implicitDefEqProofs [f_push_letters_at, Kd.d, kixF, kd_ways, h2, call_p2 h1, call_b3 i1, call_b3 i2, plt]
    · have i1 := ihb n (s + a.sz) (-(w2 c)) L (by omega) hw.2.2 (by omega)
      have i2 := iha n s (-(w1 c)) (L ++ plt b (s + a.sz) (-(w2 c))) (by omega) hw.2.1 (by rw [List.length_append, plt_len]; omega)
      simp -implicitDefEqProofs at i1 i2
      simp -implicitDefEqProofs [Kd.d] at h1
      simp -implicitDefEqProofs [f_push_letters_at, Kd.d, kixF, kd_ways, h2, call_p2 h1, call_b3 i1, call_b3 i2, plt, hw1]

/-! ### the law's own letters -/
def opp (L : List (Nat × Int)) : List (Nat × Int) := L.reverse.map fun p => (p.1, -p.2)
theorem opp_len (L : List (Nat × Int)) : (opp L).length = L.length := by simp [opp]
theorem opp_opp (L : List (Nat × Int)) : opp (opp L) = L := by
  unfold opp
  rw [← List.map_reverse, List.reverse_reverse, List.map_map]
  simp [Function.comp_def]
theorem opp_append (L M : List (Nat × Int)) : opp (L ++ M) = opp M ++ opp L := by simp [opp]
def ll : Kd → Nat → List (Nat × Int)
  | .at _, s => [(s, 1)]
  | .op c a b, s => if c = "/" then ll a s ++ opp (ll b (s + a.sz)) else if c = ">" then opp (ll a s) ++ ll b (s + a.sz) else ll a s ++ ll b (s + a.sz)
theorem ll_len : ∀ (k : Kd) (s : Nat), (ll k s).length = k.sz
  | .at _, s => rfl
  | .op c a b, s => by
    unfold ll
    show _ = a.sz + b.sz
    split
    · rw [List.length_append, opp_len, ll_len, ll_len]
    · split
      · rw [List.length_append, opp_len, ll_len, ll_len]
      · rw [List.length_append, ll_len, ll_len]
theorem plt_ll : ∀ (k : Kd) (s : Nat), Wf k → plt k s 1 = ll k s ∧ plt k s (-1) = opp (ll k s)
  | .at _, s, _ => ⟨rfl, rfl⟩
  | .op c a b, s, h => by
    obtain ⟨a1, a2⟩ := plt_ll a s h.2.1
    obtain ⟨b1, b2⟩ := plt_ll b (s + a.sz) h.2.2
    have n1 : ¬ ((-1 : Int) = 1) := by decide
    unfold plt ll
    rcases h.1 with rfl | rfl | rfl
    · rw [show w1 ("/" : Str) = 1 by decide +kernel, show w2 ("/" : Str) = -1 by decide +kernel, if_pos rfl, if_neg n1, if_pos rfl, a1, a2, b2, Int.neg_neg, b1, opp_append, opp_opp]
      exact ⟨rfl, rfl⟩
    · rw [show w1 (">" : Str) = -1 by decide +kernel, show w2 (">" : Str) = 1 by decide +kernel, if_pos rfl, if_neg n1, if_neg (show ¬ ((">" : Str) = "/") by decide +kernel), if_pos rfl, a2, b1, b2, Int.neg_neg, a1, opp_append, opp_opp]
      exact ⟨rfl, rfl⟩
    · rw [show w1 ("*" : Str) = 1 by decide +kernel, show w2 ("*" : Str) = 1 by decide +kernel, if_pos rfl, if_neg n1, if_neg (show ¬ (("*" : Str) = "/") by decide +kernel), if_neg (show ¬ (("*" : Str) = ">") by decide +kernel), a1, a2, b1, b2, opp_append]
      exact ⟨rfl, rfl⟩
theorem e_opp (L : List (Nat × Int)) (n : Nat) (hn : 0 < n) (hl : L.length ≤ 10000) : Pure (cl n) "_law_opposite" [.lst (L.map lD)] (.lst ((opp L).map lD)) := by
  obtain ⟨n, rfl⟩ : ∃ m, n = m + 1 := ⟨n - 1, by omega⟩
  refine pure_by m_law_opposite rfl (Nat.le_of_ble_eq_true rfl) ?_
  have z := szl'
  have h1 : L.length ≤ sizeLine := by omega
  simp -implicitDefEqProofs [f_law_opposite, ← List.map_reverse]
  refine run_map1 (h := fun p => lD (p.1, -p.2)) (fun p hp => ?_) ?_
  · simp -implicitDefEqProofs [lD]
  · simp -implicitDefEqProofs [h1, opp, Function.comp_def]
theorem e_ll (k : Kd) : ∀ (n s : Nat), k.dep + 2 < n → k.sz ≤ 10000 → Pure (cl n) "_law_letters" [k.d, .int (s : Nat)] (.lst ((ll k s).map lD)) := by
  induction k with
  | «at» a =>
    intro n s hn hz
    obtain ⟨n, rfl⟩ : ∃ m, n = m + 1 := ⟨n - 1, by omega⟩
    refine pure_by m_law_letters rfl (Nat.le_of_ble_eq_true rfl) ?_
    simp -implicitDefEqProofs [f_law_letters, Kd.d, ll, lD]
  | op c a b iha ihb =>
    intro n s hn hz
    obtain ⟨n, rfl⟩ : ∃ m, n = m + 1 := ⟨n - 1, by omega⟩
    have hd : (Kd.op c a b).dep = max a.dep b.dep + 1 := rfl
    have hs : (Kd.op c a b).sz = a.sz + b.sz := rfl
    refine pure_by m_law_letters rfl (Nat.le_of_ble_eq_true rfl) ?_
    have z := szl'
    have i1 := iha n s (by omega) (by omega)
    have i2 := ihb n (s + a.sz) (by omega) (by omega)
    have i3 := e_law_size a n (by omega)
    have o1 := e_opp (ll a s) n (by omega) (by rw [ll_len]; omega)
    have o2 := e_opp (ll b (s + a.sz)) n (by omega) (by rw [ll_len]; omega)
    have e : ((s + a.sz : Nat) : Int) = (s : Int) + (a.sz : Int) := by omega
    rw [e] at i2
    have g : a.sz + b.sz ≤ sizeLine := by omega
    by_cases h1 : c = "/"
    · simp -implicitDefEqProofs [f_law_letters, Kd.d, call_p2 i1, call_p2 i2, call_p1 i3, call_p1 o2, h1, ll, ll_len, opp_len, g]
    · by_cases h2 : c = ">"
      · subst h2
        have h2 : ¬ ((">" : Str) = "/") := h1
        simp -implicitDefEqProofs [f_law_letters, Kd.d, call_p2 i1, call_p2 i2, call_p1 i3, call_p1 o1, h2, ll, ll_len, opp_len, g]
      · simp -implicitDefEqProofs [f_law_letters, Kd.d, call_p2 i1, call_p2 i2, call_p1 i3, h1, h2, ll, ll_len, opp_len, g]

/-! ### the letter rows -/
theorem Line.prem_get (l : Line) {i : Nat} (hi : i < l.1.length) : ∃ k, l.1[i]? = some k ∧ l.all[i]? = some k ∧ k ∈ l.all := by
  refine ⟨l.1[i], List.getElem?_eq_getElem hi, ?_, ?_⟩
  · unfold Line.all
    rw [List.getElem?_append_left hi, List.getElem?_eq_getElem hi]
  · exact List.mem_append_left _ (List.getElem_mem hi)
/-- the letters of the first i premises -/
def lets (l : Line) : Nat → List (Nat × Int)
  | 0 => []
  | i + 1 => match l.1[i]? with
    | some k => lets l i ++ ll k (pos l i)
    | none => lets l i
theorem lets_succ {l : Line} {i : Nat} {k : Kd} (h : l.1[i]? = some k) : lets l (i + 1) = lets l i ++ ll k (pos l i) := by
  conv => lhs; unfold lets
  rw [h]
theorem lets_len (l : Line) : ∀ i, i ≤ l.1.length → (lets l i).length = pos l i
  | 0, _ => by simp [lets, pos, szs]
  | i + 1, h => by
    obtain ⟨k, h1, h2, _⟩ := l.prem_get (i := i) (by omega)
    rw [lets_succ h1, List.length_append, ll_len, lets_len l i (by omega), pos_succ h2]
def letRow (l : Line) : List (Nat × Int) := lets l l.1.length ++ opp (ll l.2 (pos l l.1.length))
theorem letRow_len (l : Line) (h : LOk l) : (letRow l).length ≤ 10000 := by
  have g : l.all[l.1.length]? = some l.2 := by simp [Line.all]
  have := h.pos (l.1.length + 1)
  rw [pos_succ g] at this
  unfold letRow
  rw [List.length_append, lets_len l _ (Nat.le_refl _), opp_len, ll_len]
  omega
theorem rwT_get {l : Line} {i : Nat} {k : Kd} (h : l.all[i]? = some k) : ∀ m, i < m → m ≤ l.all.length → (rwT l m)[i]? = some (List.range' (pos l i) k.sz)
  | 0, hi, _ => absurd hi (Nat.not_lt_zero _)
  | m + 1, hi, hm => by
    have g : l.all[m]? = some l.all[m] := List.getElem?_eq_getElem hm
    rw [rwT_succ g]
    by_cases e : i = m
    · subst e
      rw [g] at h
      cases h
      rw [List.getElem?_append_right (by rw [rwT_len l i (by omega)]; exact Nat.le_refl _), rwT_len l i (by omega), Nat.sub_self]
      rfl
    · rw [List.getElem?_append_left (by rw [rwT_len l m (by omega)]; omega)]
      exact rwT_get h m (by omega) (by omega)
theorem get_of {α : Type} {l : List α} {i : Nat} {h : i < l.length} {x : α} (e : l[i]? = some x) : l[i] = x := by
  rw [List.getElem?_eq_getElem h] at e
  exact Option.some.inj e
theorem e_letter_row (l : Line) (h : LOk l) (hw : ∀ k ∈ l.all, Wf k) (n : Nat) (hn : 101 ≤ n) : Pure (cl n) "letter_row" [l.d] (.tup ((letRow l).map lD)) := by
  obtain ⟨n, rfl, hn⟩ := cl_mono (by omega : 100 ≤ n)
  refine pure_by m_letter_row rfl (Nat.le_of_ble_eq_true rfl) ?_
  have a1 := e_place_rows l h n (by omega)
  rw [rwT_last] at a1
  have z := szl'
  simp -implicitDefEqProofs [f_letter_row, Line.d, zipF] at a1 ⊢
  simp -implicitDefEqProofs [call_n1 a1]
  refine run_for (fun i ρ => ∃ s s', Fre s ∧ Fre s' ∧ ρ = [Sl.d (D.tup [D.tup (List.map Kd.d l.1), l.2.d]), .d (.lst (List.map rowD (rwT l l.1.length) ++ [rowD (lastR l)])), Sl.own (O.lst ((lets l i).map lD)), Sl.d (D.tup (List.map Kd.d l.1)), Sl.d l.2.d, s, s'])
    ⟨.no, .no, .no, .no, rfl⟩ (fun i hi ρ ⟨s, s', hs, hs', e⟩ => ?_) fun ρ ⟨s, s', hs, hs', e⟩ => ?_
  · subst e
    have hi' : i < l.1.length := by
      simp [rwT_len l l.1.length (by simp [Line.all])] at hi
      omega
    obtain ⟨k, g1, g2, g3⟩ := l.prem_get hi'
    have g4 := rwT_get g2 l.1.length hi' (by simp [Line.all])
    have g5 : i < (rwT l l.1.length).length := by rw [rwT_len l l.1.length (by simp [Line.all])]; exact hi'
    rw [get_of (x := .tup [k.d, rowD (List.range' (pos l i) k.sz)]) (by
      rw [List.getElem?_map, List.getElem?_zip_eq_some (z := (k.d, rowD (List.range' (pos l i) k.sz))) |>.mpr ⟨by rw [List.getElem?_map, g1]; rfl, by rw [List.getElem?_append_left (by simpa using g5), List.getElem?_map, g4]; rfl⟩]
      rfl)]
    have hp := h.pos (i + 1)
    rw [pos_succ g2] at hp
    have c1 := e_push k n (pos l i) 1 (lets l i) (by have := h.dep k g3; omega) (hw k g3) (by rw [lets_len l i (by omega)]; omega)
    rw [(plt_ll k _ (hw k g3)).1, ← lets_succ g1] at c1
    refine ⟨_, by simp [hs.bo, hs'.bo]; rfl, ?_⟩
    simp -implicitDefEqProofs [call_o3 c1]
    exact ⟨Fre.d, Fre.d⟩
  · subst e
    have g : l.all[l.1.length]? = some l.2 := by simp [Line.all]
    have gm : l.2 ∈ l.all := by simp [Line.all]
    have e1 : ((l.1.map Kd.d).zip ((rwT l l.1.length).map rowD ++ [rowD (lastR l)])).length = l.1.length := by
      simp [rwT_len l l.1.length (by simp [Line.all])]
    have hp := h.pos (l.1.length + 1)
    rw [pos_succ g] at hp
    have c1 := e_push l.2 n (pos l l.1.length) (-1) (lets l l.1.length) (by have := h.dep l.2 gm; omega) (hw l.2 gm) (by rw [lets_len l _ (Nat.le_refl _)]; omega)
    rw [(plt_ll l.2 _ (hw l.2 gm)).2] at c1
    have e2 : List.range' (pos l l.1.length) l.2.sz = lastR l := rfl
    rw [e2] at c1
    simp -implicitDefEqProofs only [List.length_map, e1]
    simp -implicitDefEqProofs [L2.atI_last, call_o3 c1, letRow]
theorem e_law_letter_row (l : Line) (h : LOk l) (n : Nat) (hn : 101 ≤ n) : Pure (cl n) "_law_letter_row" [l.d] (.lst ((letRow l).map lD)) := by
  obtain ⟨n, rfl, hn⟩ := cl_mono (by omega : 100 ≤ n)
  refine pure_by m_law_letter_row rfl (Nat.le_of_ble_eq_true rfl) ?_
  have z := szl'
  simp -implicitDefEqProofs [f_law_letter_row, Line.d]
  refine run_for (fun i ρ => ∃ s, Fre s ∧ ρ = [Sl.d (D.tup [D.tup (List.map Kd.d l.1), l.2.d]), .d (.lst ((lets l i).map lD)), .d (.int (pos l i : Nat)), s] ∧ i ≤ l.1.length)
    ⟨.no, .no, rfl, Nat.zero_le _⟩ (fun i hi ρ ⟨s, hs, e, _⟩ => ?_) fun ρ ⟨s, hs, e, _⟩ => ?_
  · subst e
    have hi' : i < l.1.length := by simpa using hi
    obtain ⟨k, g1, g2, g3⟩ := l.prem_get hi'
    rw [get_of (x := k.d) (by rw [List.getElem?_map, g1]; rfl)]
    have hp := h.pos (i + 1)
    rw [pos_succ g2] at hp
    have c1 := e_ll k n (pos l i) (by have := h.dep k g3; omega) (by omega)
    have c2 := e_law_size k n (by have := h.dep k g3; omega)
    have g5 : (lets l i).length + (ll k (pos l i)).length ≤ sizeLine := by
      rw [lets_len l i (by omega), ll_len]
      omega
    refine ⟨_, bindT_fre hs rfl, ?_⟩
    simp -implicitDefEqProofs [call_p2 c1, call_p1 c2, g5]
    refine ⟨_, Fre.d, ⟨?_, ?_, rfl⟩, by omega⟩
    · rw [lets_succ g1, List.map_append]
    · rw [pos_succ g2]
      omega
  · subst e
    have g : l.all[l.1.length]? = some l.2 := by simp [Line.all]
    have gm : l.2 ∈ l.all := by simp [Line.all]
    have hp := h.pos (l.1.length + 1)
    rw [pos_succ g] at hp
    have c1 := e_ll l.2 n (pos l l.1.length) (by have := h.dep l.2 gm; omega) (by omega)
    have c2 := e_opp (ll l.2 (pos l l.1.length)) n (by omega) (by rw [ll_len]; omega)
    have g5 : (lets l l.1.length).length + (opp (ll l.2 (pos l l.1.length))).length ≤ sizeLine := by
      rw [lets_len l _ (Nat.le_refl _), opp_len, ll_len]
      omega
    simp -implicitDefEqProofs only [List.length_map]
    simp -implicitDefEqProofs [call_p2 c1, call_p1 c2, g5, letRow]
end Tab

set_option maxHeartbeats 400000
namespace Tab
open PySem PySem.Spec PyProof.Rows L2 Fw
theorem rng1 {n : Nat} (h : n ≤ 10000) : rngF [.int (n : Int)] = some ((List.range n).map fun (k : Nat) => D.int k) := by
  simp only [rngF]
  rw [if_pos (by omega)]
  unfold rngL
  simp
theorem e_is_integer (i : Int) (n : Nat) (hn : 0 < n) : Pure (cl n) "_law_is_integer" [.int i] (.bl true) := by
  obtain ⟨n, rfl⟩ : ∃ m, n = m + 1 := ⟨n - 1, by omega⟩
  refine pure_by m_law_is_integer rfl (Nat.le_of_ble_eq_true rfl) ?_
  simp -implicitDefEqProofs [f_law_is_integer]
theorem e_is_places (xs : List Int) (due : D) (hd : due = .tup (xs.map .int) ∨ due = .lst (xs.map .int)) (hx : xs.length ≤ 10000) (n : Nat) (hn : 1 < n) : Pure (cl n) "_law_is_places" [.tup (xs.map .int), due] (.bl true) := by
  obtain ⟨n, rfl⟩ : ∃ m, n = m + 1 := ⟨n - 1, by omega⟩
  refine pure_by m_law_is_places rfl (Nat.le_of_ble_eq_true rfl) ?_
  have key : ∀ due : D, (∀ i (hi : i < xs.length), ixF due (.int (i : Nat)) = some (.d (.int xs[i]))) → bltF .len [due] = some (.d (.int (xs.length : Nat))) →
      Fw.Run (exSs (cf n) f_law_is_places.body ([D.tup (xs.map .int), due].map Sl.d ++ List.replicate (f_law_is_places.N.length - [D.tup (xs.map .int), due].length) .no)) fun fl ρ => fl = .rt (.d (.bl true)) ∧ 2 ≤ ρ.length := fun due h1 h2 => by
    have h3 := rng1 hx
    simp -implicitDefEqProofs [f_law_is_places, h2, h3]
    refine run_for (fun i ρ => ∃ s, Fre s ∧ ρ = [.d (.tup (xs.map .int)), .d due, s]) ⟨.no, .no, rfl⟩ (fun i hi ρ ⟨s, hs, e⟩ => ?_) fun ρ ⟨s, hs, e⟩ => ?_
    · subst e
      have hi' : i < xs.length := by simpa using hi
      rw [get_of (x := .int (i : Nat)) (by rw [List.getElem?_map, List.getElem?_range hi']; rfl)]
      have a1 := atI_map (f := D.int) (List.getElem?_eq_getElem hi')
      have a2 := e_is_integer xs[i] n (by omega)
      refine ⟨_, bindT_fre hs rfl, ?_⟩
      simp -implicitDefEqProofs [a1, call_p1 a2, h1 i hi', Fre.d]
    · subst e
      simp -implicitDefEqProofs
  rcases hd with rfl | rfl
  · refine key _ (fun i hi => ?_) ?_
    · simp [atI_map (f := D.int) (List.getElem?_eq_getElem hi)]
    · simp
  · refine key _ (fun i hi => ?_) ?_
    · simp [atI_map (f := D.int) (List.getElem?_eq_getElem hi)]
    · simp
theorem e_is_row (ts ds : List D) (hl : ts.length = ds.length) (hx : ds.length ≤ 10000) (n : Nat) (hn : 0 < n) (h : ∀ i (hi : i < ts.length) (hi' : i < ds.length), Pure (cl (n - 1)) "_law_is_places" [ts[i], ds[i]] (.bl true)) : Pure (cl n) "_law_is_row" [.tup ts, .lst ds] (.bl true) := by
  obtain ⟨n, rfl⟩ : ∃ m, n = m + 1 := ⟨n - 1, by omega⟩
  refine pure_by m_law_is_row rfl (Nat.le_of_ble_eq_true rfl) ?_
  have h3 := rng1 hx
  simp -implicitDefEqProofs [f_law_is_row, hl, h3]
  refine run_for (fun i ρ => ∃ s, Fre s ∧ ρ = [.d (.tup ts), .d (.lst ds), s]) ⟨.no, .no, rfl⟩ (fun i hi ρ ⟨s, hs, e⟩ => ?_) fun ρ ⟨s, hs, e⟩ => ?_
  · subst e
    have hi' : i < ds.length := by simpa using hi
    rw [get_of (x := .int (i : Nat)) (by rw [List.getElem?_map, List.getElem?_range hi']; rfl)]
    have a1 := atI_nat (xs := ts) (k := i) (by omega)
    have a2 := atI_nat (xs := ds) (k := i) hi'
    have a3 := h i (by omega) hi'
    refine ⟨_, bindT_fre hs rfl, ?_⟩
    simp -implicitDefEqProofs at a3
    simp -implicitDefEqProofs [a1, a2, call_p2 a3, Fre.d]
  · subst e
    simp -implicitDefEqProofs
theorem e_is_atoms (ss : List Str) (hx : ss.length ≤ 10000) (n : Nat) (hn : 0 < n) : Pure (cl n) "_law_is_atoms" [.tup (ss.map .str), .lst (ss.map .str)] (.bl true) := by
  obtain ⟨n, rfl⟩ : ∃ m, n = m + 1 := ⟨n - 1, by omega⟩
  refine pure_by m_law_is_atoms rfl (Nat.le_of_ble_eq_true rfl) ?_
  have h3 := rng1 hx
  have z := szl'
  simp -implicitDefEqProofs [f_law_is_atoms, h3]
  refine run_mapL (g := fun _ => []) (fun i hi => ?_) ?_
  · have hi' : i < ss.length := by simpa using hi
    have a1 := atI_map (f := D.str) (List.getElem?_eq_getElem hi')
    simp -implicitDefEqProofs [a1]
  · rw [show (List.range ss.length).flatMap (fun _ => ([] : List D)) = [] from List.flatMap_eq_nil_iff.mpr fun _ _ => rfl]
    simp -implicitDefEqProofs
theorem e_all_atoms (l : Line) (h : LOk l) (n : Nat) (hn : 100 ≤ n) : Pure (cl n) "_law_all_atoms" [l.d] (.lst (l.ats.map .str)) := by
  obtain ⟨n, rfl⟩ : ∃ m, n = m + 1 := ⟨n - 1, by omega⟩
  refine pure_by m_law_all_atoms rfl (Nat.le_of_ble_eq_true rfl) ?_
  have hc := h.cat
  simp -implicitDefEqProofs [f_law_all_atoms, Line.d, hc]
  refine run_for (fun i ρ => ∃ s, Fre s ∧ ρ = [Sl.d (D.tup [D.tup (List.map Kd.d l.1), l.2.d]), .d (.lst ((pre l i).map D.str)), s])
    ⟨.no, .no, rfl⟩ (fun i hi ρ ⟨s, hs, e⟩ => ?_) fun ρ ⟨s, hs, e⟩ => ?_
  · subst e
    obtain ⟨k, g1, g2, g3⟩ := l.all_get hi
    have h1 := e_law_atoms k n (by have := h.dep k g3; omega) (by have := h.one g3; omega)
    have hl := h.pre g1
    rw [g2]
    refine ⟨_, bindT_fre hs rfl, ?_⟩
    simp -implicitDefEqProofs [call_p1 h1, pre_succ g1, hl, Fre.d]
  · subst e
    rw [show (l.1.map Kd.d ++ [l.2.d]).length = l.all.length by simp [Line.all], pre_all]
    simp -implicitDefEqProofs
end Tab

set_option maxHeartbeats 400000
namespace Tab
open PySem PySem.Spec PyProof.Rows L2 Fw
def Kd.sg : Kd → Option Str
  | .at _ => none
  | .op c _ _ => some c
def Kd.L : Kd → Kd
  | .at s => .at s
  | .op _ a _ => a
def Kd.R : Kd → Kd
  | .at s => .at s
  | .op _ _ b => b
abbrev Code := Str × Nat × Nat
def gCodes (m : Nat) : Option Str → List Code
  | none => []
  | some c => if c = "/" then [("over right", 0, 0)] else if c = ">" then [("under right", 0, 0)] else (List.range' 1 (m - 1)).map fun k => ("pair right", k, 0)
def pCodes (m i : Nat) : Option Str → List Code
  | none => []
  | some c => if c = "*" then [("pair left", i, 0)] else if c = "/" then (List.range' 1 (m - i - 1)).map fun w => ("over left", i, w) else (List.range' 1 i).map fun w => ("under left", i, w)
def sgAt (l : Line) (i : Nat) : Option Str := (l.1[i]?).bind Kd.sg
def codes (l : Line) : List Code := gCodes l.1.length l.2.sg ++ (List.range l.1.length).flatMap fun i => pCodes l.1.length i (sgAt l i)
def partsOf (l : Line) (c : Code) : List Line :=
  if c.1 = "over right" then [(l.1 ++ [l.2.R], l.2.L)]
  else if c.1 = "under right" then [([l.2.L] ++ l.1, l.2.R)]
  else if c.1 = "pair right" then [(l.1.take c.2.1, l.2.L), (l.1.drop c.2.1, l.2.R)]
  else
    let k := (l.1[c.2.1]?).getD (.at "")
    if c.1 = "pair left" then [(l.1.take c.2.1 ++ [k.L, k.R] ++ l.1.drop (c.2.1 + 1), l.2)]
    else if c.1 = "over left" then [((l.1.drop (c.2.1 + 1)).take c.2.2, k.R), (l.1.take c.2.1 ++ [k.L] ++ l.1.drop (c.2.1 + 1 + c.2.2), l.2)]
    else [((l.1.drop (c.2.1 - c.2.2)).take c.2.2, k.L), (l.1.take (c.2.1 - c.2.2) ++ [k.R] ++ l.1.drop (c.2.1 + 1), l.2)]
def stepD (l : Line) (c : Code) : D := stD c.1 c.2.1 c.2.2 (.tup ((partsOf l c).map Line.d))
section
variable {l : Line} {i w k : Nat}
theorem po_or : partsOf l ("over right", i, w) = [(l.1 ++ [l.2.R], l.2.L)] := if_pos rfl
theorem po_ur : partsOf l ("under right", i, w) = [([l.2.L] ++ l.1, l.2.R)] := by
  unfold partsOf
  rw [if_neg (show ¬ (("under right" : Str) = "over right") by decide +kernel), if_pos rfl]
theorem po_pr : partsOf l ("pair right", i, w) = [(l.1.take i, l.2.L), (l.1.drop i, l.2.R)] := by
  unfold partsOf
  rw [if_neg (show ¬ (("pair right" : Str) = "over right") by decide +kernel), if_neg (show ¬ (("pair right" : Str) = "under right") by decide +kernel), if_pos rfl]
theorem po_pl : partsOf l ("pair left", i, w) = [(l.1.take i ++ [((l.1[i]?).getD (.at "")).L, ((l.1[i]?).getD (.at "")).R] ++ l.1.drop (i + 1), l.2)] := by
  unfold partsOf
  rw [if_neg (show ¬ (("pair left" : Str) = "over right") by decide +kernel), if_neg (show ¬ (("pair left" : Str) = "under right") by decide +kernel), if_neg (show ¬ (("pair left" : Str) = "pair right") by decide +kernel)]
  exact if_pos rfl
theorem po_ol : partsOf l ("over left", i, w) = [((l.1.drop (i + 1)).take w, ((l.1[i]?).getD (.at "")).R), (l.1.take i ++ [((l.1[i]?).getD (.at "")).L] ++ l.1.drop (i + 1 + w), l.2)] := by
  unfold partsOf
  rw [if_neg (show ¬ (("over left" : Str) = "over right") by decide +kernel), if_neg (show ¬ (("over left" : Str) = "under right") by decide +kernel), if_neg (show ¬ (("over left" : Str) = "pair right") by decide +kernel)]
  exact (if_neg (show ¬ (("over left" : Str) = "pair left") by decide +kernel)).trans (if_pos rfl)
theorem po_ul : partsOf l ("under left", i, w) = [((l.1.drop (i - w)).take w, ((l.1[i]?).getD (.at "")).L), (l.1.take (i - w) ++ [((l.1[i]?).getD (.at "")).R] ++ l.1.drop (i + 1), l.2)] := by
  unfold partsOf
  rw [if_neg (show ¬ (("under left" : Str) = "over right") by decide +kernel), if_neg (show ¬ (("under left" : Str) = "under right") by decide +kernel), if_neg (show ¬ (("under left" : Str) = "pair right") by decide +kernel)]
  exact (if_neg (show ¬ (("under left" : Str) = "pair left") by decide +kernel)).trans (if_neg (show ¬ (("under left" : Str) = "over left") by decide +kernel))
end
theorem rng2 {a b : Nat} (h : b ≤ 10000) (ha : a ≤ 10000) : rngF [.int (a : Int), .int (b : Int)] = some ((List.range' a (b - a)).map fun (k : Nat) => D.int k) := by
  simp only [rngF]
  rw [if_pos (by omega)]
  unfold rngL
  rw [show ((b : Int) - (a : Int)).toNat = b - a by omega, List.range'_eq_map_range, List.map_map]
  congr 1
theorem rng_m {m : Nat} (h : m ≤ 10000) : rngF [.int 1, .int (m : Int)] = some ((List.range' 1 (m - 1)).map fun (k : Nat) => D.int k) := rng2 (a := 1) h (by omega)
theorem rng_mi {m i : Nat} (h : m ≤ 10000) (hi : i ≤ m) : rngF [.int 1, .int ((m : Int) - (i : Int))] = some ((List.range' 1 (m - i - 1)).map fun (k : Nat) => D.int k) := by
  rw [show (m : Int) - (i : Int) = ((m - i : Nat) : Int) by omega]
  exact rng_m (by omega)
theorem rng_i {i : Nat} (h : i ≤ 5000) : rngF [.int 1, .int ((i : Int) + 1)] = some ((List.range' 1 i).map fun (k : Nat) => D.int k) := rng_m (m := i + 1) (by omega)
theorem cut_1 {α : Type} {xs : List α} : cutD xs (some 1) none = xs.drop 1 := cut_from (k := 1)
theorem e_prem_steps (row : List Kd) (goal : Kd) (i : Nat) (kk : Kd) (hk : row[i]? = some kk) (hw : Wf kk) (hr : row.length ≤ 1000) (n : Nat) (hn : 0 < n) :
    Pure (cl n) "_law_premise_steps" [.tup (row.map Kd.d), goal.d, .int (i : Nat)] (.lst ((pCodes row.length i kk.sg).map (stepD (row, goal)))) := by
  obtain ⟨n, rfl⟩ : ∃ m, n = m + 1 := ⟨n - 1, by omega⟩
  refine pure_by m_law_premise_steps rfl (Nat.le_of_ble_eq_true rfl) ?_
  have z := szl'
  have hi := (List.getElem?_eq_some_iff.mp hk).1
  have a1 := atI_map (f := Kd.d) hk
  cases kk with
  | «at» s => simp -implicitDefEqProofs [f_law_premise_steps, a1, Kd.d, Kd.sg, pCodes]
  | op c a b =>
    have g1 : i + 2 ≤ sizeLine := by omega
    have g2 : i + 2 + (row.length - (i + 1)) ≤ sizeLine := by omega
    have m1 : min i row.length = i := by omega
    by_cases h1 : c = "*"
    · have e0 : (row[i]?).getD (.at "") = .op c a b := by rw [hk]; rfl
      simp -implicitDefEqProofs [f_law_premise_steps, a1, Kd.d, h1, cut_to, cut_1, cut_from1, g1, g2, m1, pCodes, Kd.sg, stepD, stD, po_pl, Line.d, hk, Kd.L, Kd.R]
    · by_cases h2 : c = "/"
      · subst h2
        have n1 : ¬ (("/" : Str) = "*") := by decide +kernel
        have r1 := rng_mi (m := row.length) (i := i) (by omega) (by omega)
        simp -implicitDefEqProofs [f_law_premise_steps, a1, Kd.d, n1, r1]
        refine run_for (fun j ρ => ∃ s s', Fre s ∧ Fre s' ∧ ρ = [.d (.tup (row.map Kd.d)), .d goal.d, .d (.int (i : Nat)), .d (.tup [.str "/", a.d, b.d]), .own (.lst (((List.range' 1 (row.length - i - 1)).take j).map fun w => stepD (row, goal) ("over left", i, w))), s, s'])
          ⟨.no, .no, .no, .no, rfl⟩ (fun j hj ρ ⟨s, s', hs, hs', e⟩ => ?_) fun ρ ⟨s, s', hs, hs', e⟩ => ?_
        · subst e
          have hj' : j < row.length - i - 1 := by simpa using hj
          have gj : (List.range' 1 (row.length - i - 1))[j]? = some (1 + j) := by
            rw [List.getElem?_range' hj', Nat.one_mul]
          have hwj : 1 + j ≤ row.length - i - 1 := by omega
          generalize hwe : 1 + j = w at gj hwj
          rw [get_of (x := .int (w : Int)) (by rw [List.getElem?_map, gj]; rfl)]
          have c1 := cut_mid1 (xs := row.map Kd.d) (k := i) (w := w) (by simp; omega)
          have c2 := cut_from2 (xs := row.map Kd.d) (k := i) (w := w)
          have g3 : i + 1 + (row.length - (i + 1 + w)) ≤ sizeLine := by omega
          have g4 : min j (row.length - i - 1) < sizeLine := by omega
          have g5 : i + 1 ≤ sizeLine := by omega
          have e0 : (row[i]?).getD (.at "") = .op "/" a b := by rw [hk]; rfl
          refine ⟨_, bindT_fre hs rfl, ?_⟩
          rw [take_succ' gj]
          simp -implicitDefEqProofs [hs'.bo, cut_to, c1, c2, m1, g3, g4, g5, stepD, stD, po_ol, hk, Kd.L, Kd.R, Line.d, Fre.d]
        · subst e
          simp -implicitDefEqProofs [pCodes, Kd.sg, n1, Function.comp_def]
      · have r1 := rng_i (i := i) (by omega)
        simp -implicitDefEqProofs [f_law_premise_steps, a1, Kd.d, h1, h2, r1]
        refine run_for (fun j ρ => ∃ s s', Fre s ∧ Fre s' ∧ ρ = [.d (.tup (row.map Kd.d)), .d goal.d, .d (.int (i : Nat)), .d (.tup [.str c, a.d, b.d]), .own (.lst (((List.range' 1 i).take j).map fun w => stepD (row, goal) ("under left", i, w))), s, s'])
          ⟨.no, .no, .no, .no, rfl⟩ (fun j hj ρ ⟨s, s', hs, hs', e⟩ => ?_) fun ρ ⟨s, s', hs, hs', e⟩ => ?_
        · subst e
          have hj' : j < i := by simpa using hj
          have gj : (List.range' 1 i)[j]? = some (1 + j) := by
            rw [List.getElem?_range' hj', Nat.one_mul]
          have hwj : 1 + j ≤ i := by omega
          generalize hwe : 1 + j = w at gj hwj
          rw [get_of (x := .int (w : Int)) (by rw [List.getElem?_map, gj]; rfl)]
          have c1 := cut_mid3 (xs := row.map Kd.d) (k := i) (w := w) hwj (by simp; omega)
          have c2 := cut_to3 (xs := row.map Kd.d) (k := i) (w := w) hwj
          have m2 : min (i - w) row.length = i - w := by omega
          have g3 : i - w + 1 + (row.length - (i + 1)) ≤ sizeLine := by omega
          have g4 : min j i < sizeLine := by omega
          have g5 : i - w + 1 ≤ sizeLine := by omega
          refine ⟨_, bindT_fre hs rfl, ?_⟩
          rw [take_succ' gj]
          simp -implicitDefEqProofs [hs'.bo, cut_from1, c1, c2, m2, g3, g4, g5, stepD, stD, po_ul, hk, Kd.L, Kd.R, Line.d, Fre.d]
        · subst e
          simp -implicitDefEqProofs [pCodes, Kd.sg, h1, h2, Function.comp_def]
end Tab

set_option maxHeartbeats 400000
namespace Tab
open PySem PySem.Spec PyProof.Rows L2 Fw
theorem run_cons {C : Cfg} {s : IS} {r : ISs} {ρ : List Sl} {Q : Fl → List Sl → Prop} (P : List Sl → Prop) (h : Fw.Run (exS C s ρ) fun fl ρ' => fl = .nx ∧ P ρ') (hr : ∀ ρ', P ρ' → Fw.Run (exSs C r ρ') Q) : Fw.Run (exSs C (.cons s r) ρ) Q := by
  rw [ex_cons]
  refine h.bind fun a ρ' ⟨e, p⟩ => ?_
  subst e
  rw [thenS_nx]
  exact hr ρ' p
def axD : D := stD "axiom" 0 0 (.tup [])
def axs (l : Line) (b : Bool) : List D := match l.2 with
  | .at _ => if b then [axD] else []
  | .op _ _ _ => []
def pUpTo (l : Line) (i : Nat) : List Code := (List.range i).flatMap fun i => pCodes l.1.length i (sgAt l i)
theorem pUpTo_succ {l : Line} {i : Nat} : pUpTo l (i + 1) = pUpTo l i ++ pCodes l.1.length i (sgAt l i) := by
  unfold pUpTo
  rw [List.range_succ, List.flatMap_append]
  simp
theorem pCodes_len (m i : Nat) (s : Option Str) (hi : i < m) : (pCodes m i s).length ≤ m := by
  unfold pCodes
  cases s with
  | none => simp
  | some c =>
    dsimp only
    split
    · simp; omega
    · split
      · simp; omega
      · simp; omega
theorem gCodes_len (m : Nat) (s : Option Str) (hm : 1 ≤ m) : (gCodes m s).length ≤ m := by
  unfold gCodes
  cases s with
  | none => simp
  | some c =>
    dsimp only
    split
    · simp; omega
    · split
      · simp; omega
      · simp
theorem pUpTo_len (l : Line) : ∀ i, i ≤ l.1.length → (pUpTo l i).length ≤ i * l.1.length
  | 0, _ => by simp [pUpTo]
  | i + 1, h => by
    rw [pUpTo_succ, List.length_append, Nat.succ_mul]
    have h1 := pUpTo_len l i (by omega)
    have h2 := pCodes_len l.1.length i (sgAt l i) (by omega)
    omega
theorem e_last_steps (l : Line) (h : LOk l) (hw : ∀ k ∈ l.all, Wf k) (hm : 1 ≤ l.1.length) (b : Bool) (heq : ∀ s, l.2 = .at s → cmpF .Eq (.tup (l.1.map Kd.d)) (.tup [.str s]) = some b) (n : Nat) (hn : 1 < n) :
    Pure (cl n) "_law_last_steps" [l.d] (.lst (axs l b ++ (codes l).map (stepD l))) := by
  obtain ⟨n, rfl⟩ : ∃ m, n = m + 1 := ⟨n - 1, by omega⟩
  refine pure_by m_law_last_steps rfl (Nat.le_of_ble_eq_true rfl) ?_
  have z := szl'
  have hlen := h.len
  have el : l.all.length = l.1.length + 1 := by simp [Line.all]
  unfold f_law_last_steps
  refine run_cons (fun ρ => ρ = [.d l.d, .no, .no, .d (.tup (l.1.map Kd.d)), .d l.2.d, .no]) (by simp -implicitDefEqProofs [Line.d]) fun ρ e => ?_
  subst e
  refine run_cons (fun ρ => ρ = [.d l.d, .own (.lst []), .no, .d (.tup (l.1.map Kd.d)), .d l.2.d, .no]) (by simp -implicitDefEqProofs) fun ρ e => ?_
  subst e
  refine run_cons (fun ρ => ∃ s, ρ = [.d l.d, .own (.lst (axs l b ++ (gCodes l.1.length l.2.sg).map (stepD l))), .no, .d (.tup (l.1.map Kd.d)), .d l.2.d, s]) ?_ fun ρ ⟨s5, e⟩ => ?_
  · obtain ⟨row, goal⟩ := l
    have c1 : row.length + 1 ≤ sizeLine := by simp at el hlen; omega
    have c2 : 1 + row.length ≤ sizeLine := by omega
    have c3 : 0 < sizeLine := by omega
    cases goal with
    | «at» s =>
      have q := heq s rfl
      cases b with
      | true => simp -implicitDefEqProofs [Kd.d, q, axs, gCodes, Kd.sg, c3, axD, stD]
      | false => simp -implicitDefEqProofs [Kd.d, q, axs, gCodes, Kd.sg]
    | op c x y =>
      by_cases h1 : c = "/"
      · simp -implicitDefEqProofs [Kd.d, axs, gCodes, Kd.sg, h1, c1, c3, stepD, stD, po_or, Line.d, Kd.L, Kd.R]
      · by_cases h2 : c = ">"
        · subst h2
          have n1 : ¬ ((">" : Str) = "/") := h1
          simp -implicitDefEqProofs [Kd.d, axs, gCodes, Kd.sg, n1, c2, c3, stepD, stD, po_ur, Line.d, Kd.L, Kd.R]
        · have r1 := rng_m (m := row.length) (by simp at el hlen; omega)
          simp -implicitDefEqProofs [Kd.d, axs, gCodes, Kd.sg, h1, h2, r1]
          refine run_for (fun j ρ => ∃ s, Fre s ∧ ρ = [.d (Line.d (row, .op c x y)), .own (.lst (((List.range' 1 (row.length - 1)).take j).map fun k => stepD (row, .op c x y) ("pair right", k, 0))), .no, .d (.tup (row.map Kd.d)), .d (.tup [.str c, x.d, y.d]), s])
            ⟨.no, .no, rfl⟩ (fun j hj ρ ⟨s, hs, e⟩ => ?_) fun ρ ⟨s, hs, e⟩ => ?_
          · subst e
            have hj' : j < row.length - 1 := by simpa using hj
            have gj : (List.range' 1 (row.length - 1))[j]? = some (1 + j) := by
              rw [List.getElem?_range' hj', Nat.one_mul]
            generalize hwe : 1 + j = w at gj
            rw [get_of (x := .int (w : Int)) (by rw [List.getElem?_map, gj]; rfl)]
            have g4 : min j (row.length - 1) < sizeLine := by omega
            refine ⟨_, bindT_fre hs rfl, ?_⟩
            rw [take_succ' gj]
            simp -implicitDefEqProofs [cut_to, cut_from, g4, stepD, stD, po_pr, Line.d, Kd.L, Kd.R, Kd.d, Fre.d]
          · subst e
            simp -implicitDefEqProofs [Function.comp_def, axs, gCodes, Kd.sg, h1, h2, Kd.d]
  · subst e
    have r1 := rng1 (n := l.1.length) (by omega)
    simp -implicitDefEqProofs [r1]
    refine run_for (fun i ρ => ∃ s s', Fre s ∧ ρ = [.d l.d, .own (.lst (axs l b ++ (gCodes l.1.length l.2.sg).map (stepD l) ++ (pUpTo l i).map (stepD l))), s, .d (.tup (l.1.map Kd.d)), .d l.2.d, s'])
      ⟨.no, s5, .no, by simp [pUpTo]⟩ (fun i hi ρ ⟨s, s', hs, e⟩ => ?_) fun ρ ⟨s, s', hs, e⟩ => ?_
    · subst e
      have hi' : i < l.1.length := by simpa using hi
      obtain ⟨k, g1, g2, g3⟩ := l.prem_get hi'
      rw [get_of (x := .int (i : Nat)) (by rw [List.getElem?_map, List.getElem?_range hi']; rfl)]
      have a1 := e_prem_steps l.1 l.2 i k g1 (hw k g3) (by omega) n (by omega)
      have esg : sgAt l i = k.sg := by unfold sgAt; rw [g1]; rfl
      have q1 := gCodes_len l.1.length l.2.sg hm
      have q2 := pUpTo_len l i (by omega)
      have q3 := pCodes_len l.1.length i k.sg hi'
      have q4 : i * l.1.length ≤ 200 * 200 := Nat.mul_le_mul (by omega) (by omega)
      have q5 : (axs l b).length ≤ 1 := by
        unfold axs
        split
        · split <;> simp
        · simp
      have zz : (100000 : Nat) ≤ sizeLine := by decide
      have q6 : (axs l b).length + ((gCodes l.1.length l.2.sg).length + ((pUpTo l i).length + 0)) + (pCodes l.1.length i k.sg).length ≤ sizeLine := by omega
      have q7 : (axs l b).length + ((gCodes l.1.length l.2.sg).length + (pUpTo l i).length) + (pCodes l.1.length i k.sg).length ≤ sizeLine := by omega
      refine ⟨_, bindT_fre hs rfl, ?_⟩
      simp -implicitDefEqProofs [call_p3 a1, q7, pUpTo_succ, esg, Fre.d]
    · subst e
      simp -implicitDefEqProofs [codes, pUpTo]
end Tab

set_option maxHeartbeats 400000
namespace Fw
open PySem PySem.Spec PyProof.Rows L2
/-- a def that changes its second argument -/
def Pol2 (call : Str → List Fw.Arg → Option (T × List Sl)) (f : Str) (a : D) (o : O) (r : D) (o' : O) : Prop := ∃ s, call f [.fr a, .bo o] = some (.d r, [s, .bor o'])
section
variable {ρ : List Sl} {call : Str → List Fw.Arg → Option (T × List Sl)} {f : Str} {a r : D} {o o' : O} {i : Nat}
theorem call_2b (h : Pol2 call f a o r o') (e : ρ[i]? = some (.bor o)) : callF call f [.d a, .sl i] ρ = some (.d r, ρ.set i (.bor o')) := by
  obtain ⟨s, h⟩ := h
  have e2 : toArgs ρ [.d a, .sl i] = some [.fr a, .bo o] := by
    simp [toArgs, toArg, e]
  have e3 : lent ρ [.d a, .sl i] = [i] := by simp [lent, e]
  have e4 : backs ρ [.d a, .sl i] [s, .bor o'] = some [(i, .bor o')] := by
    simp [backs, e, back1]
  have e5 : news [.d a, .sl i] = 0 := rfl
  unfold callF
  rw [e2, e3, e5]
  simp [h, e4, setAll]
theorem call_2o (h : Pol2 call f a o r o') (e : ρ[i]? = some (.own o)) : callF call f [.d a, .sl i] ρ = some (.d r, ρ.set i (.own o')) := by
  obtain ⟨s, h⟩ := h
  have e2 : toArgs ρ [.d a, .sl i] = some [.fr a, .bo o] := by
    simp [toArgs, toArg, e]
  have e3 : lent ρ [.d a, .sl i] = [i] := by simp [lent, e]
  have e4 : backs ρ [.d a, .sl i] [s, .bor o'] = some [(i, .own o')] := by
    simp [backs, e, back1]
  have e5 : news [.d a, .sl i] = 0 := rfl
  unfold callF
  rw [e2, e3, e5]
  simp [h, e4, setAll]
end
end Fw
namespace Tab
open PySem PySem.Spec PyProof.Rows L2 Fw
theorem pol2_by {n : Nat} {fd : Fd} {o o' : O} {a r : D} (h : fd ∈ tabOf dfs) (hl : fd.ps.length = 2) (hN : 2 ≤ fd.N.length)
    (e : Fw.Run (exSs (cf n) fd.body (.d a :: .bor o :: List.replicate (fd.N.length - 2) .no)) fun fl ρ => fl = .rt (.d r) ∧ ρ[1]? = some (.bor o') ∧ 2 ≤ ρ.length) : Pol2 (cl (n + 1)) fd.name a o r o' := by
  obtain ⟨fl, ρ, e, rfl, h1, l⟩ := e
  match ρ, h1, l with
  | [], h1, _ => simp at h1
  | [_], h1, _ => simp at h1
  | s :: t :: ρ, h1, l =>
    simp at h1
    subst h1
    refine ⟨s, (cl_by h _).trans ?_⟩
    unfold runF
    rw [if_pos (by rw [hl]; rfl)]
    show (exSs (cf n) fd.body (.d a :: .bor o :: List.replicate (fd.N.length - 2) .no)).bind _ = _
    rw [e]
    rfl
/-! ### labels -/
def lab (p : Nat) : Str := Str.ofString (toString ((p : Nat) : Int))
def lbD (p : Nat) : D := .str (lab p)
def mk : Kd → Nat → Kd
  | .at _, s => .at (lab s)
  | .op c a b, s => .op c (mk a s) (mk b (s + a.sz))
theorem mk_sz : ∀ (k : Kd) (s : Nat), (mk k s).sz = k.sz
  | .at _, s => rfl
  | .op c a b, s => by
    show (mk a s).sz + (mk b (s + a.sz)).sz = a.sz + b.sz
    rw [mk_sz, mk_sz]
theorem mk_dep : ∀ (k : Kd) (s : Nat), (mk k s).dep = k.dep
  | .at _, s => rfl
  | .op c a b, s => by
    show max (mk a s).dep (mk b (s + a.sz)).dep + 1 = max a.dep b.dep + 1
    rw [mk_dep, mk_dep]
theorem mk_wf : ∀ (k : Kd) (s : Nat), Wf k → Wf (mk k s)
  | .at _, s, _ => trivial
  | .op c a b, s, h => ⟨h.1, mk_wf a s h.2.1, mk_wf b _ h.2.2⟩
theorem mk_sg : ∀ (k : Kd) (s : Nat), (mk k s).sg = k.sg
  | .at _, s => rfl
  | .op c a b, s => rfl
theorem mk_ats : ∀ (k : Kd) (s : Nat), (mk k s).ats = (List.range' s k.sz).map lab
  | .at _, s => rfl
  | .op c a b, s => by
    show (mk a s).ats ++ (mk b (s + a.sz)).ats = (List.range' s (a.sz + b.sz)).map lab
    rw [mk_ats, mk_ats, ← List.range'_append_1, List.map_append]
theorem e_put (k : Kd) : ∀ (n s : Nat) (X : List D), k.dep < n → Pol2 (cl n) "_law_put" k.d (.lst (X ++ (List.range' s k.sz).reverse.map lbD)) (mk k s).d (.lst X) := by
  induction k with
  | «at» a =>
    intro n s X hn
    obtain ⟨n, rfl⟩ : ∃ m, n = m + 1 := ⟨n - 1, by omega⟩
    refine pol2_by m_law_put rfl (Nat.le_of_ble_eq_true rfl) ?_
    have e : (List.range' s (Kd.at a).sz).reverse.map lbD = [lbD s] := rfl
    rw [e]
    simp -implicitDefEqProofs [f_law_put, Kd.d, mut_pop, mk, lbD]
  | op c a b iha ihb =>
    intro n s X hn
    obtain ⟨n, rfl⟩ : ∃ m, n = m + 1 := ⟨n - 1, by omega⟩
    have hd : (Kd.op c a b).dep = max a.dep b.dep + 1 := rfl
    refine pol2_by m_law_put rfl (Nat.le_of_ble_eq_true rfl) ?_
    have e : X ++ (List.range' s (Kd.op c a b).sz).reverse.map lbD = (X ++ (List.range' (s + a.sz) b.sz).reverse.map lbD) ++ (List.range' s a.sz).reverse.map lbD := by
      rw [show (Kd.op c a b).sz = a.sz + b.sz from rfl, ← List.range'_append_1, List.reverse_append, List.map_append, List.append_assoc]
    rw [e]
    have i1 := iha n s (X ++ (List.range' (s + a.sz) b.sz).reverse.map lbD) (by omega)
    have i2 := ihb n (s + a.sz) X (by omega)
    generalize X ++ (List.range' (s + a.sz) b.sz).reverse.map lbD ++ (List.range' s a.sz).reverse.map lbD = B0 at i1 ⊢
    generalize X ++ (List.range' (s + a.sz) b.sz).reverse.map lbD = B1 at i1 i2
    simp -implicitDefEqProofs [f_law_put, Kd.d, call_2b i1, call_2b i2, mk]
def markRow : List Kd → Nat → List Kd
  | [], _ => []
  | k :: ks, s => mk k s :: markRow ks (s + k.sz)
def ml (l : Line) : Line := (markRow l.1 0, mk l.2 (szs l.1))
theorem markRow_get : ∀ (ks : List Kd) (s i : Nat) (k : Kd), ks[i]? = some k → (markRow ks s)[i]? = some (mk k (s + szs (ks.take i)))
  | [], s, i, k, h => by simp at h
  | a :: ks, s, 0, k, h => by
    simp at h
    subst h
    simp [markRow, szs]
  | a :: ks, s, i + 1, k, h => by
    have z := markRow_get ks (s + a.sz) i k (by simpa using h)
    simp [markRow, z, szs, Nat.add_assoc]
theorem markRow_len : ∀ (ks : List Kd) (s : Nat), (markRow ks s).length = ks.length
  | [], s => rfl
  | a :: ks, s => by simp [markRow, markRow_len ks]
theorem pos_prem {l : Line} {i : Nat} (h : i ≤ l.1.length) : pos l i = szs (l.1.take i) := by
  unfold pos Line.all
  rw [List.take_append_of_le_length h]
theorem pos_tot (l : Line) : pos l l.all.length = l.sz := by
  unfold pos szs
  rw [List.take_length]
  rfl
theorem e_with_atoms (l : Line) (h : LOk l) (n : Nat) (hn : 100 ≤ n) : Pure (cl n) "_law_with_atoms" [l.d, .lst ((List.range' 0 l.sz).map lbD)] (ml l).d := by
  obtain ⟨n, rfl⟩ : ∃ m, n = m + 1 := ⟨n - 1, by omega⟩
  refine pure_by m_law_with_atoms rfl (Nat.le_of_ble_eq_true rfl) ?_
  have z := szl'
  have hlen := h.len
  have el : l.all.length = l.1.length + 1 := by simp [Line.all]
  have gl : l.all[l.1.length]? = some l.2 := by simp [Line.all]
  have ptot := pos_tot l
  rw [el, pos_succ gl] at ptot
  have pm := pos_prem (l := l) (i := l.1.length) (Nat.le_refl _)
  rw [List.take_length] at pm
  have bx : ∀ i k, l.all[i]? = some k → pos l i + k.sz ≤ l.sz → (List.range' (pos l i) (l.sz - pos l i)).reverse.map lbD = (List.range' (pos l (i + 1)) (l.sz - pos l (i + 1))).reverse.map lbD ++ (List.range' (pos l i) k.sz).reverse.map lbD := fun i k g hp => by
    rw [pos_succ g, show l.sz - pos l i = k.sz + (l.sz - (pos l i + k.sz)) by omega, ← List.range'_append_1, List.reverse_append, List.map_append]
  have ple : ∀ i, pos l i ≤ l.sz := fun i => by
    unfold pos szs Line.sz
    rw [List.map_take]
    exact sum_take_le _ _
  simp -implicitDefEqProofs [f_law_with_atoms, Line.d, lrevF]
  refine run_turns (fun i acc ρ => acc = ((ml l).1.take i).map Kd.d ∧ ρ = [.d (.tup [.tup (l.1.map Kd.d), l.2.d]), .d (.lst ((List.range' 0 l.sz).map lbD)), .own (.lst ((List.range' (pos l i) (l.sz - pos l i)).reverse.map lbD)), .no, .no]) ⟨by simp, by simp [pos, szs]⟩ (fun i hi acc ρ ⟨e1, e2⟩ => ?_) fun xs ρ ⟨e1, e2⟩ => ?_
  · subst e1 e2
    have hi' : i < l.1.length := by simpa using hi
    obtain ⟨k, g1, g2, g3⟩ := l.prem_get hi'
    rw [get_of (x := k.d) (by rw [List.getElem?_map, g1]; rfl)]
    have p1 := ple (i + 1)
    rw [pos_succ g2] at p1
    rw [bx i k g2 p1]
    have c1 := e_put k n (pos l i) ((List.range' (pos l (i + 1)) (l.sz - pos l (i + 1))).reverse.map lbD) (by have := h.dep k g3; omega)
    generalize (List.range' (pos l (i + 1)) (l.sz - pos l (i + 1))).reverse.map lbD ++ (List.range' (pos l i) k.sz).reverse.map lbD = B0 at c1 ⊢
    have m1 : (ml l).1[i]? = some (mk k (pos l i)) := by
      have q := markRow_get l.1 0 i k g1
      rw [Nat.zero_add, ← pos_prem (by omega)] at q
      exact q
    simp -implicitDefEqProofs [call_2o c1, take_succ' m1]
  · subst e1 e2
    have lm : (ml l).1.length = l.1.length := markRow_len l.1 0
    have c1 := e_put l.2 n (pos l l.1.length) [] (by have := h.dep l.2 (by simp [Line.all]); omega)
    rw [List.nil_append] at c1
    have e3 : l.sz - pos l l.1.length = l.2.sz := by omega
    have e4 : ((ml l).1.take l.1.length).length ≤ sizeLine := by simp; omega
    simp -implicitDefEqProofs only [List.length_map, e3]
    rw [if_pos e4]
    simp -implicitDefEqProofs [call_2o c1]
    have e5 : (ml l).1.take l.1.length = (ml l).1 := List.take_of_length_le (by rw [lm]; exact Nat.le_refl _)
    rw [← List.map_take, e5, pm]
    rfl
end Tab

set_option maxHeartbeats 400000
namespace Tab
open PySem PySem.Spec PyProof.Rows L2 Fw
theorem lab_int {p : Nat} (h : p ≤ 10000) : bltF .int [lbD p] = some (.d (.int (p : Nat))) := by
  have h1 : (TL.numL p).length ≤ 5 := TL.numL_len (by decide) (by omega)
  have h2 : (lab p).length ≤ 640 := by
    unfold lab
    rw [TL.len_tl, TL.tl_num]
    omega
  have h3 : PySem.intText? (lab p) = some (p : Int) := TL.int_num (by omega)
  show (if (lab p).length ≤ 640 then (PySem.intText? (lab p)).map iD else none) = _
  rw [if_pos h2, h3]
  rfl
theorem e_read (part : Line) (h : LOk part) (ps : List Nat) (he : part.ats = ps.map lab) (hp : ∀ p ∈ ps, p ≤ 10000) (hl : ps.length ≤ 10000) (n : Nat) (hn : 101 ≤ n) : Pure (cl n) "_law_read" [part.d] (.lst (ps.map fun (p : Nat) => D.int p)) := by
  obtain ⟨n, rfl, hn⟩ := cl_mono (by omega : 100 ≤ n)
  refine pure_by m_law_read rfl (Nat.le_of_ble_eq_true rfl) ?_
  have a1 := e_all_atoms part h n (by omega)
  rw [he, List.map_map] at a1
  have e : (D.str ∘ lab) = lbD := rfl
  rw [e] at a1
  have z := szl'
  have g : ps.length ≤ sizeLine := by omega
  simp -implicitDefEqProofs [f_law_read, call_p1 a1]
  refine run_map1 (h := fun (p : Nat) => D.int p) (fun p hp' => ?_) ?_
  · simp -implicitDefEqProofs [lab_int (hp p hp')]
  · simp -implicitDefEqProofs [g]
/-- kinds whose atoms are these labels -/
def RL (ks : List Kd) (R : List (List Nat)) : Prop := ks.map Kd.ats = R.map fun r => r.map lab
theorem RL.take {ks : List Kd} {R : List (List Nat)} (h : RL ks R) (i : Nat) : RL (ks.take i) (R.take i) := by
  unfold RL at *
  rw [List.map_take, h, List.map_take]
theorem RL.drop {ks : List Kd} {R : List (List Nat)} (h : RL ks R) (i : Nat) : RL (ks.drop i) (R.drop i) := by
  unfold RL at *
  rw [List.map_drop, h, List.map_drop]
theorem RL.append {ks ks' : List Kd} {R R' : List (List Nat)} (h : RL ks R) (h' : RL ks' R') : RL (ks ++ ks') (R ++ R') := by
  unfold RL at *
  rw [List.map_append, h, h', List.map_append]
theorem RL.one {k : Kd} {r : List Nat} (h : k.ats = r.map lab) : RL [k] [r] := by
  unfold RL
  simp [h]
theorem RL.two {k k' : Kd} {r r' : List Nat} (h : k.ats = r.map lab) (h' : k'.ats = r'.map lab) : RL [k, k'] [r, r'] := by
  unfold RL
  simp [h, h']
theorem RL.ats {ks : List Kd} {R : List (List Nat)} {g : Kd} {r : List Nat} (h : RL ks R) (hg : g.ats = r.map lab) : Line.ats (ks, g) = ((R ++ [r]).flatten).map lab := by
  unfold RL at h
  unfold Line.ats Line.all
  rw [List.flatMap_append, List.flatMap_def, h, List.flatten_append, List.map_append, List.map_flatten]
  simp [hg]
theorem ml_RL (l : Line) : RL (ml l).1 (rwT l l.1.length) := by
  unfold RL
  apply List.ext_getElem?
  intro i
  rw [List.getElem?_map, List.getElem?_map]
  by_cases hi : i < l.1.length
  · obtain ⟨k, g1, g2, g3⟩ := l.prem_get hi
    have q := markRow_get l.1 0 i k g1
    rw [Nat.zero_add, ← pos_prem (by omega)] at q
    have q' : (ml l).1[i]? = some (mk k (pos l i)) := q
    rw [q', rwT_get g2 l.1.length hi (by simp [Line.all])]
    simp [mk_ats]
  · have e1 : (ml l).1[i]? = none := List.getElem?_eq_none (by rw [show (ml l).1.length = l.1.length from markRow_len l.1 0]; omega)
    have e2 : (rwT l l.1.length)[i]? = none := List.getElem?_eq_none (by rw [rwT_len l _ (by simp [Line.all])]; omega)
    rw [e1, e2]
    rfl
theorem pos_last (l : Line) : pos l l.1.length = szs l.1 := by
  rw [pos_prem (Nat.le_refl _), List.take_length]
theorem ml_goal (l : Line) : (ml l).2.ats = (lastR l).map lab := by
  show (mk l.2 (szs l.1)).ats = _
  rw [mk_ats, ← pos_last]
  rfl
/-- a small line -/
structure LSm (l : Line) : Prop where
  pos : 1 ≤ l.1.length
  len : l.1.length ≤ 90
  sz : l.sz ≤ 700
  dep : ∀ k ∈ l.all, k.dep < 55
  wf : ∀ k ∈ l.all, Wf k
theorem LSm.ok {l : Line} (h : LSm l) : LOk l := ⟨by simp [Line.all]; have := h.len; omega, by have := h.sz; omega, fun k m => by have := h.dep k m; omega⟩
def fl (R : List (List Nat)) : Nat := R.flatten.length
theorem fl_append (R S : List (List Nat)) : fl (R ++ S) = fl R + fl S := by simp [fl]
theorem fl_take (R : List (List Nat)) (i : Nat) : fl (R.take i) ≤ fl R := by
  have e : fl R = fl (R.take i) + fl (R.drop i) := by rw [← fl_append, List.take_append_drop]
  omega
theorem fl_drop (R : List (List Nat)) (i : Nat) : fl (R.drop i) ≤ fl R := by
  have e : fl R = fl (R.take i) + fl (R.drop i) := by rw [← fl_append, List.take_append_drop]
  omega
theorem fl_one (r : List Nat) : fl [r] = r.length := by simp [fl]
theorem fl_two (r s : List Nat) : fl [r, s] = r.length + s.length := by simp [fl]
theorem fl_rwT (l : Line) : ∀ i, i ≤ l.all.length → fl (rwT l i) = pos l i
  | 0, _ => by simp [rwT, rowsOf, fl, pos, szs]
  | i + 1, h => by
    have g : l.all[i]? = some l.all[i] := List.getElem?_eq_getElem h
    rw [rwT_succ g, fl_append, fl_rwT l i (by omega), pos_succ g, fl_one, List.length_range']
def rB (r : List Nat) : Prop := ∀ x ∈ r, x ≤ 10000
def BR (R : List (List Nat)) : Prop := ∀ r ∈ R, rB r
theorem rB.take {r : List Nat} (h : rB r) (i : Nat) : rB (r.take i) := fun x hx => h x (List.mem_of_mem_take hx)
theorem rB.drop {r : List Nat} (h : rB r) (i : Nat) : rB (r.drop i) := fun x hx => h x (List.mem_of_mem_drop hx)
theorem BR.take {R : List (List Nat)} (h : BR R) (i : Nat) : BR (R.take i) := fun x hx => h x (List.mem_of_mem_take hx)
theorem BR.drop {R : List (List Nat)} (h : BR R) (i : Nat) : BR (R.drop i) := fun x hx => h x (List.mem_of_mem_drop hx)
theorem BR.app {R S : List (List Nat)} (h : BR R) (h' : BR S) : BR (R ++ S) := fun x hx => (List.mem_append.mp hx).elim (h x) (h' x)
theorem BR.one {r : List Nat} (h : rB r) : BR [r] := fun x hx => by rw [List.mem_singleton.mp hx]; exact h
theorem BR.two {r s : List Nat} (h : rB r) (h' : rB s) : BR [r, s] := (BR.one h).app (BR.one h')
theorem rB_range {l : Line} (h : LOk l) {i : Nat} {k : Kd} (g : l.all[i]? = some k) : rB (List.range' (pos l i) k.sz) := fun x hx => by
  have h1 := List.mem_range'_1.mp hx
  have h2 := h.pos (i + 1)
  rw [pos_succ g] at h2
  omega
theorem BR_rwT {l : Line} (h : LOk l) : ∀ m, m ≤ l.all.length → BR (rwT l m)
  | 0, _ => by intro x hx; simp [rwT, rowsOf] at hx
  | m + 1, hm => by
    have g : l.all[m]? = some l.all[m] := List.getElem?_eq_getElem hm
    rw [rwT_succ g]
    exact (BR_rwT h m (by omega)).app (BR.one (rB_range h g))
theorem rB_last {l : Line} (h : LOk l) : rB (lastR l) := rB_range h (i := l.1.length) (by simp [Line.all])
/-- what is shown of a step -/
structure StepOk (l : Line) (c : Code) (n : Nat) (parts : List (List (List Nat))) : Prop where
  ats : (partsOf (ml l) c).map Line.ats = parts.map fun p => p.flatten.map lab
  pl : Pure (cl n) "part_places" [l.d, stepD l c] (.tup (parts.map fun p => rowD p.flatten))
  few : parts.length ≤ 2
  sm : ∀ p ∈ parts, fl p ≤ 4000
  ok : ∀ q ∈ partsOf (ml l) c, q.1.length ≤ 100 ∧ ∀ k ∈ q.all, k.dep < 60
  lb : ∀ p ∈ parts, BR p
theorem R_facts {l : Line} (h : LSm l) : (rwT l l.1.length).length = l.1.length ∧ fl (rwT l l.1.length) ≤ 700 ∧ (lastR l).length ≤ 700 := by
  have g : l.all[l.1.length]? = some l.2 := by simp [Line.all]
  have p1 := pos_tot l
  rw [show l.all.length = l.1.length + 1 by simp [Line.all], pos_succ g] at p1
  refine ⟨rwT_len l _ (by simp [Line.all]), ?_, ?_⟩
  · rw [fl_rwT l _ (by simp [Line.all])]
    have := h.sz
    omega
  · unfold lastR
    rw [List.length_range']
    have := h.sz
    omega
theorem ml_all_dep {l : Line} (h : LSm l) : (∀ k ∈ (ml l).1, k.dep < 55) ∧ (ml l).2.dep < 55 := by
  refine ⟨fun k hk => ?_, ?_⟩
  · obtain ⟨i, hi, e⟩ := List.mem_iff_getElem.mp hk
    have hi' : i < l.1.length := by rw [show (ml l).1.length = l.1.length from markRow_len l.1 0] at hi; exact hi
    obtain ⟨k', g1, g2, g3⟩ := l.prem_get hi'
    have q := markRow_get l.1 0 i k' g1
    have q2 : (ml l).1[i]? = some k := by rw [List.getElem?_eq_getElem hi, e]
    have q3 : (markRow l.1 0)[i]? = some k := q2
    rw [q3] at q
    rw [Option.some.inj q, mk_dep]
    exact h.dep k' g3
  · show (mk l.2 _).dep < 55
    rw [mk_dep]
    exact h.dep l.2 (by simp [Line.all])
theorem step_goal {l : Line} (h : LSm l) {c : Str} {a b : Kd} (e : l.2 = .op c a b) {n : Nat} (hn : 102 ≤ n) :
    (∃ parts, StepOk l ("over right", 0, 0) n parts) ∧ (∃ parts, StepOk l ("under right", 0, 0) n parts) ∧ ∀ k, ∃ parts, StepOk l ("pair right", k, 0) n parts := by
  obtain ⟨r1, r2, r3⟩ := R_facts h
  have hd : (Kd.op c a b).dep < 55 := by rw [← e]; exact h.dep l.2 (by simp [Line.all])
  have hd' : (Kd.op c a b).dep = max a.dep b.dep + 1 := rfl
  have lenR : (rwT l l.1.length).length ≤ 1000 := by have := h.len; omega
  obtain ⟨d1, d2⟩ := ml_all_dep h
  have e2 : (ml l).2 = .op c (mk a (szs l.1)) (mk b (szs l.1 + a.sz)) := by
    show mk l.2 _ = _
    rw [e]
    rfl
  have eL : (ml l).2.L.ats = ((lastR l).take a.sz).map lab := by
    rw [e2]
    show (mk a (szs l.1)).ats = _
    rw [mk_ats]
    unfold lastR
    rw [e, pos_last]
    show _ = ((List.range' (szs l.1) (a.sz + b.sz)).take a.sz).map lab
    rw [row_take]
  have eR : (ml l).2.R.ats = ((lastR l).drop a.sz).map lab := by
    rw [e2]
    show (mk b (szs l.1 + a.sz)).ats = _
    rw [mk_ats]
    unfold lastR
    rw [e, pos_last]
    show _ = ((List.range' (szs l.1) (a.sz + b.sz)).drop a.sz).map lab
    rw [row_drop]
  have lenM : (ml l).1.length = l.1.length := markRow_len l.1 0
  have hlen := h.len
  have dL : (ml l).2.L.dep < 60 := by rw [e2]; show (mk a _).dep < 60; rw [mk_dep]; omega
  have dR : (ml l).2.R.dep < 60 := by rw [e2]; show (mk b _).dep < 60; rw [mk_dep]; omega
  have rl := ml_RL l
  have dM : ∀ k ∈ (ml l).1, k.dep < 60 := fun k hk => by have := d1 k hk; omega
  have t1 : ((lastR l).take a.sz).length ≤ 700 := Nat.le_trans (List.length_take_le' ..) r3
  have t2 : ((lastR l).drop a.sz).length ≤ 700 := by rw [List.length_drop]; omega
  have bR := BR_rwT h.ok l.1.length (by simp [Line.all])
  have bL := rB_last h.ok
  refine ⟨⟨[rwT l l.1.length ++ [(lastR l).drop a.sz, (lastR l).take a.sz]], ?_, ?_, by simp, ?_, ?_, (fun p hp => by simp only [List.mem_singleton] at hp; subst hp; exact bR.app (BR.two (bL.drop _) (bL.take _)))⟩, ⟨[[(lastR l).take a.sz] ++ rwT l l.1.length ++ [(lastR l).drop a.sz]], ?_, ?_, by simp, ?_, ?_, (fun p hp => by simp only [List.mem_singleton] at hp; subst hp; exact ((BR.one (bL.take _)).app bR).app (BR.one (bL.drop _)))⟩, fun k => ⟨[(rwT l l.1.length).take k ++ [(lastR l).take a.sz], (rwT l l.1.length).drop k ++ [(lastR l).drop a.sz]], ?_, ?_, by simp, ?_, ?_, (fun p hp => by
    simp only [List.mem_cons, List.not_mem_nil, or_false] at hp
    rcases hp with rfl | rfl
    · exact (bR.take _).app (BR.one (bL.take _))
    · exact (bR.drop _).app (BR.one (bL.drop _)))⟩⟩
  · rw [po_or]
    simp only [List.map_cons, List.map_nil]
    rw [(rl.append (RL.one eR)).ats eL, List.append_assoc]
    rfl
  · have q := fun m (hm : 100 ≤ m) => e_goal_over (c := c) (a := a) (b := b) (R := rwT l l.1.length) (r := lastR l) (n := m) (at_ := 0) (by omega) lenR
    rw [← e] at q
    exact e_pp_goal l h.ok (by omega) (by simp) (fun p hp => by simp at hp; subst hp; show fl _ ≤ _; rw [fl_append, fl_two]; omega) (by decide +kernel) (by decide +kernel) q
  · intro p hp
    simp at hp
    subst hp
    rw [fl_append, fl_two]
    omega
  · rw [po_or]
    intro q hq
    simp at hq
    subst hq
    refine ⟨by simp; omega, fun k hk => ?_⟩
    simp [Line.all] at hk
    rcases hk with hk | rfl | rfl
    · exact dM k hk
    · exact dR
    · exact dL
  · rw [po_ur]
    simp only [List.map_cons, List.map_nil]
    rw [((RL.one eL).append rl).ats eR]
  · have q := fun m (hm : 100 ≤ m) => e_goal_under (c := c) (a := a) (b := b) (R := rwT l l.1.length) (r := lastR l) (n := m) (at_ := 0) (by omega) lenR
    rw [← e] at q
    exact e_pp_goal l h.ok (by omega) (by simp) (fun p hp => by simp only [List.mem_singleton] at hp; subst hp; show fl _ ≤ _; rw [fl_append, fl_append, fl_one, fl_one]; omega) (by decide +kernel) (by decide +kernel) q
  · intro p hp
    simp only [List.mem_singleton] at hp
    subst hp
    rw [fl_append, fl_append, fl_one, fl_one]
    omega
  · rw [po_ur]
    intro q hq
    simp at hq
    subst hq
    refine ⟨by simp; omega, fun k hk => ?_⟩
    simp [Line.all] at hk
    rcases hk with rfl | hk | rfl
    · exact dL
    · exact dM k hk
    · exact dR
  · rw [po_pr]
    simp only [List.map_cons, List.map_nil]
    rw [(rl.take k).ats eL, (rl.drop k).ats eR]
  · have q := fun m (hm : 100 ≤ m) => e_goal_pair (c := c) (a := a) (b := b) (R := rwT l l.1.length) (r := lastR l) (n := m) (at_ := k) (by omega) lenR
    rw [← e] at q
    have f1 := fl_take (rwT l l.1.length) k
    have f2 := fl_drop (rwT l l.1.length) k
    exact e_pp_goal l h.ok (by omega) (by simp) (fun p hp => by
      simp only [List.mem_cons, List.not_mem_nil, or_false] at hp
      rcases hp with rfl | rfl
      · show fl _ ≤ _; rw [fl_append, fl_one]; omega
      · show fl _ ≤ _; rw [fl_append, fl_one]; omega) (show decide (("pair right" : Str) = ("axiom" : Str)) = false by decide +kernel) (show cmpF .In (.str ("pair right" : Str)) goalRules = some true by decide +kernel) q
  · intro p hp
    have f1 := fl_take (rwT l l.1.length) k
    have f2 := fl_drop (rwT l l.1.length) k
    simp only [List.mem_cons, List.not_mem_nil, or_false] at hp
    rcases hp with rfl | rfl
    · rw [fl_append, fl_one]; omega
    · rw [fl_append, fl_one]; omega
  · rw [po_pr]
    intro q hq
    simp only [List.mem_cons, List.not_mem_nil, or_false] at hq
    rcases hq with rfl | rfl
    · refine ⟨by simp; omega, fun k' hk => ?_⟩
      rcases List.mem_append.mp hk with hk | hk
      · exact dM k' (List.mem_of_mem_take hk)
      · rw [List.mem_singleton.mp hk]; exact dL
    · refine ⟨by simp; omega, fun k' hk => ?_⟩
      rcases List.mem_append.mp hk with hk | hk
      · exact dM k' (List.mem_of_mem_drop hk)
      · rw [List.mem_singleton.mp hk]; exact dR
theorem step_prem {l : Line} (h : LSm l) {i : Nat} {c : Str} {a b : Kd} (e : l.1[i]? = some (.op c a b)) {n : Nat} (hn : 102 ≤ n) :
    (∃ parts, StepOk l ("pair left", i, 0) n parts) ∧ (∀ w, i + 1 + w ≤ l.1.length → ∃ parts, StepOk l ("over left", i, w) n parts) ∧ ∀ w, w ≤ i → ∃ parts, StepOk l ("under left", i, w) n parts := by
  obtain ⟨r1, r2, r3⟩ := R_facts h
  have hi := (List.getElem?_eq_some_iff.mp e).1
  obtain ⟨k', g1, g2, g3⟩ := l.prem_get hi
  rw [e] at g1
  cases g1
  have hd : (Kd.op c a b).dep < 55 := h.dep _ g3
  have hd' : (Kd.op c a b).dep = max a.dep b.dep + 1 := rfl
  have lenR : (rwT l l.1.length).length ≤ 1000 := by have := h.len; omega
  obtain ⟨d1, d2⟩ := ml_all_dep h
  have rr : (rwT l l.1.length)[i]? = some (List.range' (pos l i) (a.sz + b.sz)) := rwT_get g2 l.1.length hi (by simp [Line.all])
  have q0 : (ml l).1[i]? = some (.op c (mk a (pos l i)) (mk b (pos l i + a.sz))) := by
    have q := markRow_get l.1 0 i _ e
    rw [Nat.zero_add, ← pos_prem (by omega)] at q
    exact q
  have eK : ((ml l).1[i]?).getD (.at "") = .op c (mk a (pos l i)) (mk b (pos l i + a.sz)) := by rw [q0]; rfl
  have eL : ((((ml l).1[i]?).getD (.at "")).L).ats = ((List.range' (pos l i) (a.sz + b.sz)).take a.sz).map lab := by
    rw [eK, row_take]
    exact mk_ats a _
  have eR : ((((ml l).1[i]?).getD (.at "")).R).ats = ((List.range' (pos l i) (a.sz + b.sz)).drop a.sz).map lab := by
    rw [eK, row_drop]
    exact mk_ats b _
  have lenM : (ml l).1.length = l.1.length := markRow_len l.1 0
  have hlen := h.len
  have dL : ((((ml l).1[i]?).getD (.at "")).L).dep < 60 := by rw [eK]; show (mk a _).dep < 60; rw [mk_dep]; omega
  have dR : ((((ml l).1[i]?).getD (.at "")).R).dep < 60 := by rw [eK]; show (mk b _).dep < 60; rw [mk_dep]; omega
  have dG : (ml l).2.dep < 60 := by omega
  have rl := ml_RL l
  have gG := ml_goal l
  have dM : ∀ k ∈ (ml l).1, k.dep < 60 := fun k hk => by have := d1 k hk; omega
  have hp := h.ok.pos (i + 1)
  have hsz := h.sz
  have ple : pos l (i + 1) ≤ l.sz := by
    unfold pos szs Line.sz
    rw [List.map_take]
    exact sum_take_le _ _
  rw [pos_succ g2, show (Kd.op c a b).sz = a.sz + b.sz from rfl] at ple
  have bK : rB (List.range' (pos l i) (a.sz + b.sz)) := rB_range h.ok g2
  generalize hr : List.range' (pos l i) (a.sz + b.sz) = r at rr eL eR bK
  have lr : r.length ≤ 700 := by rw [← hr, List.length_range']; omega
  have t1 : (r.take a.sz).length ≤ 700 := Nat.le_trans (List.length_take_le' ..) lr
  have t2 : (r.drop a.sz).length ≤ 700 := by rw [List.length_drop]; omega
  have f1 := fl_take (rwT l l.1.length)
  have f2 := fl_drop (rwT l l.1.length)
  have bR := BR_rwT h.ok l.1.length (by simp [Line.all])
  have bL := rB_last h.ok
  refine ⟨⟨[(rwT l l.1.length).take i ++ [r.take a.sz, r.drop a.sz] ++ (rwT l l.1.length).drop (i + 1) ++ [lastR l]], ?_, ?_, by simp, ?_, ?_, (fun p hp => by simp only [List.mem_singleton] at hp; subst hp; exact (((bR.take _).app (BR.two (bK.take _) (bK.drop _))).app (bR.drop _)).app (BR.one bL))⟩,
    fun w hw => ⟨[((rwT l l.1.length).drop (i + 1)).take w ++ [r.drop a.sz], (rwT l l.1.length).take i ++ [r.take a.sz] ++ (rwT l l.1.length).drop (i + 1 + w) ++ [lastR l]], ?_, ?_, by simp, ?_, ?_, (fun p hp => by
    simp only [List.mem_cons, List.not_mem_nil, or_false] at hp
    rcases hp with rfl | rfl
    · exact ((bR.drop _).take _).app (BR.one (bK.drop _))
    · exact (((bR.take _).app (BR.one (bK.take _))).app (bR.drop _)).app (BR.one bL))⟩,
    fun w hw => ⟨[((rwT l l.1.length).drop (i - w)).take w ++ [r.take a.sz], (rwT l l.1.length).take (i - w) ++ [r.drop a.sz] ++ (rwT l l.1.length).drop (i + 1) ++ [lastR l]], ?_, ?_, by simp, ?_, ?_, (fun p hp => by
    simp only [List.mem_cons, List.not_mem_nil, or_false] at hp
    rcases hp with rfl | rfl
    · exact ((bR.drop _).take _).app (BR.one (bK.take _))
    · exact (((bR.take _).app (BR.one (bK.drop _))).app (bR.drop _)).app (BR.one bL))⟩⟩
  · rw [po_pl]
    simp only [List.map_cons, List.map_nil]
    rw [(((rl.take i).append (RL.two eL eR)).append (rl.drop (i + 1))).ats gG]
  · have q := fun m (hm : 100 ≤ m) => e_prem_pair (c := c) (a := a) (b := b) (R := rwT l l.1.length) (r := r) (la := lastR l) (n := m) (i := i) (w := 0) (by omega) lenR rr
    exact e_pp_prem l h.ok (by omega) (by simp) (fun p hp => by
      simp only [List.mem_singleton] at hp
      subst hp
      show fl _ ≤ _
      have := f1 i
      have := f2 (i + 1)
      rw [fl_append, fl_append, fl_append, fl_one, fl_two]
      omega) (show decide (("pair left" : Str) = ("axiom" : Str)) = false by decide +kernel) (show cmpF .In (.str ("pair left" : Str)) goalRules = some false by decide +kernel) e q
  · intro p hp
    simp only [List.mem_singleton] at hp
    subst hp
    have := f1 i
    have := f2 (i + 1)
    rw [fl_append, fl_append, fl_append, fl_one, fl_two]
    omega
  · rw [po_pl]
    intro q hq
    simp only [List.mem_singleton] at hq
    subst hq
    refine ⟨by simp; omega, fun k' hk => ?_⟩
    rcases List.mem_append.mp hk with hk | hk
    · rcases List.mem_append.mp hk with hk | hk
      · rcases List.mem_append.mp hk with hk | hk
        · exact dM k' (List.mem_of_mem_take hk)
        · simp only [List.mem_cons, List.not_mem_nil, or_false] at hk
          rcases hk with rfl | rfl
          · exact dL
          · exact dR
      · exact dM k' (List.mem_of_mem_drop hk)
    · rw [List.mem_singleton.mp hk]; exact dG
  · rw [po_ol]
    simp only [List.map_cons, List.map_nil]
    rw [((rl.drop (i + 1)).take w).ats eR, (((rl.take i).append (RL.one eL)).append (rl.drop (i + 1 + w))).ats gG]
  · have q := fun m (hm : 100 ≤ m) => e_prem_over (c := c) (a := a) (b := b) (R := rwT l l.1.length) (r := r) (la := lastR l) (n := m) (i := i) (w := w) (by omega) lenR rr (by omega)
    exact e_pp_prem l h.ok (by omega) (by simp) (fun p hp => by
      simp only [List.mem_cons, List.not_mem_nil, or_false] at hp
      have := f1 i
      have := f2 (i + 1)
      have := f2 (i + 1 + w)
      have := fl_take ((rwT l l.1.length).drop (i + 1)) w
      rcases hp with rfl | rfl
      · show fl _ ≤ _
        rw [fl_append, fl_one]
        omega
      · show fl _ ≤ _
        rw [fl_append, fl_append, fl_append, fl_one, fl_one]
        omega) (show decide (("over left" : Str) = ("axiom" : Str)) = false by decide +kernel) (show cmpF .In (.str ("over left" : Str)) goalRules = some false by decide +kernel) e q
  · intro p hp
    simp only [List.mem_cons, List.not_mem_nil, or_false] at hp
    have := f1 i
    have := f2 (i + 1)
    have := f2 (i + 1 + w)
    have := fl_take ((rwT l l.1.length).drop (i + 1)) w
    rcases hp with rfl | rfl
    · rw [fl_append, fl_one]
      omega
    · rw [fl_append, fl_append, fl_append, fl_one, fl_one]
      omega
  · rw [po_ol]
    intro q hq
    simp only [List.mem_cons, List.not_mem_nil, or_false] at hq
    rcases hq with rfl | rfl
    · refine ⟨by simp; omega, fun k' hk => ?_⟩
      rcases List.mem_append.mp hk with hk | hk
      · exact dM k' (List.mem_of_mem_drop (List.mem_of_mem_take hk))
      · rw [List.mem_singleton.mp hk]; exact dR
    · refine ⟨by simp; omega, fun k' hk => ?_⟩
      rcases List.mem_append.mp hk with hk | hk
      · rcases List.mem_append.mp hk with hk | hk
        · rcases List.mem_append.mp hk with hk | hk
          · exact dM k' (List.mem_of_mem_take hk)
          · rw [List.mem_singleton.mp hk]; exact dL
        · exact dM k' (List.mem_of_mem_drop hk)
      · rw [List.mem_singleton.mp hk]; exact dG
  · rw [po_ul]
    simp only [List.map_cons, List.map_nil]
    rw [((rl.drop (i - w)).take w).ats eL, (((rl.take (i - w)).append (RL.one eR)).append (rl.drop (i + 1))).ats gG]
  · have q := fun m (hm : 100 ≤ m) => e_prem_under (c := c) (a := a) (b := b) (R := rwT l l.1.length) (r := r) (la := lastR l) (n := m) (i := i) (w := w) (by omega) lenR rr hw
    exact e_pp_prem l h.ok (by omega) (by simp) (fun p hp => by
      simp only [List.mem_cons, List.not_mem_nil, or_false] at hp
      have := f1 (i - w)
      have := f2 (i + 1)
      have := f2 (i - w)
      have := fl_take ((rwT l l.1.length).drop (i - w)) w
      rcases hp with rfl | rfl
      · show fl _ ≤ _
        rw [fl_append, fl_one]
        omega
      · show fl _ ≤ _
        rw [fl_append, fl_append, fl_append, fl_one, fl_one]
        omega) (show decide (("under left" : Str) = ("axiom" : Str)) = false by decide +kernel) (show cmpF .In (.str ("under left" : Str)) goalRules = some false by decide +kernel) e q
  · intro p hp
    simp only [List.mem_cons, List.not_mem_nil, or_false] at hp
    have := f1 (i - w)
    have := f2 (i + 1)
    have := f2 (i - w)
    have := fl_take ((rwT l l.1.length).drop (i - w)) w
    rcases hp with rfl | rfl
    · rw [fl_append, fl_one]
      omega
    · rw [fl_append, fl_append, fl_append, fl_one, fl_one]
      omega
  · rw [po_ul]
    intro q hq
    simp only [List.mem_cons, List.not_mem_nil, or_false] at hq
    rcases hq with rfl | rfl
    · refine ⟨by simp; omega, fun k' hk => ?_⟩
      rcases List.mem_append.mp hk with hk | hk
      · exact dM k' (List.mem_of_mem_drop (List.mem_of_mem_take hk))
      · rw [List.mem_singleton.mp hk]; exact dL
    · refine ⟨by simp; omega, fun k' hk => ?_⟩
      rcases List.mem_append.mp hk with hk | hk
      · rcases List.mem_append.mp hk with hk | hk
        · rcases List.mem_append.mp hk with hk | hk
          · exact dM k' (List.mem_of_mem_take hk)
          · rw [List.mem_singleton.mp hk]; exact dR
        · exact dM k' (List.mem_of_mem_drop hk)
      · rw [List.mem_singleton.mp hk]; exact dG
/-- every step of the law -/
theorem step_ok {l : Line} (h : LSm l) {c : Code} (hc : c ∈ codes l) {n : Nat} (hn : 102 ≤ n) : ∃ parts, StepOk l c n parts := by
  unfold codes at hc
  rcases List.mem_append.mp hc with hc | hc
  · cases hg : l.2 with
    | «at» s => rw [hg] at hc; simp [Kd.sg, gCodes] at hc
    | op k a b =>
      obtain ⟨s1, s2, s3⟩ := step_goal h hg hn
      rw [hg] at hc
      unfold Kd.sg gCodes at hc
      dsimp only at hc
      split at hc
      · rw [List.mem_singleton.mp hc]; exact s1
      · split at hc
        · rw [List.mem_singleton.mp hc]; exact s2
        · obtain ⟨j, _, rfl⟩ := List.mem_map.mp hc
          exact s3 j
  · obtain ⟨i, hi, hc⟩ := List.mem_flatMap.mp hc
    have hi' : i < l.1.length := by simpa using hi
    obtain ⟨k, g1, g2, g3⟩ := l.prem_get hi'
    have es : sgAt l i = k.sg := by unfold sgAt; rw [g1]; rfl
    rw [es] at hc
    cases k with
    | «at» s => simp [Kd.sg, pCodes] at hc
    | op k a b =>
      obtain ⟨s1, s2, s3⟩ := step_prem h g1 hn
      unfold Kd.sg pCodes at hc
      dsimp only at hc
      split at hc
      · rw [List.mem_singleton.mp hc]; exact s1
      · split at hc
        · obtain ⟨j, hj, rfl⟩ := List.mem_map.mp hc
          exact s2 j (by have := List.mem_range'_1.mp hj; omega)
        · obtain ⟨j, hj, rfl⟩ := List.mem_map.mp hc
          exact s3 j (by have := List.mem_range'_1.mp hj; omega)
theorem codes_ml (l : Line) : codes (ml l) = codes l := by
  have lenM : (ml l).1.length = l.1.length := markRow_len l.1 0
  unfold codes
  have e1 : (ml l).2.sg = l.2.sg := mk_sg l.2 _
  rw [lenM, e1]
  rw [List.flatMap_def, List.flatMap_def]
  congr 2
  apply List.map_congr_left
  intro i hi
  have hi' : i < l.1.length := by simpa using hi
  obtain ⟨k, g1, g2, g3⟩ := l.prem_get hi'
  have q := markRow_get l.1 0 i k g1
  have q2 : (ml l).1[i]? = some (mk k (0 + szs (l.1.take i))) := q
  unfold sgAt
  rw [q2, g1]
  show pCodes _ _ (mk k _).sg = pCodes _ _ k.sg
  rw [mk_sg]
end Tab

set_option maxHeartbeats 400000
namespace Tab
open PySem PySem.Spec PyProof.Rows L2 Fw
def pl3 (a b c : Int) : O := .lst [.int a, .int b, .int c]
def PoolIn (m : Int) (o : O) : Prop := ∃ a b c : Int, o = pl3 a b c ∧ 0 ≤ b ∧ b ≤ 10000000000 ∧ 0 ≤ c ∧ c ≤ m
theorem PoolIn.up {m m' : Int} {o : O} (h : PoolIn m o) (hm : m ≤ m') : PoolIn m' o := by
  obtain ⟨a, b, c, e, h1, h2, h3, h4⟩ := h
  exact ⟨a, b, c, e, h1, h2, h3, by omega⟩
theorem mul_ok {i j : Int} (h : -(2 ^ 64) < i ∧ i < 2 ^ 64) : binF .Mult (.int i) (.int j) = some (.d (.int (i * j))) := by
  show (if _ then _ else _ : Option Fw.T) = _
  rw [if_pos (.inl h)]
  rfl
theorem mod_ok {i j : Int} (h : j ≠ 0) : binF .Mod (.int i) (.int j) = some (.d (.int (i.fmod j))) := by
  show (if _ then _ else _ : Option Fw.T) = _
  rw [if_pos h]
  rfl
theorem fdiv_ok {i j : Int} (h : j ≠ 0 ∧ j.natAbs < 1073741824) : binF .FloorDiv (.int i) (.int j) = some (.d (.int (i.fdiv j))) := by
  show (if _ then _ else _ : Option Fw.T) = _
  rw [if_pos h]
  rfl
theorem fmod_rng {i : Int} {j : Int} (h : 0 < j) : 0 ≤ i.fmod j ∧ i.fmod j < j := ⟨Int.fmod_nonneg_of_pos _ h, Int.fmod_lt_of_pos _ h⟩
theorem e_mix (x : Int) (hx : -(2 ^ 62) < x ∧ x < 2 ^ 62) (n : Nat) (hn : 0 < n) : ∃ r : Int, Pure (cl n) "_law_mix" [.int x] (.int r) := by
  obtain ⟨n, rfl⟩ : ∃ m, n = m + 1 := ⟨n - 1, by omega⟩
  have m1 := mul_ok (i := x) (j := x) (by omega)
  have m2 := mul_ok (i := 3) (j := x) (by omega)
  have d1 : ∀ i : Int, binF .Mod (.int i) (.int 1000003) = some (.d (.int (i.fmod 1000003))) := fun i => mod_ok (by decide)
  have d2 : ∀ i : Int, binF .Mod (.int i) (.int 998244353) = some (.d (.int (i.fmod 998244353))) := fun i => mod_ok (by decide)
  obtain ⟨b1, b2⟩ := fmod_rng (i := x * x + 3 * x + 7919) (j := 1000003) (by decide)
  generalize hy : (x * x + 3 * x + 7919).fmod 1000003 = y at b1 b2
  have m3 := mul_ok (i := y) (j := y) (by omega)
  have m4 := mul_ok (i := 5) (j := y) (by omega)
  refine ⟨(y * y + 5 * y + 104729).fmod 998244353, pure_by m_law_mix rfl (Nat.le_of_ble_eq_true rfl) ?_⟩
  simp -implicitDefEqProofs [f_law_mix, m1, m2, d1, hy, m3, m4, d2]
theorem setF_0 {ρ : List Sl} {i : Nat} {a b c x : D} (h : ρ[i]? = some (.bor (.lst [a, b, c]))) : setF ρ i (.int 0) x = some (ρ.set i (.bor (.lst [x, b, c]))) := by
  simp [setF, h, ixN]
theorem setF_2 {ρ : List Sl} {i : Nat} {a b c x : D} (h : ρ[i]? = some (.bor (.lst [a, b, c]))) : setF ρ i (.int 2) x = some (ρ.set i (.bor (.lst [a, b, x]))) := by
  simp [setF, h, ixN]
theorem e_draw (o : O) (m : Int) (h : PoolIn m o) (hm : m ≤ 100000000) (many : Nat) (h1 : 1 ≤ many) (h2 : many < 1000000000) (n : Nat) (hn : 1 < n) :
    ∃ (r : Nat) (o' : O), r < many ∧ PoolIn (m + 1) o' ∧ Pol (cl n) "_law_draw" o [.int (many : Nat)] (.int (r : Nat)) o' := by
  obtain ⟨n, rfl⟩ : ∃ m, n = m + 1 := ⟨n - 1, by omega⟩
  obtain ⟨a, b, c, rfl, b1, b2, c1, c2⟩ := h
  have dm : ∀ i : Int, binF .Mod (.int i) (.int (many : Nat)) = some (.d (.int (i.fmod (many : Nat)))) := fun i => mod_ok (by omega)
  have dd : ∀ i : Int, binF .FloorDiv (.int i) (.int (many : Nat)) = some (.d (.int (i.fdiv (many : Nat)))) := fun i => fdiv_ok (by omega)
  by_cases ha : 0 < a
  · obtain ⟨q1, q2⟩ := fmod_rng (i := a) (j := (many : Nat)) (by omega)
    obtain ⟨r, hr⟩ := Int.eq_ofNat_of_zero_le q1
    refine ⟨r, pl3 (a.fdiv (many : Nat)) b c, by omega, ⟨_, _, _, rfl, b1, b2, c1, by omega⟩, pol_by m_law_draw rfl (Nat.le_of_ble_eq_true rfl) ?_⟩
    simp -implicitDefEqProofs [f_law_draw, pl3, ha, dm, dd, hr, setF, ixN]
  · have m1 := mul_ok (i := 7368787) (j := c + 1) (by omega)
    obtain ⟨r0, hr0⟩ := e_mix (b + 7368787 * (c + 1)) (by omega) n (by omega)
    have d8 : binF .FloorDiv (.int r0) (.int 8) = some (.d (.int (r0.fdiv 8))) := fdiv_ok (by decide)
    obtain ⟨q1, q2⟩ := fmod_rng (i := r0.fdiv 8) (j := (many : Nat)) (by omega)
    obtain ⟨r, hr⟩ := Int.eq_ofNat_of_zero_le q1
    refine ⟨r, pl3 a b (c + 1), by omega, ⟨_, _, _, rfl, b1, b2, by omega, by omega⟩, pol_by m_law_draw rfl (Nat.le_of_ble_eq_true rfl) ?_⟩
    simp -implicitDefEqProofs [f_law_draw, pl3, ha, dm, setF, ixN, m1, call_p1 hr0, d8, hr]
end Tab

set_option maxHeartbeats 400000
namespace Tab
open PySem PySem.Spec PyProof.Rows L2 Fw
def sOk (x : Str) : Prop := PySem.PyData.strOk x = true
theorem sOk_app {a b : Str} (ha : sOk a) (hb : sOk b) : sOk (a ++ b) := by
  have ha' : a.cps.all (· < 0x110000) = true := ha
  have hb' : b.cps.all (· < 0x110000) = true := hb
  show (a.cps ++ b.cps).all (· < 0x110000) = true
  rw [Array.all_append, ha', hb']
  rfl
theorem len_app {a b : Str} : (a ++ b).length = a.length + b.length := Array.size_append
theorem ix_str {z : Str} {r : Nat} (hr : r < z.length) (hz : z.length ≤ 100) (ok : sOk z) : ∃ c : Str, ixF (.str z) (.int (r : Nat)) = some (.d (.str c)) ∧ sOk c ∧ c.length = 1 := by
  have h1 : r < z.cps.toList.length := hr
  refine ⟨⟨#[z.cps.toList[r]]⟩, ?_, ?_, rfl⟩
  · show (if z.length ≤ sizeLine then (atI z.cps.toList (r : Nat)).map fun c => Fw.T.d (.str ⟨#[c]⟩) else none) = _
    rw [if_pos (Nat.le_trans hz (by decide)), atI_nat h1]
    rfl
  · have ok' : z.cps.all (· < 0x110000) = true := ok
    rw [Array.all_eq_true] at ok'
    have hx : z.cps.toList[r] < 0x110000 := of_decide_eq_true (ok' r hr)
    show (#[z.cps.toList[r]] : Array Nat).all (· < 0x110000) = true
    rw [Array.all_eq_true]
    intro j hj
    have : j = 0 := by simpa using hj
    subst this
    exact decide_eq_true hx
theorem sOk_num (i : Nat) : sOk (Str.ofString (toString ((i : Nat) : Int))) := by
  show (Str.ofString (toString ((i : Nat) : Int))).cps.all (· < 0x110000) = true
  rw [Array.all_eq_true]
  intro j hj
  have e : (Str.ofString (toString ((i : Nat) : Int))).cps.toList = TL.numL i := TL.tl_num i
  have m : (Str.ofString (toString ((i : Nat) : Int))).cps[j] ∈ TL.numL i := by rw [← e]; simp
  have := TL.numL_digits i _ m
  exact decide_eq_true (by omega)
theorem add_str {a b : Str} (h : a.length + b.length ≤ 10000) : binF .Add (.str a) (.str b) = some (.d (.str (a ++ b))) := by
  show (if a.length + b.length ≤ sizeLine then _ else _) = _
  rw [if_pos (Nat.le_trans h szl')]
theorem str_num {i : Nat} (h : i ≤ 2000000) : bltF .str [.int (i : Nat)] = some (.d (.str (Str.ofString (toString ((i : Nat) : Int))))) := by
  have : ((i : Nat) : Int).natAbs.log2 < 1920 := by
    have h2 : ((i : Nat) : Int).natAbs = i := rfl
    rw [h2]
    by_cases h0 : i = 0
    · subst h0; decide
    · exact (Nat.log2_lt h0).mpr (Nat.lt_of_le_of_lt h (Nat.lt_of_lt_of_le (by decide : 2000000 < 2 ^ 21) (Nat.pow_le_pow_right (by decide) (by decide))))
  show (if _ then _ else _) = _
  rw [if_pos this]
structure Nm (s : Str) (n : Nat) : Prop where
  ok : sOk s
  len : s.length ≤ n
def small : Str := "abcdefghijklmnopqrstuvwxyz"
/-- .. with what is known of its end -/
theorem polx_by {n : Nat} {fd : Fd} {o : O} {ds : List D} {R : D → O → Prop} (h : fd ∈ tabOf dfs) (hl : ds.length + 1 = fd.ps.length) (hN : ds.length + 1 ≤ fd.N.length)
    (e : Fw.Run (exSs (cf n) fd.body (.bor o :: (ds.map Sl.d ++ List.replicate (fd.N.length - (ds.length + 1)) .no))) fun fl ρ => ∃ r o', fl = .rt (.d r) ∧ ds.length + 1 ≤ ρ.length ∧ ρ[0]? = some (.bor o') ∧ R r o') : ∃ r o', R r o' ∧ Pol (cl (n + 1)) fd.name o ds r o' := by
  obtain ⟨fl, ρ, e, r, o', e1, e2, e3, hr⟩ := e
  exact ⟨r, o', hr, pol_by h hl hN ⟨fl, ρ, e, e1, e2, e3⟩⟩
theorem e_any_atom (o : O) (m : Int) (h : PoolIn m o) (hm : m ≤ 10000000) (n : Nat) (hn : 3 < n) : ∃ (r : D) (o' : O), ((∃ s, r = .str s ∧ Nm s 100) ∧ PoolIn (m + 20) o') ∧ Pol (cl n) "_law_any_atom" o [] r o' := by
  obtain ⟨n, rfl⟩ : ∃ m, n = m + 1 := ⟨n - 1, by omega⟩
  obtain ⟨r1, o1, q1, p1, c1⟩ := e_draw o m h (by omega) 26 (by decide) (by decide) n (by omega)
  obtain ⟨s1, x1, x2, x3⟩ := ix_str (z := small) (r := r1) (by rw [show small.length = 26 by decide +kernel]; exact q1) (by decide +kernel) (by unfold sOk; decide +kernel)
  obtain ⟨r2, o2, q2, p2, c2⟩ := e_draw o1 (m + 1) p1 (by omega) 8 (by decide) (by decide) n (by omega)
  have rg := rng1 (n := r2) (by omega)
  refine polx_by m_law_any_atom rfl (Nat.le_of_ble_eq_true rfl) ?_
  have sm : ("abcdefghijklmnopqrstuvwxyz" : Str) = small := rfl
  simp -implicitDefEqProofs only [f_law_any_atom, sm]
  have z := szl'
  have b1 := add_str (a := small) (b := "0123456789") (by decide +kernel)
  generalize hbig : small ++ ("0123456789" : Str) = big at b1
  have big1 : big.length = 36 := by rw [← hbig]; decide +kernel
  have big2 : sOk big := by rw [← hbig]; unfold sOk; decide +kernel
  simp -implicitDefEqProofs at c1 c2
  simp -implicitDefEqProofs [call_b1 c1, x1, call_b1 c2, rg]
  refine run_for (fun i ρ => ∃ o' s sl, PoolIn (m + 2 + i) o' ∧ Nm s (1 + i) ∧ Fre sl ∧ ρ = [.bor o', .d (.str small), .d (.str s), sl]) ⟨o2, s1, .no, p2.up (by omega), ⟨x2, by omega⟩, .no, rfl⟩
    (fun i hi ρ ⟨o', s, sl, hp, hs, hf, e⟩ => ?_) fun ρ ⟨o', s, sl, hp, hs, hf, e⟩ => ?_
  · subst e
    have hi' : i < r2 := by simpa using hi
    rw [get_of (x := .int (i : Nat)) (by rw [List.getElem?_map, List.getElem?_range hi']; rfl)]
    obtain ⟨r3, o3, q3, p3, c3⟩ := e_draw o' (m + 2 + i) hp (by omega) 36 (by decide) (by decide) n (by omega)
    obtain ⟨s3, y1, y2, y3⟩ := ix_str (z := big) (r := r3) (by omega) (by omega) big2
    have b2 := add_str (a := s) (b := s3) (by have := hs.len; omega)
    refine ⟨_, bindT_fre hf rfl, ?_⟩
    simp -implicitDefEqProofs at c3
    simp -implicitDefEqProofs [b1, call_b1 c3, y1, b2]
    exact ⟨o3, p3.up (by omega), s ++ s3, ⟨sOk_app hs.ok y2, by rw [len_app]; have := hs.len; omega⟩, _, Fre.d, rfl, rfl, rfl⟩
  · subst e
    simp only [List.length_map, List.length_range] at hp hs
    obtain ⟨r4, o4, q4, p4, c4⟩ := e_draw o' (m + 2 + r2) hp (by omega) 4 (by decide) (by decide) n (by omega)
    obtain ⟨r5, o5, q5, p5, c5⟩ := e_draw o4 (m + 2 + r2 + 1) p4 (by omega) 999999 (by decide) (by decide) n (by omega)
    have n1 := str_num (i := 1 + r5) (by omega)
    have e1 : ((1 + r5 : Nat) : Int) = 1 + (r5 : Int) := by omega
    rw [e1] at n1
    have l1 : (Str.ofString (toString (1 + (r5 : Int)))).length ≤ 8 := by
      rw [← e1, TL.len_tl, TL.tl_num]
      exact TL.numL_len (by decide) (by omega)
    have k1 : sOk (Str.ofString (toString (1 + (r5 : Int)))) := by
      rw [← e1]
      exact sOk_num _
    have dl : ("." : Str).length = 1 := by decide +kernel
    have b2 := add_str (a := s) (b := ".") (by have := hs.len; omega)
    have b3 := add_str (a := s ++ ("." : Str)) (b := Str.ofString (toString (1 + (r5 : Int)))) (by rw [len_app]; have := hs.len; omega)
    generalize Str.ofString (toString (1 + (r5 : Int))) = t5 at n1 l1 k1 b3
    simp -implicitDefEqProofs at c4 c5
    by_cases h4 : r4 = 3
    · subst h4
      simp -implicitDefEqProofs at c4
      simp -implicitDefEqProofs [call_b1 c4, call_b1 c5, b2, n1, b3]
      refine ⟨⟨sOk_app (sOk_app hs.ok (by unfold sOk; decide +kernel)) k1, ?_⟩, p5.up (by omega)⟩
      rw [len_app, len_app]
      have := hs.len
      omega
    · have h5 : ¬ ((r4 : Int) = 3) := by omega
      simp -implicitDefEqProofs [call_b1 c4, h5]
      exact ⟨⟨hs.ok, by have := hs.len; omega⟩, p4.up (by omega)⟩
end Tab

set_option maxHeartbeats 400000
namespace Tab
open PySem PySem.Spec PyProof.Rows L2 Fw
theorem sign_ix {r : Nat} (h : r < 3) : ∃ c : Str, (c = "/" ∨ c = ">" ∨ c = "*") ∧ ixF (.str ("/>*" : Str)) (.int (r : Nat)) = some (.d (.str c)) := by
  have e : ("/>*" : Str).cps.toList = [47, 62, 42] := by decide +kernel
  have key : ∀ (r : Nat) (x : Nat), [47, 62, 42][r]? = some x → ixF (.str ("/>*" : Str)) (.int (r : Nat)) = some (.d (.str ⟨#[x]⟩)) := fun r x hx => by
    show (if ("/>*" : Str).length ≤ sizeLine then (atI ("/>*" : Str).cps.toList (r : Nat)).map fun c => Fw.T.d (.str ⟨#[c]⟩) else none) = _
    rw [if_pos (by decide +kernel), e]
    obtain ⟨hk, ek⟩ := List.getElem?_eq_some_iff.mp hx
    rw [atI_nat hk, ek]
    rfl
  match r, h with
  | 0, _ => exact ⟨"/", .inl rfl, (key 0 47 rfl).trans (by rw [show (⟨#[47]⟩ : Str) = "/" by decide +kernel])⟩
  | 1, _ => exact ⟨">", .inr (.inl rfl), (key 1 62 rfl).trans (by rw [show (⟨#[62]⟩ : Str) = ">" by decide +kernel])⟩
  | 2, _ => exact ⟨"*", .inr (.inr rfl), (key 2 42 rfl).trans (by rw [show (⟨#[42]⟩ : Str) = "*" by decide +kernel])⟩
/-- a kind drawn from names -/
structure KOk (ns : List Str) (size : Nat) (k : Kd) : Prop where
  sz : k.sz = size
  wf : Wf k
  ats : ∀ s ∈ k.ats, s ∈ ns
theorem e_kind (ns : List Str) (hns : 1 ≤ ns.length) (hns2 : ns.length ≤ 1000) : ∀ (size : Nat) (o : O) (m : Int) (n : Nat), 1 ≤ size → PoolIn m o → m + 3 * size ≤ 10000000 → size + 3 < n →
    ∃ r o', ((∃ k : Kd, r = k.d ∧ KOk ns size k) ∧ PoolIn (m + 3 * size - 2) o') ∧ Pol (cl n) "_law_kind" o [.lst (ns.map .str), .int (size : Nat)] r o' := by
  intro size
  induction size using Nat.strongRecOn with
  | ind size ih =>
    intro o m n hs hp hm hn
    obtain ⟨n, rfl⟩ : ∃ m, n = m + 1 := ⟨n - 1, by omega⟩
    have hm0 : 0 ≤ m := by obtain ⟨a, b, c, _, _, _, h5, h6⟩ := hp; omega
    refine polx_by m_law_kind rfl (Nat.le_of_ble_eq_true rfl) ?_
    by_cases h1 : size ≤ 1
    · obtain ⟨r1, o1, q1, p1, c1⟩ := e_draw o m hp (by omega) ns.length hns (by omega) n (by omega)
      have a1 := atI_map (f := D.str) (List.getElem?_eq_getElem q1)
      have h1' : (size : Int) ≤ 1 := by omega
      simp -implicitDefEqProofs [f_law_kind, h1', call_b1 c1, a1]
      refine ⟨⟨.at ns[r1], rfl, ⟨by show 1 = size; omega, trivial, fun s hs => ?_⟩⟩, p1.up (by omega)⟩
      rw [List.mem_singleton.mp hs]
      exact List.getElem_mem _
    · obtain ⟨r1, o1, q1, p1, c1⟩ := e_draw o m hp (by omega) (size - 1) (by omega) (by omega) n (by omega)
      obtain ⟨r2, o2, q2, p2, c2⟩ := e_draw o1 (m + 1) p1 (by omega) 3 (by decide) (by decide) n (by omega)
      obtain ⟨c, hc, x2⟩ := sign_ix q2
      obtain ⟨d1, o3, ⟨⟨k1, rfl, K1⟩, p3⟩, c3⟩ := ih (1 + r1) (by omega) o2 (m + 1 + 1) n (by omega) p2 (by omega) (by omega)
      obtain ⟨d2, o4, ⟨⟨k2, rfl, K2⟩, p4⟩, c4⟩ := ih (size - (1 + r1)) (by omega) o3 (m + 1 + 1 + 3 * (1 + r1 : Nat) - 2) n (by omega) p3 (by omega) (by omega)
      rw [show ((size - 1 : Nat) : Int) = (size : Int) - 1 by omega] at c1
      rw [show ((1 + r1 : Nat) : Int) = 1 + (r1 : Int) by omega] at c3
      rw [show ((size - (1 + r1) : Nat) : Int) = (size : Int) - (1 + (r1 : Int)) by omega] at c4
      have h1' : ¬ ((size : Int) ≤ 1) := by omega
      simp -implicitDefEqProofs at c1 c2 c3 c4
      simp -implicitDefEqProofs [f_law_kind, h1', call_b1 c1, call_b1 c2, x2, call_b2 c3, call_b2 c4]
      refine ⟨⟨.op c k1 k2, rfl, ⟨?_, ⟨hc, K1.wf, K2.wf⟩, fun s hs => ?_⟩⟩, p4.up (by omega)⟩
      · show k1.sz + k2.sz = size
        rw [K1.sz, K2.sz]
        omega
      · rcases List.mem_append.mp hs with hs | hs
        · exact K1.ats s hs
        · exact K2.ats s hs
/-- a drawn line -/
structure DrL (ns : List Str) (l : Line) : Prop where
  pos : 1 ≤ l.1.length
  len : l.1.length ≤ 40
  one : ∀ k ∈ l.all, k.sz ≤ 40 ∧ Wf k ∧ ∀ s ∈ k.ats, s ∈ ns
  sz : l.sz ≤ 200
def LInv (ns : List Str) (m : Int) (many cap most : Nat) (i : Nat) (ρ : List Sl) : Prop := ∃ o' left row s1 s2, PoolIn (m + 125 * i) o' ∧ (∀ k ∈ row, k.sz ≤ 40 ∧ Wf k ∧ ∀ s ∈ k.ats, s ∈ ns) ∧ row.length ≤ i ∧ (1 ≤ i → 1 ≤ row.length) ∧ szs row + left + 1 = most ∧ i ≤ many ∧ Fre s1 ∧ Fre s2 ∧
      ρ = [.bor o', .d (.lst (ns.map .str)), .d (.int (many : Nat)), .d (.int (cap : Nat)), .d (.int (most : Nat)), .d (.int (left : Nat)), .own (.lst (row.map Kd.d)), s1, .no, s2]
def LRes (ns : List Str) (m : Int) (r : D) (o' : O) : Prop := (∃ l : Line, r = l.d ∧ DrL ns l) ∧ PoolIn (m + 6000) o'
theorem e_line_of (ns : List Str) (hns : 1 ≤ ns.length) (hns2 : ns.length ≤ 1000) (o : O) (m : Int) (hp : PoolIn m o) (hm : m ≤ 1000000) (many cap most : Nat) (h1 : 1 ≤ many) (h2 : many ≤ 40) (h3 : 1 ≤ cap) (h4 : cap ≤ 40) (h5 : 2 ≤ most) (h6 : most ≤ 80) (n : Nat) (hn : 50 < n) :
    ∃ r o', LRes ns m r o' ∧ Pol (cl n) "_law_line_of" o [.lst (ns.map .str), .int (many : Nat), .int (cap : Nat), .int (most : Nat)] r o' := by
  obtain ⟨n, rfl⟩ : ∃ m, n = m + 1 := ⟨n - 1, by omega⟩
  refine polx_by (n := n) (fd := f_law_line_of) (R := LRes ns m) (ds := [.lst (ns.map .str), .int (many : Nat), .int (cap : Nat), .int (most : Nat)]) m_law_line_of rfl (Nat.le_of_ble_eq_true rfl) ?_
  have rg := rng1 (n := many) (by omega)
  have z := szl'
  have hmin : ∀ a b : Nat, bltF .min [.int (a : Nat), .int (b : Nat)] = some (.d (.int ((min a b : Nat) : Int))) := fun a b => by
    rw [blt_min]
    have e : (if (b : Int) < (a : Int) then (b : Int) else (a : Int)) = ((min a b : Nat) : Int) := by split <;> omega
    rw [e]
  simp -implicitDefEqProofs [f_law_line_of, rg]
  refine run_for (LInv ns m many cap most)
    ⟨o, most - 1, [], .no, .no, hp.up (by omega), (fun k hk => nomatch hk), Nat.le_refl _, (fun h => absurd h (by decide)), by simp [szs]; omega, Nat.zero_le _, .no, .no, by simp; omega⟩
    (fun i hi ρ ⟨o', left, row, s1, s2, g1, g2, g3, g4, g5, g6, hf1, hf2, e⟩ => ?_) fun ρ ⟨o', left, row, s1, s2, g1, g2, g3, g4, g5, g6, hf1, hf2, e⟩ => ?_
  · subst e
    have hi' : i < many := by simpa using hi
    rw [get_of (x := .int (i : Nat)) (by rw [List.getElem?_map, List.getElem?_range hi']; rfl)]
    refine ⟨_, bindT_fre hf1 rfl, ?_⟩
    by_cases hl : 0 < left
    · obtain ⟨mn, hmn, hm1, hm2, hm3⟩ : ∃ mn : Nat, bltF .min [.int (cap : Nat), .int (left : Nat)] = some (.d (.int (mn : Nat))) ∧ 1 ≤ mn ∧ mn ≤ cap ∧ mn ≤ left := ⟨min cap left, hmin cap left, by omega, by omega, by omega⟩
      obtain ⟨r1, o1, q1, p1, c1⟩ := e_draw o' (m + 125 * i) g1 (by omega) mn hm1 (by omega) n (by omega)
      obtain ⟨d1, o2, ⟨⟨k1, rfl, K1⟩, p2⟩, c2⟩ := e_kind ns hns hns2 (1 + r1) o1 (m + 125 * i + 1) n (by omega) p1 (by omega) (by omega)
      rw [show ((1 + r1 : Nat) : Int) = 1 + (r1 : Int) by omega] at c2
      have e3 : (left : Int) - (1 + (r1 : Int)) = ((left - (1 + r1) : Nat) : Int) := by omega
      have g7 : row.length < sizeLine := by omega
      simp -implicitDefEqProofs [-blt_min, hl, hmn, call_b1 c1, hf2.bo, call_b2 c2, g7]
      refine ⟨o2, left - (1 + r1), row ++ [k1], Sl.d (.int (i : Nat)), Sl.d (.int (1 + (r1 : Int))), p2.up (by omega), ?_, by simp; omega, by simp, ?_, by omega, Fre.d, Fre.d, ?_⟩
      · intro k hk
        rcases List.mem_append.mp hk with hk | hk
        · exact g2 k hk
        · rw [List.mem_singleton.mp hk]
          exact ⟨by rw [K1.sz]; omega, K1.wf, K1.ats⟩
      · simp [szs] at g5 ⊢
        rw [K1.sz]
        omega
      · rw [e3]
        simp
    · have hl' : left = 0 := by omega
      subst hl'
      simp -implicitDefEqProofs
      refine ⟨o', 0, row, Sl.d (.int (i : Nat)), s2, g1.up (by omega), g2, by omega, ?_, g5, by omega, Fre.d, hf2, by simp⟩
      intro _
      rcases Nat.eq_zero_or_pos i with hi0 | hi0
      · subst hi0
        have : row = [] := List.eq_nil_of_length_eq_zero (by omega)
        subst this
        simp [szs] at g5
        omega
      · exact g4 hi0
  · subst e
    simp only [List.length_map, List.length_range] at g1 g3 g4
    have g4' := g4 h1
    obtain ⟨mn, hmn, hm1, hm2, hm3⟩ : ∃ mn : Nat, bltF .min [.int (cap : Nat), .int ((left : Int) + 1)] = some (.d (.int (mn : Nat))) ∧ 1 ≤ mn ∧ mn ≤ cap ∧ mn ≤ left + 1 := ⟨min cap (left + 1), hmin cap (left + 1), by omega, by omega, by omega⟩
    obtain ⟨r1, o1, q1, p1, c1⟩ := e_draw o' (m + 125 * many) g1 (by omega) mn hm1 (by omega) n (by omega)
    obtain ⟨d1, o2, ⟨⟨k1, rfl, K1⟩, p2⟩, c2⟩ := e_kind ns hns hns2 (1 + r1) o1 (m + 125 * many + 1) n (by omega) p1 (by omega) (by omega)
    rw [show ((1 + r1 : Nat) : Int) = 1 + (r1 : Int) by omega] at c2
    simp -implicitDefEqProofs [-blt_min, hmn, call_b1 c1, call_b2 c2]
    refine ⟨⟨(row, k1), by simp [Line.d], ⟨g4', (show row.length ≤ 40 by omega), fun k hk => ?_, ?_⟩⟩, p2.up (by omega)⟩
    · rcases List.mem_append.mp hk with hk | hk
      · exact g2 k hk
      · rw [List.mem_singleton.mp hk]
        exact ⟨by rw [K1.sz]; omega, K1.wf, K1.ats⟩
    · have := K1.sz
      simp [Line.sz, Line.all, szs] at g5 ⊢
      omega
end Tab

set_option maxHeartbeats 400000
namespace Tab
open PySem PySem.Spec PyProof.Rows L2 Fw
def DRes (ns : List Str) (m : Int) (r : D) (o' : O) : Prop := (∃ l : Line, r = l.d ∧ DrL ns l) ∧ PoolIn (m + 7000) o'
theorem e_drawn (ns : List Str) (hns : 1 ≤ ns.length) (hns2 : ns.length ≤ 1000) (o : O) (m : Int) (hp : PoolIn m o) (hm : m ≤ 900000) (n : Nat) (hn : 52 < n) :
    ∃ r o', DRes ns m r o' ∧ Pol (cl n) "_law_drawn" o [.lst (ns.map .str)] r o' := by
  obtain ⟨n, rfl⟩ : ∃ m, n = m + 1 := ⟨n - 1, by omega⟩
  have hm0 : 0 ≤ m := by obtain ⟨a, b, c, _, _, _, h5, h6⟩ := hp; omega
  refine polx_by (n := n) (fd := f_law_drawn) (R := DRes ns m) (ds := [.lst (ns.map .str)]) m_law_drawn rfl (Nat.le_of_ble_eq_true rfl) ?_
  obtain ⟨w, o1, q1, p1, c1⟩ := e_draw o m hp (by omega) 8 (by decide) (by decide) n (by omega)
  by_cases h5 : w < 5
  · obtain ⟨r2, o2, q2, p2, c2⟩ := e_draw o1 (m + 1) p1 (by omega) 7 (by decide) (by decide) n (by omega)
    obtain ⟨r3, o3, q3, p3, c3⟩ := e_draw o2 (m + 1 + 1) p2 (by omega) 5 (by decide) (by decide) n (by omega)
    obtain ⟨r4, o4, ⟨⟨l, rfl, dl⟩, p4⟩, c4⟩ := e_line_of ns hns hns2 o3 (m + 1 + 1 + 1) p3 (by omega) (1 + r2) (1 + r3) 24 (by omega) (by omega) (by omega) (by omega) (by omega) (by omega) n (by omega)
    rw [show ((1 + r2 : Nat) : Int) = 1 + (r2 : Int) by omega, show ((1 + r3 : Nat) : Int) = 1 + (r3 : Int) by omega] at c4
    have h5' : (w : Int) < 5 := by omega
    simp -implicitDefEqProofs at c1 c2 c3
    have c4' : Pol (cl n) "_law_line_of" o3 [.lst (ns.map .str), .int (1 + (r2 : Int)), .int (1 + (r3 : Int)), .int 24] l.d o4 := c4
    simp -implicitDefEqProofs [f_law_drawn, call_b1 c1, h5', call_b1 c2, call_b1 c3, call_b4 c4']
    exact ⟨⟨l, rfl, dl⟩, p4.up (by omega)⟩
  · obtain ⟨x, hx⟩ : ∃ x, w = 5 + x := ⟨w - 5, by omega⟩
    subst hx
    have hx3 : x < 3 := by omega
    obtain ⟨mm, cc, a1, a2, b1, b2, b3, b4⟩ : ∃ mm cc : Nat, atI [D.int 40, D.int 14, D.int 4] (((5 + x : Nat) : Int) - 5) = some (.int (mm : Nat)) ∧ atI [D.int 2, D.int 6, D.int 40] (((5 + x : Nat) : Int) - 5) = some (.int (cc : Nat)) ∧ 1 ≤ mm ∧ mm ≤ 40 ∧ 1 ≤ cc ∧ cc ≤ 40 := by
      match x, hx3 with
      | 0, _ => exact ⟨40, 2, by simp, by simp, by omega, by omega, by omega, by omega⟩
      | 1, _ => exact ⟨14, 6, by simp, by simp, by omega, by omega, by omega, by omega⟩
      | 2, _ => exact ⟨4, 40, by simp, by simp, by omega, by omega, by omega, by omega⟩
    obtain ⟨r2, o2, q2, p2, c2⟩ := e_draw o1 (m + 1) p1 (by omega) mm b1 (by omega) n (by omega)
    obtain ⟨r4, o4, ⟨⟨l, rfl, dl⟩, p4⟩, c4⟩ := e_line_of ns hns hns2 o2 (m + 1 + 1) p2 (by omega) (1 + r2) cc 80 (by omega) (by omega) (by omega) (by omega) (by omega) (by omega) n (by omega)
    rw [show ((1 + r2 : Nat) : Int) = 1 + (r2 : Int) by omega] at c4
    have c4' : Pol (cl n) "_law_line_of" o2 [.lst (ns.map .str), .int (1 + (r2 : Int)), .int (cc : Nat), .int 80] l.d o4 := c4
    have c1' : Pol (cl n) "_law_draw" o [.int 8] (.int ((5 + x : Nat) : Int)) o1 := c1
    have h5' : ¬ (((5 + x : Nat) : Int) < 5) := by omega
    generalize ((5 + x : Nat) : Int) = wi at a1 a2 c1' h5'
    simp -implicitDefEqProofs [f_law_drawn, call_b1 c1', h5', a1, a2, call_b1 c2, call_b4 c4']
    exact ⟨⟨l, rfl, dl⟩, p4.up (by omega)⟩
def CRes (many : Nat) (m : Int) (r : D) (o' : O) : Prop := (∃ xs : List Nat, r = .lst (xs.map fun (k : Nat) => D.int k) ∧ xs.length ≤ 12 ∧ ∀ x ∈ xs, x < many) ∧ PoolIn (m + 20) o'
theorem e_chosen (o : O) (m : Int) (hp : PoolIn m o) (hm : m ≤ 900000) (many : Nat) (hy : many ≤ 100000) (n : Nat) (hn : 3 < n) : ∃ r o', CRes many m r o' ∧ Pol (cl n) "_law_chosen" o [.int (many : Nat)] r o' := by
  obtain ⟨n, rfl⟩ : ∃ m, n = m + 1 := ⟨n - 1, by omega⟩
  have hm0 : 0 ≤ m := by obtain ⟨a, b, c, _, _, _, h5, h6⟩ := hp; omega
  refine polx_by (n := n) (fd := f_law_chosen) (R := CRes many m) (ds := [.int (many : Nat)]) m_law_chosen rfl (Nat.le_of_ble_eq_true rfl) ?_
  have z := szl'
  by_cases h12 : many ≤ 12
  · have rg := rng1 (n := many) (by omega)
    have r1 : rngsF false [.int (many : Nat)] = some (.new (.lst ((List.range many).map fun (k : Nat) => D.int k))) := by
      unfold rngsF
      rw [rg]
      show (if _ then _ else _ : Option Fw.T) = _
      rw [if_pos (by simp; omega)]
      rfl
    have h12' : (many : Int) ≤ 12 := by omega
    simp -implicitDefEqProofs [f_law_chosen, h12', r1]
    exact ⟨⟨List.range many, rfl, by simpa using h12, fun x hx => by simpa using hx⟩, hp.up (by omega)⟩
  · have h12' : ¬ ((many : Int) ≤ 12) := by omega
    have rg : rngF [.int 10] = some ((List.range 10).map fun (k : Nat) => D.int k) := rng1 (n := 10) (by omega)
    simp -implicitDefEqProofs only [f_law_chosen]
    simp -implicitDefEqProofs [h12', rg]
    refine run_turns (fun i acc ρ => ∃ xs o', acc = xs.map (fun (k : Nat) => D.int k) ∧ xs.length = i ∧ (∀ x ∈ xs, x < many) ∧ PoolIn (m + i) o' ∧ ρ = [.bor o', .d (.int (many : Nat)), .no]) ⟨[], o, rfl, rfl, (fun x hx => nomatch hx), hp.up (by omega), rfl⟩
      (fun i hi acc ρ ⟨xs, o', e1, e2, e3, e4, e5⟩ => ?_) fun ys ρ ⟨xs, o', e1, e2, e3, e4, e5⟩ => ?_
    · subst e1 e5
      have hi' : i < 10 := by simpa using hi
      rw [get_of (x := .int (i : Nat)) (by rw [List.getElem?_map, List.getElem?_range hi']; rfl)]
      obtain ⟨r2, o2, q2, p2, c2⟩ := e_draw o' (m + i) e4 (by omega) many (by omega) (by omega) n (by omega)
      have fin : Fw.Run (some ([D.int (r2 : Nat)], [Sl.bor o2, Sl.d (D.int (many : Nat)), Sl.no])) fun x ρ2 => ∃ (ys : List Nat) (o'' : O), xs.map (fun (k : Nat) => D.int k) ++ x = ys.map (fun (k : Nat) => D.int k) ∧ ys.length = i + 1 ∧ (∀ x ∈ ys, x < many) ∧ PoolIn (m + (i + 1 : Nat)) o'' ∧ ρ2 = [.bor o'', .d (.int (many : Nat)), .no] :=
        run_some.mpr ⟨xs ++ [r2], o2, by simp, by simp [e2], fun x hx => by
          rcases List.mem_append.mp hx with hx | hx
          · exact e3 x hx
          · rw [List.mem_singleton.mp hx]; exact q2, p2.up (by omega), rfl⟩
      refine (congrArg (fun z => Fw.Run z _) ?_).mpr fin
      simp -implicitDefEqProofs [call_b1 c2]
    · subst e1 e5
      have e2' : xs.length = 10 := by simpa using e2
      have l1 : xs.length ≤ sizeLine := by omega
      have l2 : 1 + 1 + xs.length ≤ sizeLine := by omega
      have l3 : 2 + xs.length ≤ sizeLine := by omega
      have e6 : (many : Int) - 1 = ((many - 1 : Nat) : Int) := by omega
      simp -implicitDefEqProofs [l1, l2, l3]
      refine ⟨⟨0 :: (many - 1) :: xs, ?_, by simp; omega, fun x hx => ?_⟩, e4.up (by simp)⟩
      · rw [e6]
        simp
      · simp only [List.mem_cons] at hx
        rcases hx with rfl | rfl | hx
        · omega
        · omega
        · exact e3 x hx
end Tab

set_option maxHeartbeats 400000
namespace Tab
open PySem PySem.Spec PyProof.Rows L2 Fw
theorem e_cell (ns : List Int) (k : Nat) (n : Nat) (hn : 0 < n) : ∃ c : Int, Pure (cl n) "_law_cell" [.rd (ns.map D.int), .int (k : Nat)] (.int c) := by
  obtain ⟨n, rfl⟩ : ∃ m, n = m + 1 := ⟨n - 1, by omega⟩
  by_cases h : k < ns.length
  · refine ⟨ns[k], pure_by m_law_cell rfl (Nat.le_of_ble_eq_true rfl) ?_⟩
    have a1 := atI_map (f := D.int) (List.getElem?_eq_getElem h)
    simp -implicitDefEqProofs [f_law_cell, h, a1]
  · refine ⟨0, pure_by m_law_cell rfl (Nat.le_of_ble_eq_true rfl) ?_⟩
    simp -implicitDefEqProofs [f_law_cell, h]
theorem e_pool (ns : List Int) (k : Nat) (hk : k ≤ 1) (n : Nat) (hn : 1 < n) : ∃ a b : Int, 0 ≤ b ∧ b ≤ 10000000000 ∧ PureN (cl n) "_law_pool" [.rd (ns.map D.int), .int (k : Nat)] [.int a, .int b, .int 0] := by
  obtain ⟨n, rfl⟩ : ∃ m, n = m + 1 := ⟨n - 1, by omega⟩
  obtain ⟨c, hc⟩ := e_cell ns k n (by omega)
  have pw : binF .Pow (.int 10) (.int 18) = some (.d (.int 1000000000000000000)) := by
    show (if 0 ≤ (18 : Int) ∧ (18 : Int) ≤ 1000000 ∧ (10 : Int).natAbs < 2 ^ 64 then some (iD ((10 : Int) ^ (18 : Int).toNat)) else none) = _
    rw [if_pos (by decide)]
    rfl
  by_cases h : 1000000000000000000 ≤ c
  · have m1 := mul_ok (i := 40009) (j := (k : Int) + 1) (by omega)
    refine ⟨c - 1000000000000000000, 40009 * ((k : Int) + 1), by omega, by omega, pureN_by m_law_pool rfl (Nat.le_of_ble_eq_true rfl) ?_⟩
    simp -implicitDefEqProofs [f_law_pool, call_p2 hc, pw, h, m1]
  · have m1 := mul_ok (i := 7919) (j := (k : Int)) (by omega)
    have d1 : ∀ i : Int, binF .Mod (.int i) (.int 2000000011) = some (.d (.int (i.fmod 2000000011))) := fun i => mod_ok (by decide)
    obtain ⟨b1, b2⟩ := fmod_rng (i := if c < 0 then -c else c) (j := 2000000011) (by decide)
    refine ⟨0, (if c < 0 then -c else c).fmod 2000000011 + 7919 * (k : Int), by omega, by omega, pureN_by m_law_pool rfl (Nat.le_of_ble_eq_true rfl) ?_⟩
    simp -implicitDefEqProofs [f_law_pool, call_p2 hc, pw, h, m1, d1]
/-! ### row == (goal,) -/
theorem kd_pd_op (c : Str) (a b : Kd) : (Kd.op c a b).d.pd = .tuple [.str c, a.d.pd, b.d.pd] := by
  simp [Kd.d, D.pd, D.pds]
theorem kd_pd_at (s : Str) : (Kd.at s).d.pd = .str s := by simp [Kd.d, D.pd]
theorem sOk_sign {c : Str} (h : c = "/" ∨ c = ">" ∨ c = "*") : sOk c := by
  rcases h with rfl | rfl | rfl <;> (unfold sOk; decide +kernel)
theorem kd_lay : ∀ k : Kd, Wf k → (∀ s ∈ k.ats, sOk s) → PySem.PyData.canLay0 k.d.pd = true ∧ PySem.PyData.depth k.d.pd = k.dep
  | .at s, _, h => by
    rw [kd_pd_at]
    refine ⟨?_, by simp [PySem.PyData.depth, Kd.dep]⟩
    simp only [PySem.PyData.canLay0]
    exact h s (by simp [Kd.ats])
  | .op c a b, w, h => by
    obtain ⟨a1, a2⟩ := kd_lay a w.2.1 fun s hs => h s (List.mem_append_left _ hs)
    obtain ⟨b1, b2⟩ := kd_lay b w.2.2 fun s hs => h s (List.mem_append_right _ hs)
    have c1 : PySem.PyData.strOk c = true := sOk_sign w.1
    rw [kd_pd_op]
    refine ⟨by simp [PySem.PyData.canLay0, PySem.PyData.canLayAll0, a1, b1, c1], ?_⟩
    simp [PySem.PyData.depth, PySem.PyData.depthAll, a2, b2, Kd.dep]
theorem row_lay : ∀ row : List Kd, (∀ k ∈ row, Wf k ∧ k.dep < 55 ∧ ∀ s ∈ k.ats, sOk s) → PySem.PyData.canLayAll0 (D.pds (row.map Kd.d)) = true ∧ PySem.PyData.depthAll (D.pds (row.map Kd.d)) ≤ 55
  | [], _ => by simp [D.pds, PySem.PyData.canLayAll0, PySem.PyData.depthAll]
  | k :: row, h => by
    obtain ⟨h1, h2, h3⟩ := h k List.mem_cons_self
    obtain ⟨a1, a2⟩ := kd_lay k h1 h3
    obtain ⟨b1, b2⟩ := row_lay row fun k hk => h k (List.mem_cons_of_mem _ hk)
    simp only [List.map_cons, D.pds, PySem.PyData.canLayAll0, PySem.PyData.depthAll, a1, b1, a2, Bool.and_self, true_and]
    omega
theorem eq_row (row : List Kd) (s : Str) (h : ∀ k ∈ row, Wf k ∧ k.dep < 55 ∧ ∀ s ∈ k.ats, sOk s) (hs : sOk s) :
    cmpF .Eq (.tup (row.map Kd.d)) (.tup [.str s]) = some (PySem.PyData.eqvAll (D.pds (row.map Kd.d)) [.str s]) := by
  obtain ⟨a1, a2⟩ := row_lay row h
  have s1 : SeqAt.shaped (D.tup (row.map Kd.d)).pd = true := by
    unfold SeqAt.shaped
    simp only [D.pd, PySem.PyData.canLay0, PySem.PyData.depth, a1, Bool.true_and]
    exact decide_eq_true (by omega)
  have hs' : PySem.PyData.strOk s = true := hs
  have s2 : SeqAt.shaped (D.tup [.str s]).pd = true := by
    unfold SeqAt.shaped
    simp [D.pd, D.pds, PySem.PyData.canLay0, PySem.PyData.canLayAll0, PySem.PyData.depth, PySem.PyData.depthAll, hs']
  show (match (D.tup (row.map Kd.d)).scalEq (.tup [.str s]) with
    | some b => some b
    | none => if SeqAt.shaped (D.tup (row.map Kd.d)).pd = true ∧ SeqAt.shaped (D.tup [.str s]).pd = true then some (PySem.PyData.eqv (D.tup (row.map Kd.d)).pd (D.tup [.str s]).pd) else none) = _
  rw [show (D.tup (row.map Kd.d)).scalEq (.tup [.str s]) = none from rfl]
  dsimp only
  rw [if_pos ⟨s1, s2⟩]
  simp [D.pd, D.pds, PySem.PyData.eqv]
theorem eqv_marked (l : Line) (hm : 1 ≤ l.1.length) (s : Str) (hg : (ml l).2 = .at s) : PySem.PyData.eqvAll (D.pds ((ml l).1.map Kd.d)) [.str s] = false := by
  obtain ⟨row, goal⟩ := l
  cases goal with
  | op c a b => cases hg
  | «at» t =>
    have hs : s = lab (szs row) := by
      have : Kd.at (lab (szs row)) = .at s := hg
      injection this with e
      exact e.symm
    subst hs
    match row, hm with
    | [k], _ =>
      cases k with
      | «at» u =>
        have e : ((ml ([Kd.at u], Kd.at t)).1.map Kd.d) = [.str (lab 0)] := rfl
        rw [e]
        have e2 : szs [Kd.at u] = 1 := rfl
        rw [e2]
        simp [D.pds, D.pd, PySem.PyData.eqvAll, PySem.PyData.eqv]
        show ¬ (lab 0 = lab 1)
        decide +kernel
      | op c a b =>
        simp [ml, markRow, mk, Kd.d, D.pds, D.pd, PySem.PyData.eqvAll, PySem.PyData.eqv]
    | k :: k2 :: r, _ =>
      simp [ml, markRow, D.pds, PySem.PyData.eqvAll]
end Tab

set_option maxHeartbeats 400000
namespace Tab
open PySem PySem.Spec PyProof.Rows L2 Fw
theorem codes_na {l : Line} {c : Code} (h : c ∈ codes l) : decide (c.1 = ("axiom" : Str)) = false := by
  unfold codes at h
  rcases List.mem_append.mp h with h | h
  · cases e : l.2.sg with
    | none => rw [e] at h; simp [gCodes] at h
    | some k =>
      rw [e] at h
      unfold gCodes at h
      dsimp only at h
      split at h
      · rw [List.mem_singleton.mp h]; decide +kernel
      · split at h
        · rw [List.mem_singleton.mp h]; decide +kernel
        · obtain ⟨j, _, rfl⟩ := List.mem_map.mp h
          show decide (("pair right" : Str) = ("axiom" : Str)) = false
          decide +kernel
  · obtain ⟨i, _, h⟩ := List.mem_flatMap.mp h
    cases e : sgAt l i with
    | none => rw [e] at h; simp [pCodes] at h
    | some k =>
      rw [e] at h
      unfold pCodes at h
      dsimp only at h
      split at h
      · rw [List.mem_singleton.mp h]
        show decide (("pair left" : Str) = ("axiom" : Str)) = false
        decide +kernel
      · split at h
        · obtain ⟨j, _, rfl⟩ := List.mem_map.mp h
          show decide (("over left" : Str) = ("axiom" : Str)) = false
          decide +kernel
        · obtain ⟨j, _, rfl⟩ := List.mem_map.mp h
          show decide (("under left" : Str) = ("axiom" : Str)) = false
          decide +kernel
theorem DrL.sm {ns : List Str} {l : Line} (h : DrL ns l) : LSm l := ⟨h.pos, by have := h.len; omega, by have := h.sz; omega, fun k m => by have := (h.one k m).1; have := k.dep_lt; omega, fun k m => (h.one k m).2.1⟩
theorem LSm.ml {l : Line} (h : LSm l) : LOk (ml l) ∧ (∀ k ∈ (Tab.ml l).all, Wf k) := by
  have lenM : (Tab.ml l).1.length = l.1.length := markRow_len l.1 0
  obtain ⟨d1, d2⟩ := ml_all_dep h
  have wf : ∀ k ∈ (Tab.ml l).all, Wf k := fun k hk => by
    rcases List.mem_append.mp hk with hk | hk
    · obtain ⟨i, hi, e⟩ := List.mem_iff_getElem.mp hk
      have hi' : i < l.1.length := by rw [lenM] at hi; exact hi
      obtain ⟨k', g1, g2, g3⟩ := l.prem_get hi'
      have q : (Tab.ml l).1[i]? = some (Tab.mk k' (0 + szs (l.1.take i))) := markRow_get l.1 0 i k' g1
      rw [List.getElem?_eq_getElem hi, e] at q
      rw [Option.some.inj q]
      exact mk_wf _ _ (h.wf k' g3)
    · rw [List.mem_singleton.mp hk]
      exact mk_wf _ _ (h.wf l.2 (by simp [Line.all]))
  refine ⟨⟨by simp [Line.all]; have := h.len; omega, ?_, fun k hk => ?_⟩, wf⟩
  · have e : (Tab.ml l).sz = (Tab.ml l).ats.length := by
      unfold Line.sz Line.ats
      rw [flat_len]
    have e2 := (ml_RL l).ats (ml_goal l)
    have e3 : (Tab.ml l).ats = _ := e2
    rw [e, e3, List.length_map]
    obtain ⟨r1, r2, r3⟩ := R_facts h
    show fl _ ≤ _
    rw [fl_append, fl_one]
    omega
  · rcases List.mem_append.mp hk with hk | hk
    · have := d1 k hk; omega
    · rw [List.mem_singleton.mp hk]; omega
def L0 (x : List D) : D := .rd x
theorem lab_ok (p : Nat) : sOk (lab p) := sOk_num p
theorem mk_atsOk (k : Kd) (s : Nat) : ∀ a ∈ (mk k s).ats, sOk a := fun a ha => by
  rw [mk_ats] at ha
  obtain ⟨p, _, rfl⟩ := List.mem_map.mp ha
  exact lab_ok p
theorem ml_row {l : Line} (h : LSm l) : (∀ k ∈ (ml l).1, Wf k ∧ k.dep < 55 ∧ ∀ s ∈ k.ats, sOk s) := fun k hk => by
  obtain ⟨i, hi, e⟩ := List.mem_iff_getElem.mp hk
  have hi' : i < l.1.length := by rw [show (ml l).1.length = l.1.length from markRow_len l.1 0] at hi; exact hi
  obtain ⟨k', g1, g2, g3⟩ := l.prem_get hi'
  have q : (ml l).1[i]? = some (mk k' (0 + szs (l.1.take i))) := markRow_get l.1 0 i k' g1
  rw [List.getElem?_eq_getElem hi, e] at q
  rw [Option.some.inj q]
  exact ⟨mk_wf _ _ (h.wf k' g3), by rw [mk_dep]; exact h.dep k' g3, mk_atsOk _ _⟩
theorem e_marked (l : Line) (h : LSm l) (n : Nat) (hn : 1 < n) : Pure (cl n) "_law_last_steps" [(ml l).d] (.lst ((codes l).map (stepD (ml l)))) := by
  obtain ⟨m1, m2⟩ := h.ml
  have lenM : (ml l).1.length = l.1.length := markRow_len l.1 0
  have hp : 1 ≤ (ml l).1.length := by rw [lenM]; exact h.pos
  have c := e_last_steps (ml l) m1 m2 hp false (fun s hs => by
    rw [eq_row (ml l).1 s (ml_row h) (by
      have : s ∈ (ml l).2.ats := by rw [hs]; simp [Kd.ats]
      exact mk_atsOk l.2 _ s this), eqv_marked l h.pos s hs]) n hn
  have e : axs (ml l) false = [] := by
    unfold axs
    cases (ml l).2 <;> rfl
  rw [e, List.nil_append, codes_ml] at c
  exact c
theorem run_forE {f : List Sl → Rs Fl} {tg : Tg} {B : Fl → List Sl → Prop} {ds : List D} {ρ : List Sl} (P : Nat → List Sl → Prop) (h0 : P 0 ρ)
    (hs : ∀ i (hi : i < ds.length) ρ, P i ρ → ∃ ρ1, bindT tg ds[i] ρ = some ρ1 ∧ Fw.Run (f ρ1) (ForEnd (P (i + 1)) B)) (he : ∀ ρ, P ds.length ρ → B .nx ρ) : @RunI _ (@forK ⟨f⟩ tg ds ρ) ⟨B⟩ :=
  run_for0 (B := B) P ds ρ 0 h0 (fun i hi ρ h => by
    rw [Nat.zero_add] at h ⊢
    exact hs i hi ρ h) fun ρ h => he ρ (by rw [Nat.zero_add] at h; exact h)
def un (a : Str) : D := match bltF .int [.str a] with
  | some (.d d) => d
  | _ => .non
theorem un_lab {p : Nat} (h : p ≤ 10000) : un (lab p) = .int (p : Nat) := by
  unfold un
  have e : bltF .int [.str (lab p)] = some (.d (.int (p : Nat))) := lab_int h
  rw [e]
theorem cast_row (r : List Nat) : (r.map fun (p : Nat) => D.int p) = (r.map fun (p : Nat) => (p : Int)).map D.int := by
  rw [List.map_map]
  rfl
theorem e_part {l : Line} (sm : LSm l) {c : Code} (hc : c ∈ codes l) : ∃ parts, StepOk l c 109 parts ∧ (∀ q ∈ partsOf (ml l) c, Pure (cl 109) "_law_read" [q.d] (.lst (q.ats.map un))) ∧
    (partsOf (ml l) c).map (fun q => D.lst (q.ats.map un)) = parts.map (fun p => D.lst (p.flatten.map fun (x : Nat) => D.int x)) ∧
    Pure (cl 109) "_law_is_row" [.tup (parts.map fun p => rowD p.flatten), .lst (parts.map fun p => D.lst (p.flatten.map fun (x : Nat) => D.int x))] (.bl true) := by
  obtain ⟨parts, S⟩ := step_ok sm hc (n := 109) (by omega)
  have unp : ∀ p ∈ parts, (p.flatten.map lab).map un = p.flatten.map fun (x : Nat) => D.int x := fun p hp => by
    rw [List.map_map]
    apply List.map_congr_left
    intro x hx
    obtain ⟨r, hr, hx⟩ := List.mem_flatten.mp hx
    exact un_lab (S.lb p hp r hr x hx)
  have look : ∀ q ∈ partsOf (ml l) c, ∃ p ∈ parts, q.ats = p.flatten.map lab := fun q hq => by
    have h1 : q.ats ∈ (partsOf (ml l) c).map Line.ats := List.mem_map.mpr ⟨q, hq, rfl⟩
    rw [S.ats] at h1
    obtain ⟨p, hp, e⟩ := List.mem_map.mp h1
    exact ⟨p, hp, e.symm⟩
  refine ⟨parts, S, fun q hq => ?_, ?_, ?_⟩
  · obtain ⟨p, hp, e⟩ := look q hq
    obtain ⟨o1, o2⟩ := S.ok q hq
    have hf : p.flatten.length ≤ 4000 := S.sm p hp
    have sz : q.sz = p.flatten.length := by
      have : q.ats.length = q.sz := flat_len q.all
      rw [← this, e, List.length_map]
    rw [e, unp p hp]
    exact e_read q ⟨by simp [Line.all]; omega, by omega, o2⟩ p.flatten e (fun x hx => by
      obtain ⟨r, hr, hx⟩ := List.mem_flatten.mp hx
      exact S.lb p hp r hr x hx) (by omega) 109 (by omega)
  · have h1 : (partsOf (ml l) c).map (fun q => D.lst (q.ats.map un)) = ((partsOf (ml l) c).map Line.ats).map fun as => D.lst (as.map un) := by
      rw [List.map_map]
      rfl
    rw [h1, S.ats, List.map_map]
    apply List.map_congr_left
    intro p hp
    show D.lst ((p.flatten.map lab).map un) = _
    rw [unp p hp]
  · refine e_is_row _ _ (by simp) (by simp; have := S.few; omega) 109 (by omega) fun i hi hi' => ?_
    have hi2 : i < parts.length := by simpa using hi
    have hf : parts[i].flatten.length ≤ 4000 := S.sm _ (List.getElem_mem hi2)
    simp only [List.getElem_map]
    unfold rowD
    rw [cast_row]
    exact e_is_places _ _ (.inr rfl) (by rw [List.length_map]; omega) 108 (by omega)
theorem e_law (xs : List Int) : Pure (cl 110) "law" [.rd (xs.map D.int)] (.bl true) := by
  refine pure_by (n := 109) m_law rfl (Nat.le_of_ble_eq_true rfl) ?_
  have z := szl'
  obtain ⟨pa, pb, hb1, hb2, c0⟩ := e_pool xs 0 (by omega) 109 (by omega)
  obtain ⟨pa', pb', hb1', hb2', c0'⟩ := e_pool xs 1 (by omega) 109 (by omega)
  have c0 : PureN (cl 109) "_law_pool" [.rd (xs.map D.int), .int 0] [.int pa, .int pb, .int 0] := c0
  have c0' : PureN (cl 109) "_law_pool" [.rd (xs.map D.int), .int 1] [.int pa', .int pb', .int 0] := c0'
  generalize D.rd (xs.map D.int) = scr at c0 c0' ⊢
  unfold f_law
  refine run_cons (fun ρ => ρ = [.d scr, .own (pl3 pa pb 0), .no, .no, .no, .no, .no, .no, .no, .no, .no, .no, .no, .no]) (by simp -implicitDefEqProofs [call_n2 c0, pl3]) fun ρ e => ?_
  subst e
  refine run_cons (fun ρ => ∃ (o : O) (nms : List Str), PoolIn 100 o ∧ 1 ≤ nms.length ∧ nms.length ≤ 3 ∧ (∀ s ∈ nms, Nm s 100) ∧ ρ = [.d scr, .own o, .d (.lst (nms.map D.str)), .no, .no, .no, .no, .no, .no, .no, .no, .no, .no, .no]) ?_ fun ρ ⟨o, nms, p1, n1, n2, n3, e⟩ => ?_
  · obtain ⟨r1, o1, q1, p1, c1⟩ := e_draw (pl3 pa pb 0) 0 ⟨_, _, _, rfl, hb1, hb2, by omega, by omega⟩ (by omega) 3 (by decide) (by decide) 109 (by omega)
    have rg : rngF [.int (1 + (r1 : Int))] = some ((List.range (1 + r1)).map fun (k : Nat) => D.int k) := by
      rw [show 1 + (r1 : Int) = ((1 + r1 : Nat) : Int) by omega]
      exact rng1 (by omega)
    simp -implicitDefEqProofs at c1
    simp -implicitDefEqProofs [call_o1 c1, rg]
    refine run_turns (fun i acc ρ => ∃ (nms : List Str) (o' : O), acc = nms.map D.str ∧ nms.length = i ∧ (∀ s ∈ nms, Nm s 100) ∧ PoolIn (1 + 20 * i) o' ∧ i ≤ 3 ∧ ρ = [.d scr, .own o', .no, .no, .no, .no, .no, .no, .no, .no, .no, .no, .no, .no]) ⟨[], o1, rfl, rfl, (fun s hs => nomatch hs), p1.up (by omega), by omega, rfl⟩
      (fun i hi acc ρ ⟨nms, o', e1, e2, e3, e4, _, e5⟩ => ?_) fun ys ρ ⟨nms, o', e1, e2, e3, e4, _, e5⟩ => ?_
    · subst e1 e5
      have hi' : i < 1 + r1 := by simpa using hi
      rw [get_of (x := .int (i : Nat)) (by rw [List.getElem?_map, List.getElem?_range hi']; rfl)]
      obtain ⟨r2, o2, ⟨⟨s, rfl, hs⟩, p2⟩, c2⟩ := e_any_atom o' (1 + 20 * i) e4 (by omega) 109 (by omega)
      refine ⟨[.str s], [.d scr, .own o2, .no, .no, .no, .no, .no, .no, .no, .no, .no, .no, .no, .no], by simp -implicitDefEqProofs [call_o0 c2], nms ++ [s], o2, by simp, by simp [e2], fun x hx => ?_, p2.up (by omega), by omega, rfl⟩
      rcases List.mem_append.mp hx with hx | hx
      · exact e3 x hx
      · rw [List.mem_singleton.mp hx]; exact hs
    · subst e1 e5
      have e2' : nms.length = 1 + r1 := by simpa using e2
      have l1 : nms.length ≤ sizeLine := by omega
      simp -implicitDefEqProofs [l1]
      exact ⟨o', e4.up (by simp; omega), nms, by omega, by omega, e3, by simp⟩
  subst e
  obtain ⟨r3, o3, ⟨⟨l, rfl, dl⟩, p3⟩, c3⟩ := e_drawn nms n1 (by omega) o 100 p1 (by omega) 109 (by omega)
  have sm := dl.sm
  refine run_cons (fun ρ => ρ = [.d scr, .own o3, .d (.lst (nms.map D.str)), .d l.d, .no, .no, .no, .no, .no, .no, .no, .no, .no, .no]) (by simp -implicitDefEqProofs [call_o1 c3]) fun ρ e => ?_
  subst e
  have c4 := e_all_atoms l sm.ok 109 (by omega)
  refine run_cons (fun ρ => ρ = [.d scr, .own o3, .d (.lst (nms.map D.str)), .d l.d, .d (.lst (l.ats.map D.str)), .no, .no, .no, .no, .no, .no, .no, .no, .no]) (by simp -implicitDefEqProofs [call_p1 c4]) fun ρ e => ?_
  subst e
  -- the steps
  have sat : ∀ a ∈ l.ats, sOk a := fun a ha => by
    obtain ⟨k, hk, hak⟩ := List.mem_flatMap.mp ha
    exact (n3 a ((dl.one k hk).2.2 a hak)).ok
  have hrow : ∀ k ∈ l.1, Wf k ∧ k.dep < 55 ∧ ∀ s ∈ k.ats, sOk s := fun k hk => by
    have m1 : k ∈ l.all := List.mem_append_left _ hk
    exact ⟨sm.wf k m1, sm.dep k m1, fun s hs => sat s (List.mem_flatMap.mpr ⟨k, m1, hs⟩)⟩
  have hgoal : ∀ s ∈ l.2.ats, sOk s := fun s hs => sat s (List.mem_flatMap.mpr ⟨l.2, by simp [Line.all], hs⟩)
  obtain ⟨b, hb⟩ : ∃ b, ∀ s, l.2 = .at s → cmpF .Eq (.tup (l.1.map Kd.d)) (.tup [.str s]) = some b := by
    cases hg : l.2 with
    | op c x y => exact ⟨true, fun s hs => nomatch hs⟩
    | «at» t =>
      refine ⟨PySem.PyData.eqvAll (D.pds (l.1.map Kd.d)) [.str t], fun s hs => ?_⟩
      injection hs with e
      subst e
      exact eq_row l.1 t hrow (hgoal t (by rw [hg]; simp [Kd.ats]))
  have c5 := e_last_steps l sm.ok sm.wf sm.pos b hb 109 (by omega)
  have lcodes : (codes l).length ≤ 100000 := by
    unfold codes
    have q1 := gCodes_len l.1.length l.2.sg sm.pos
    have q2 := pUpTo_len l l.1.length (Nat.le_refl _)
    have q3 : l.1.length * l.1.length ≤ 90 * 90 := Nat.mul_le_mul sm.len sm.len
    rw [List.length_append]
    show _ + (pUpTo l l.1.length).length ≤ _
    have := sm.len
    omega
  have eas : axs l b ++ (codes l).map (stepD l) = ((if (match l.2 with | .at _ => b | .op _ _ _ => false) then [none] else []) ++ (codes l).map some).map (fun oc : Option Code => match oc with | none => axD | some c => stepD l c) := by
    unfold axs
    cases l.2 with
    | «at» s => cases b <;> simp
    | op c x y => simp
  rw [eas] at c5
  have ft : ((if (match l.2 with | .at _ => b | .op _ _ _ => false) then [none] else []) ++ (codes l).map some).flatMap (fun oc : Option Code => match oc with | none => [] | some c => [stepD l c]) = (codes l).map (stepD l) := by
    rw [List.flatMap_append]
    have e1 : ((if (match l.2 with | .at _ => b | .op _ _ _ => false) then [none] else []) : List (Option Code)).flatMap (fun oc : Option Code => match oc with | none => [] | some c => [stepD l c]) = [] := by
      cases l.2 with
      | «at» s => cases b <;> rfl
      | op c x y => rfl
    rw [e1, List.nil_append, List.flatMap_map]
    exact flat_one
  have memas : ∀ oc ∈ ((if (match l.2 with | .at _ => b | .op _ _ _ => false) then [none] else []) ++ (codes l).map some : List (Option Code)), oc = none ∨ ∃ c ∈ codes l, oc = some c := fun oc ho => by
    rcases List.mem_append.mp ho with ho | ho
    · left
      cases hl2 : l.2 with
      | «at» s =>
        rw [hl2] at ho
        cases b with
        | true => exact List.mem_singleton.mp ho
        | false => cases ho
      | op c x y =>
        rw [hl2] at ho
        cases ho
    · obtain ⟨c, hc, rfl⟩ := List.mem_map.mp ho
      exact .inr ⟨c, hc, rfl⟩
  generalize ((if (match l.2 with | .at _ => b | .op _ _ _ => false) then [none] else []) ++ (codes l).map some : List (Option Code)) = as at c5 ft memas
  refine run_cons (fun ρ => ρ = [.d scr, .own o3, .d (.lst (nms.map D.str)), .d l.d, .d (.lst (l.ats.map D.str)), .d (.lst ((codes l).map (stepD l))), .no, .no, .no, .no, .no, .no, .no, .no]) ?_ fun ρ e => ?_
  · simp -implicitDefEqProofs [call_p1 c5]
    refine run_mapL (g := fun oc : Option Code => match oc with | none => [] | some c => [stepD l c]) (fun oc ho => ?_) ?_
    · rcases memas oc ho with rfl | ⟨c, hc, rfl⟩
      · simp -implicitDefEqProofs [axD, stD]
      · have na := codes_na hc
        simp -implicitDefEqProofs [stepD, stD, na]
    · rw [ft]
      have l1 : (codes l).length ≤ sizeLine := Nat.le_trans lcodes (by decide)
      simp -implicitDefEqProofs [l1]
  subst e
  have lats : l.ats.length = l.sz := flat_len l.all
  have lsz := dl.sz
  have c6 := e_with_atoms l sm.ok 109 (by omega)
  have c7 := e_marked l sm 109 (by omega)
  rw [← lats, ← List.range_eq_range'] at c6
  have rg6 := rng1 (n := l.ats.length) (by omega)
  refine run_cons (fun ρ => ρ = [.d scr, .own o3, .d (.lst (nms.map D.str)), .d l.d, .d (.lst (l.ats.map D.str)), .d (.lst ((codes l).map (stepD l))), .d (.lst ((codes l).map (stepD (ml l)))), .no, .no, .no, .no, .no, .no, .no]) ?_ fun ρ e => ?_
  · simp -implicitDefEqProofs [rg6]
    refine run_map1 (h := lbD) (fun p hp => ?_) ?_
    · have hp' : p < l.ats.length := by simpa using hp
      simp -implicitDefEqProofs [str_num (i := p) (by omega), lbD, lab]
    · have l1 : l.ats.length ≤ sizeLine := by omega
      simp -implicitDefEqProofs [l1, call_p2 c6, call_p1 c7]
  subst e
  obtain ⟨r8, o8, ⟨⟨ch, rfl, ch1, ch2⟩, p8⟩, c8⟩ := e_chosen (pl3 pa' pb' 0) 0 ⟨_, _, _, rfl, hb1', hb2', by omega, by omega⟩ (by omega) (codes l).length lcodes 109 (by omega)
  refine run_cons (fun ρ => ρ = [.d scr, .own o3, .d (.lst (nms.map D.str)), .d l.d, .d (.lst (l.ats.map D.str)), .d (.lst ((codes l).map (stepD l))), .d (.lst ((codes l).map (stepD (ml l)))), .d (.lst (ch.map fun (k : Nat) => D.int k)), .no, .no, .no, .no, .no, .no]) (by
    unfold pl3 at c8
    simp -implicitDefEqProofs [call_n2 c0', call_w1 c8]) fun ρ e => ?_
  subst e
  refine run_cons (fun ρ => ∃ s8 s10 s12, ρ = [.d scr, .own o3, .d (.lst (nms.map D.str)), .d l.d, .d (.lst (l.ats.map D.str)), .d (.lst ((codes l).map (stepD l))), .d (.lst ((codes l).map (stepD (ml l)))), .d (.lst (ch.map fun (k : Nat) => D.int k)), s8, .no, s10, .no, s12, .no]) ?_ fun ρ ⟨s8, s10, s12, e⟩ => ?_
  · have a1 := e_sequent_atoms l sm.ok 109 (by omega)
    have a2 := e_is_atoms l.ats (by omega) 109 (by omega)
    have a3 := e_letter_row l sm.ok sm.wf 109 (by omega)
    have a4 := e_law_letter_row l sm.ok 109 (by omega)
    have a5 := e_is_row ((letRow l).map lD) ((letRow l).map lD) rfl (by rw [List.length_map]; exact letRow_len l sm.ok) 109 (by omega) fun i hi hi' => by
      simp only [List.getElem_map]
      exact e_is_places [((letRow l)[i]'(by simpa using hi)).1, ((letRow l)[i]'(by simpa using hi)).2] _ (.inl rfl) (by simp) 108 (by omega)
    have rg2 : rngF [.int 2] = some ((List.range 2).map fun (k : Nat) => D.int k) := rng1 (n := 2) (by omega)
    simp -implicitDefEqProofs [rg2]
    refine run_forE (fun i ρ => ∃ s8 s10 s12, Fre s8 ∧ Fre s10 ∧ Fre s12 ∧ ρ = [.d scr, .own o3, .d (.lst (nms.map D.str)), .d l.d, .d (.lst (l.ats.map D.str)), .d (.lst ((codes l).map (stepD l))), .d (.lst ((codes l).map (stepD (ml l)))), .d (.lst (ch.map fun (k : Nat) => D.int k)), s8, .no, s10, .no, s12, .no])
      ⟨.no, .no, .no, .no, .no, .no, rfl⟩ (fun i hi ρ ⟨s8, s10, s12, f8, f10, f12, e⟩ => ?_) fun ρ ⟨s8, s10, s12, f8, f10, f12, e⟩ => ?_
    · subst e
      have hi' : i < 2 := by simpa using hi
      rw [get_of (x := .int (i : Nat)) (by rw [List.getElem?_map, List.getElem?_range hi']; rfl)]
      refine ⟨_, bindT_fre f8 rfl, ?_⟩
      simp -implicitDefEqProofs [call_p1 a1, call_p2 a2, call_p1 a3, call_p1 a4, call_p2 a5]
      refine run_for (fun j ρ => ∃ s10 s12, Fre s10 ∧ Fre s12 ∧ ρ = [.d scr, .own o3, .d (.lst (nms.map D.str)), .d l.d, .d (.lst (l.ats.map D.str)), .d (.lst ((codes l).map (stepD l))), .d (.lst ((codes l).map (stepD (ml l)))), .d (.lst (ch.map fun (k : Nat) => D.int k)), .d (.int (i : Nat)), .no, s10, .no, s12, .no])
        ⟨s10, s12, f10, f12, rfl⟩ (fun j hj ρ ⟨s10, s12, f10, f12, e⟩ => ?_) fun ρ ⟨s10, s12, f10, f12, e⟩ => ?_
      · subst e
        have hj' : j < ch.length := by simpa using hj
        rw [get_of (x := .int ((ch[j] : Nat) : Int)) (by rw [List.getElem?_map, List.getElem?_eq_getElem hj']; rfl)]
        have hk : ch[j] < (codes l).length := ch2 _ (List.getElem_mem hj')
        generalize ch[j] = k at hk
        obtain ⟨parts, S, b1, b2, b3⟩ := e_part sm (List.getElem_mem hk)
        have t1 := atI_map (f := stepD l) (List.getElem?_eq_getElem hk)
        have t2 := atI_map (f := stepD (ml l)) (List.getElem?_eq_getElem hk)
        generalize (codes l)[k] = c at S b1 b2 t1 t2
        have t3 : ixF (stepD (ml l) c) (.int 3) = some (.d (.tup ((partsOf (ml l) c).map Line.d))) := by
          unfold stepD stD
          simp
        refine ⟨_, bindT_fre f10 rfl, ?_⟩
        simp -implicitDefEqProofs [t2, t3]
        refine run_map1 (h := fun q : Line => D.lst (q.ats.map un)) (fun q hq => ?_) ?_
        · simp -implicitDefEqProofs [call_p1 (b1 q hq)]
        · rw [b2]
          have l1 : parts.length ≤ sizeLine := by have := S.few; omega
          simp -implicitDefEqProofs [-List.map_flatten, l1, f12.bo, t1, call_p2 S.pl, call_p2 b3]
          first
            | exact ⟨Fre.d, Fre.d⟩
            | exact ⟨_, Fre.d, _, Fre.d, rfl, rfl⟩
      · subst e
        simp -implicitDefEqProofs
        exact ⟨_, Fre.d, _, f10, _, f12, rfl, rfl, rfl⟩
    · subst e
      simp -implicitDefEqProofs
  subst e
  -- the last look
  obtain ⟨nm, nms', rfl⟩ : ∃ a t, nms = a :: t := by
    cases nms with
    | nil => simp at n1
    | cons a t => exact ⟨a, t, rfl⟩
  have c9 := e_pp_axiom ([.at nm], .at nm) ⟨by simp [Line.all], by simp [Line.sz, Line.all, Kd.sz], fun k hk => by
    simp [Line.all] at hk
    rw [hk]
    show 0 < 60
    omega⟩ (n := 109) (by omega) (at_ := 0) (w := 0) (x := .tup [])
  have c9' : Pure (cl 109) "part_places" [.tup [.tup [.str nm], .str nm], .tup [.str "axiom", .int 0, .int 0, .tup []]] (.tup []) := c9
  simp -implicitDefEqProofs [call_p2 c9']
end Tab

set_option maxHeartbeats 0
namespace Tab
open PySem PySem.Spec PyProof.Rows L2 Fw
theorem plain : ∀ ns : List Int, ns.length ≤ 63 → ∃ bs, callN (tabOf dfs) (fun x => gs.lookup x) wf (fun x => ks.lookup x) 110 "law" [.fr (.rd (ns.map D.int))] = some (.d (.bl true), bs) := fun ns _ => (e_law ns).elim fun bs h => ⟨bs, h.1⟩
def nm0 : List PySem.Str := ["WAYS", "size_of", "atoms_of", "sequent_atoms", "place_rows", "split_row", "goal_part_rows", "premise_part_rows", "part_places", "push_letters_at", "letter_row", "_law_cell", "_law_mix", "_law_pool", "_law_draw", "_law_any_atom", "_law_size", "_law_atoms", "_law_all_atoms", "_law_kind", "_law_line_of", "_law_premise_steps", "_law_last_steps", "_law_put", "_law_with_atoms", "_law_opposite", "_law_letters", "_law_letter_row", "_law_is_integer", "_law_is_places"]
def nm1 : List PySem.Str := ["_law_drawn", "_law_chosen", "_law_is_row", "_law_is_atoms", "_law_read"]
def names : List PySem.Str := nm0 ++ nm1
abbrev R : PySem.W.OpenRow := PySem.W.OpenLaw.row PySem.Challenge.rw_fractionwords_k72_places_and_letters
abbrev hk : PySem.W.Hook := hkOf dfs gs ks
def ob (s : PySem.W.SharedT) : He.AlX := He.obsX 4 (faOf dfs) (fnOf dfs) (tsOf ks) [] (exB gs ks) (HandSHeadRun.getT s)
theorem ob_eq (s : PySem.W.SharedT) : ob s = hk.obs s.abs := He.obsX_eq (HandSHeadRun.getT_eq s)
theorem run (w : World) : HandSHeadRun.RunEq R (PySem.W.view R.prog [38]) hk ob 3000 names w :=
  PySem.W.byRow2 "special-get-raises" (P := fun w => HandSHeadRun.RunEq R (PySem.W.view R.prog [38]) hk ob 3000 names w) (fun w os => by kernel_rfl) (fun w os => by kernel_rfl) w
end Tab

open PySem PySem.W PySem.Calls PyProof.Rows
theorem PySem.Challenge.cw_fractionwords_k72_places_and_letters_holds : PySem.Challenge.rw_fractionwords_k72_places_and_letters.Holds := by
  w_on; o_law
  refine HandSHeadRun.head_any (r := OpenLaw.row PySem.Challenge.rw_fractionwords_k72_places_and_letters) (q := view (OpenLaw.row PySem.Challenge.rw_fractionwords_k72_places_and_letters).prog [38]) (H := Tab.hk) (ob := Tab.ob) (M := 3000) (loose := Tab.names) (d := HandSHeadRun.topDef (OpenLaw.row PySem.Challenge.rw_fractionwords_k72_places_and_letters).prog 38) (kwd := []) Tab.ob_eq
    (by kernel_rfl) (fun s => by kernel_rfl) Tab.run (by kernel_rfl) (by kernel_rfl) (by kernel_rfl) (by rfl) (by first | assumption | decide +kernel) (by decide +kernel) ⟨rfl, rfl, rfl, rfl, rfl, by decide +kernel⟩ ?hw ?hc
  case hw => w_witness2
  case hc => exact Fw.law_by (l := PySem.Challenge.rw_fractionwords_k72_places_and_letters) (ds := Tab.dfs) (gs := Tab.gs) (ks := Tab.ks) (n := 110) (m := 63) (dl := Tab.dfs.getLast (by decide)) (wf := Tab.wf) rfl (by decide) (by kernel_rfl) ⟨rfl, by decide, by decide⟩ (by kernel_rfl) Tab.tabOk (List.getLast_mem _) rfl rfl Tab.plain

