import PyProof.Rows.All
import Wide.All
import OpenK.AllK
import Wide.FinOn
import HandS.ForMost
import KE.KDictKeyed
import KE.KeyNested
import KE.KDictWalk
import HandS.TupMul
import HandS.TupAny
import HandS.Style
import HandS.Deep
import HandS.IsInst
import KE.SortKeyHeap
import HandS.Conv
import HandS.Text
import HandS.Rev
import HandS.Zip
import HandS.More
import KE.KDictSum
import KE.KDictCopyH
import HandS.SortKw
import HandS.Iter
import PyProof.Rows.TupIter
import HandS.Defaults
import HandS.Ends
import HandS.HeadEnd
import HandS.Head0
import HandS.Head1
import HandS.Head2
import HandS.HeadHook1
import HandS.HeadHook2
import HandS.HeadHook3
import HandS.HeadHook4
import KE.KStateDown
import PySem.Challenge.RW_fractionwords_k88_whole_moves_keep_holdi
set_option Elab.async false
set_option linter.all false
set_option maxRecDepth 100000
set_option maxHeartbeats 4000000
/-! FwA: dicts whose keys are tuples of ints, nested; by the hidden thing HO.ext. -/
namespace Fw
open PySem PySem.Spec PyProof.Rows L2
abbrev St := L2.St
mutual
/-- no text in a key: its hash is every world's -/
def tfK : NestedKey → Bool
  | .none => true
  | .num _ => true
  | .text _ => false
  | .tup ks => tfKs ks
def tfKs : List NestedKey → Bool
  | [] => true
  | k :: ks => tfK k && tfKs ks
end
mutual
theorem hash_tf (w w' : World) : ∀ k : NestedKey, tfK k = true → k.hash w = k.hash w'
  | .none, _ => rfl
  | .num _, _ => rfl
  | .text _, h => by simp [tfK] at h
  | .tup ks, h => by
    simp only [NestedKey.hash]
    rw [hashes_tf w w' ks (by simpa [tfK] using h)]
theorem hashes_tf (w w' : World) : ∀ ks : List NestedKey, tfKs ks = true → NestedKey.hashes w ks = NestedKey.hashes w' ks
  | [], _ => rfl
  | k :: ks, h => by
    simp only [tfKs, Bool.and_eq_true] at h
    simp only [NestedKey.hashes]
    rw [hash_tf w w' k h.1, hashes_tf w w' ks h.2]
end
abbrev TX := List (NestedKey × Addr × V)
abbrev TXv := List (NestedKey × Addr × Value)
def tEn (w : World) (x : NestedKey × Addr × Value) : DictEntry := ⟨x.1.hash w, .ref x.2.1, x.2.2⟩
abbrev TXR : TX → TXv → Prop := Paired fun p q => p.1 = q.1 ∧ p.2.1 = q.2.1 ∧ RelV p.2.2 q.2.2
/-- the object at a is a dict of these entries -/
def tdP (a : Addr) (xs : TX) : Heap → Prop := fun h => xs.length ≤ sizeLine ∧ (a == sysModules) = false ∧ (∀ x ∈ xs, tfK x.1 = true ∧ x.1.depth ≤ 8) ∧ ∃ vs : TXv, TXR xs vs ∧ (vs.map (·.1)).Nodup ∧
  ∃ o es ep, h.get? a = some o ∧ o.ExactDict ∧ o.data = .dict es ep ∧ ∀ w, es.toList = vs.map (tEn w)
def tdO (a : Addr) (xs : TX) : HO := .ext (tdP a xs)
theorem tdP_stay {a : Addr} {xs : TX} : ∀ h1 h2 : Heap, tdP a xs h1 → (∀ o, h1.get? a = some o → h2.get? a = some o) → tdP a xs h2 := fun h1 h2 ⟨z, d, tf, vs, r, nd, o, es, ep, e, c⟩ k => ⟨z, d, tf, vs, r, nd, o, es, ep, k _ e, c⟩
theorem tdP_ok {P : Program} {w : World} {H : Hp} {h : Heap} {a : Addr} {xs : TX} (t : tdP a xs h) : ObjOk P w H h a (tdO a xs) := by
  obtain ⟨z, d, tf, vs, r, nd, o, es, ep, e, c⟩ := id t
  exact ⟨t, ⟨o, e⟩, tdP_stay⟩
theorem tdP_of {P : Program} {w : World} {H : Hp} {h : Heap} {a b : Addr} {xs : TX} (ok : HOk P w H h) (e : Rd H b (tdO a xs)) : tdP a xs h := (e.ok ok).1
/-- what is stored at the key -/
def tVal (xs : TX) (k : NestedKey) : Option V := (xs.find? fun x => decide (x.1 = k)).map (·.2.2)
def tPut (xs : TX) (k : NestedKey) (b : Addr) (v : V) : TX := if (tVal xs k).isSome then xs.map (fun x => if x.1 = k then (x.1, x.2.1, v) else x) else xs ++ [(k, b, v)]
theorem TXR.val {xs : TX} {vs : TXv} (r : TXR xs vs) (k : NestedKey) : RelO (tVal xs k) ((atKey vs k).map (·.2)) := by
  induction r with
  | nil => exact True.intro
  | @cons p q l l' h t ih =>
    unfold tVal atKey at *
    rw [List.find?_cons, List.find?_cons, ← h.1]
    by_cases e : p.1 = k
    · simp only [e, decide_true, Option.map_some]
      exact h.2.2
    · simp only [e, decide_false]
      exact ih
theorem TXR.put {xs : TX} {vs : TXv} (r : TXR xs vs) (k : NestedKey) {b : Addr} {v : V} {u : Value} (rv : RelV v u) : TXR (tPut xs k b v) (storedH vs k b u) := by
  have e : (tVal xs k).isSome = (atKey vs k).isSome := by
    have q := (r.val k).isSome_eq
    rw [Option.isSome_map] at q
    exact q
  unfold tPut storedH
  rw [e]
  split
  · clear e
    induction r with
    | nil => exact .nil
    | @cons p q l l' h t ih =>
      rename_i hs
      rw [List.map_cons, List.map_cons]
      have ih' : TXR (l.map fun x => if x.1 = k then (x.1, x.2.1, v) else x) (l'.map (putAt k u)) := by
        clear ih hs
        induction t with
        | nil => exact .nil
        | @cons p' q' m m' h' t' ih' =>
          rw [List.map_cons, List.map_cons]
          refine .cons ?_ ih'
          unfold putAt
          rw [← h'.1]
          by_cases e : p'.1 = k
          · rw [if_pos e, if_pos e]; exact ⟨rfl, h'.2.1, rv⟩
          · rw [if_neg e, if_neg e]; exact h'
      refine .cons ?_ ih'
      unfold putAt
      rw [← h.1]
      by_cases e : p.1 = k
      · rw [if_pos e, if_pos e]; exact ⟨rfl, h.2.1, rv⟩
      · rw [if_neg e, if_neg e]; exact h
  · refine Vals_app r ?_
    exact .cons ⟨rfl, rfl, rv⟩ .nil
where
  Vals_app : ∀ {a c : TX} {b d : TXv}, TXR a b → TXR c d → TXR (a ++ c) (b ++ d)
    | _, _, _, _, .nil, s => s
    | _, _, _, _, .cons h t, s => .cons h (Vals_app t s)
theorem TXR.length {xs : TX} {vs : TXv} (r : TXR xs vs) : xs.length = vs.length := Paired.length r
theorem TXR.get {xs : TX} {vs : TXv} (r : TXR xs vs) {i : Nat} {x : NestedKey × Addr × V} (e : xs[i]? = some x) : ∃ u, vs[i]? = some (x.1, x.2.1, u) ∧ RelV x.2.2 u := by
  obtain ⟨y, h1, h2, h3, h4⟩ := paired_get r e
  refine ⟨y.2.2, ?_, h4⟩
  rw [h1, h2, h3]
theorem TXR.memV {xs : TX} {vs : TXv} (r : TXR xs vs) {y : NestedKey × Addr × Value} (hy : y ∈ vs) : ∃ x ∈ xs, x.1 = y.1 ∧ x.2.1 = y.2.1 := by
  induction r with
  | nil => cases hy
  | @cons p q l l' h t ih =>
    rcases List.mem_cons.mp hy with rfl | hy
    · exact ⟨p, List.mem_cons_self, h.1, h.2.1⟩
    · obtain ⟨x, h1, h2⟩ := ih hy
      exact ⟨x, List.mem_cons_of_mem _ h1, h2⟩
theorem tPut_len (xs : TX) (k : NestedKey) (b : Addr) (v : V) : (tPut xs k b v).length ≤ xs.length + 1 := by
  unfold tPut
  split <;> simp
theorem tPut_mem {xs : TX} {k : NestedKey} {b : Addr} {v : V} {x : NestedKey × Addr × V} (h : x ∈ tPut xs k b v) : (∃ y ∈ xs, y.1 = x.1 ∧ y.2.1 = x.2.1) ∨ (x.1 = k ∧ x.2.1 = b) := by
  unfold tPut at h
  split at h
  · obtain ⟨y, hy, e⟩ := List.mem_map.mp h
    refine .inl ⟨y, hy, ?_⟩
    split at e <;> (subst e; exact ⟨rfl, rfl⟩)
  · rcases List.mem_append.mp h with h | h
    · exact .inl ⟨x, h, rfl, rfl⟩
    · rw [List.mem_singleton] at h; subst h; exact .inr ⟨rfl, rfl⟩
/-- the value at b is the key k -/
abbrev KeyAt (P : Program) (w : World) (h : Heap) (k : NestedKey) (b : Addr) : Prop := (nestedKind P w).is h k b
section
variable {P : Program} {w : World} {h : Heap} {a : Addr} {xs : TX}
theorem tdP_H (t : tdP a xs h) (ks : ∀ x ∈ xs, KeyAt P w h x.1 x.2.1) : ∃ vs, TXR xs vs ∧ h.DictOfH (nestedKind P w) a vs := by
  obtain ⟨z, d, tf, vs, r, nd, o, es, ep, e, ex, dd, en⟩ := t
  refine ⟨vs, r, o, es, ep, e, ex, dd, en w, fun y hy => ?_, nd⟩
  obtain ⟨x, hx, e1, e2⟩ := r.memV hy
  rw [← e1, ← e2]
  exact ks x hx
theorem tdP_new {vs : TXv} (z : xs.length ≤ sizeLine) (d : (a == sysModules) = false) (tf : ∀ x ∈ xs, tfK x.1 = true ∧ x.1.depth ≤ 8) (r : TXR xs vs) (dd : h.DictOfH (nestedKind P w) a vs) : tdP a xs h := by
  obtain ⟨o, es, ep, e, ex, dt, en, _, nd⟩ := dd
  refine ⟨z, d, tf, vs, r, nd, o, es, ep, e, ex, dt, fun w' => ?_⟩
  rw [en]
  refine List.map_congr_left fun y hy => ?_
  obtain ⟨x, hx, e1, _⟩ := r.memV hy
  show (⟨y.1.hash w, .ref y.2.1, y.2.2⟩ : DictEntry) = ⟨y.1.hash w', .ref y.2.1, y.2.2⟩
  rw [hash_tf w w' y.1 (by rw [← e1]; exact (tf x hx).1)]
/-- an empty dict -/
theorem tdP_empty {kvs : List (Key × V)} {H : Hp} (x : ObjOk P w H h a (.dK kvs)) (e : kvs = []) : tdP a [] h := by
  subst e
  obtain ⟨z, d, vs, r, o, es, ep, e, ex, dd, m⟩ := x
  have : vs = [] := by cases r; rfl
  subst this
  have es0 : es = #[] := by
    have l := m.2.1.length
    simpa using l
  exact ⟨Nat.zero_le _, d, fun x hx => (by cases hx), [], .nil, List.nodup_nil, o, es, ep, e, ex, dd, fun w => by rw [es0]; rfl⟩
end

section
variable {X : Cx} {pins : List (Addr × Obj)} {σ : St} {H : Hp} {s : Shared} {a b : Addr} {k : NestedKey} {A : Around} {E : Value → Shared → Prop} {xs : TX}
theorem td_getItem {v : V} {Q : Value → Shared → Prop} (hu : A.units + 16 < cLine) (I : Inv X pins σ H s) (t : tdP a xs s.heap) (ks : ∀ x ∈ xs, KeyAt X.prog X.w s.heap x.1 x.2.1) (hk : KeyAt X.prog X.w s.heap k b) (g : tVal xs k = some v)
    (q : ∀ w' s', Inv X pins σ H s' → RelV v w' → Q w' s') : wpAny (model X.prog X.w) A (getItem (.ref a) (.ref b)) Q E s := by
  obtain ⟨vs, r, dd⟩ := tdP_H t ks
  obtain ⟨w', hw, rw'⟩ := RelO.some_of (v := v) (o := (atKey vs k).map (·.2)) (by rw [← g]; exact r.val k)
  obtain ⟨p, hp, hp2⟩ := Option.map_eq_some_iff.mp hw
  refine wpAny_getItem_heap (show A.in1.units + 8 < cLine by rw [Around.in1_units]; omega) hk dd hp ?_
  rw [hp2]
  exact q w' _ (I.tok _) rw'
theorem td_in {Q : Value → Shared → Prop} (hu : A.units + 16 < cLine) (I : Inv X pins σ H s) (t : tdP a xs s.heap) (ks : ∀ x ∈ xs, KeyAt X.prog X.w s.heap x.1 x.2.1) (hk : KeyAt X.prog X.w s.heap k b)
    (q : ∀ s', Inv X pins σ H s' → Q (.bool (tVal xs k).isSome) s') : wpAny (model X.prog X.w) A (compareOp .In (.ref b) (.ref a)) Q E s := by
  obtain ⟨vs, r, dd⟩ := tdP_H t ks
  refine wpAny_in_heap (show A.in1.units + 8 < cLine by rw [Around.in1_units]; omega) hk t.2.1 dd ?_
  have e := (r.val k).isSome_eq
  rw [Option.isSome_map] at e
  rw [← e]
  exact q _ (I.tok _)
theorem td_notIn {Q : Value → Shared → Prop} (hu : A.units + 16 < cLine) (I : Inv X pins σ H s) (t : tdP a xs s.heap) (ks : ∀ x ∈ xs, KeyAt X.prog X.w s.heap x.1 x.2.1) (hk : KeyAt X.prog X.w s.heap k b)
    (q : ∀ s', Inv X pins σ H s' → Q (.bool (!(tVal xs k).isSome)) s') : wpAny (model X.prog X.w) A (compareOp .NotIn (.ref b) (.ref a)) Q E s := by
  obtain ⟨vs, r, dd⟩ := tdP_H t ks
  refine wpAny_notIn_heap (show A.in1.units + 8 < cLine by rw [Around.in1_units]; omega) hk t.2.1 dd ?_
  have e := (r.val k).isSome_eq
  rw [Option.isSome_map] at e
  rw [← e]
  exact q _ (I.tok _)
theorem td_setItem {v : V} {u : Value} {Q : Unit → Shared → Prop} (hu : A.units + 16 < cLine) (I : Inv X pins σ H s) (mu : Mut (H a)) (t : tdP a xs s.heap) (ks : ∀ x ∈ xs, KeyAt X.prog X.w s.heap x.1 x.2.1) (hk : KeyAt X.prog X.w s.heap k b) (tk : tfK k = true) (rv : RelV v u)
    (hz : xs.length < sizeLine) (q : ∀ s', Inv X pins σ (upd H a (tdO a (tPut xs k b v))) s' → Q () s') : wpAny (model X.prog X.w) A (setItem (.ref a) (.ref b) u) Q E s := by
  obtain ⟨vs, r, dd⟩ := tdP_H t ks
  have hl : vs.length ≤ sizeLine := by rw [← r.length]; omega
  refine wpAny_setItem_heap (hsz := hl) (show A.in1.units + 8 < cLine by rw [Around.in1_units]; omega) hk dd fun h' dd' hs => q _ ?_
  have he : ∃ o, h'.get? a = some o := let ⟨o, _, _, hq, _⟩ := dd'; ⟨o, hq⟩
  have hl2 : (tPut xs k b v).length ≤ sizeLine := by have := tPut_len xs k b v; omega
  refine d_write I mu hs he (tdP_ok (tdP_new hl2 t.2.1 (fun x hx => ?_) (r.put k rv) dd'))
  rcases tPut_mem hx with ⟨y, hy, e, _⟩ | ⟨e, _⟩
  · rw [← e]; exact t.2.2.1 y hy
  · rw [e]; exact ⟨tk, hk.2⟩
theorem td_get1 {Q : Value → Shared → Prop} (hu : A.units + 16 < cLine) (I : Inv X pins σ H s) (t : tdP a xs s.heap) (ks : ∀ x ∈ xs, KeyAt X.prog X.w s.heap x.1 x.2.1) (hk : KeyAt X.prog X.w s.heap k b)
    (q : ∀ w' s', Inv X pins σ H s' → RelV ((tVal xs k).getD .non) w' → Q w' s') : wpAny (model X.prog X.w) A (call (.builtin "dict.get") [.ref a, .ref b]) Q E s := by
  obtain ⟨vs, r, dd⟩ := tdP_H t ks
  refine get_keyed (knd := nestedKind X.prog X.w) (k := k) (show A.in1.units + 8 < cLine by rw [Around.in1_units]; omega) hk t.2.1 ⟨vs, dd, rfl⟩ ?_
  rw [valueAt_pairsH]
  exact q _ _ (I.tok _) (RelO.getD (d := .non) (d' := .none) (r.val k) rfl)
theorem td_get2 {d : V} {du : Value} {Q : Value → Shared → Prop} (hu : A.units + 16 < cLine) (I : Inv X pins σ H s) (t : tdP a xs s.heap) (ks : ∀ x ∈ xs, KeyAt X.prog X.w s.heap x.1 x.2.1) (hk : KeyAt X.prog X.w s.heap k b) (rd : RelV d du)
    (q : ∀ w' s', Inv X pins σ H s' → RelV ((tVal xs k).getD d) w' → Q w' s') : wpAny (model X.prog X.w) A (call (.builtin "dict.get") [.ref a, .ref b, du]) Q E s := by
  obtain ⟨vs, r, dd⟩ := tdP_H t ks
  refine getOr_keyed (knd := nestedKind X.prog X.w) (k := k) (show A.in1.units + 8 < cLine by rw [Around.in1_units]; omega) hk t.2.1 ⟨vs, dd, rfl⟩ ?_
  rw [valueAt_pairsH]
  exact q _ _ (I.tok _) (RelO.getD (r.val k) rd)
theorem td_typeIs (t : tdP a xs s.heap) : s.TypeIs (.ref a) "dict" := by
  obtain ⟨z, d, tf, vs, r, nd, o, es, ep, e, ex, _⟩ := t
  exact ⟨o, e, ex.1⟩
theorem td_noDict (t : tdP a xs s.heap) : ∀ b, Value.ref a = .ref b → ∃ ob, s.heap.get? b = some ob ∧ ob.dict = none := fun b q => by
  cases q
  obtain ⟨z, d, tf, vs, r, nd, o, es, ep, e, ex, _⟩ := t
  exact ⟨o, e, ex.2.1⟩
theorem td_len {Q : Value → Shared → Prop} (I : Inv X pins σ H s) (t : tdP a xs s.heap) (ks : ∀ x ∈ xs, KeyAt X.prog X.w s.heap x.1 x.2.1) (q : ∀ t s', Inv X pins σ H s' → Q (.int xs.length t) s') : wpAny (model X.prog X.w) A (call (.builtin "len") [.ref a]) Q E s := by
  obtain ⟨vs, r, dd⟩ := tdP_H t ks
  have hz := t.1
  refine PyProof.Rows.call_len_slot (n := (pairsH vs).length) dd.typeIs F.slot_dict_len (fun Q' hq => len_keyed t.2.1 ⟨vs, dd, rfl⟩ hq) (by omega) (by rw [pairsH_length, ← r.length]; rw [sizeLine_eq] at hz; omega) ?_
  rw [pairsH_length, ← r.length]
  exact q _ _ (I.tok _)
end
end Fw

set_option maxHeartbeats 4000000
/-! FwB: a tuple times any int. -/
namespace Fw
open PySem PySem.Spec PyProof.Rows L2
theorem tupMul_same (l : Addr) (items : Array Value) (n : Nat) (dd : Option Addr) (sl : Array (Option Value)) (x : Int) (u : Tok) (c0 : (decide (x < -(2 ^ 63)) || decide (x ≥ 2 ^ 63)) = false) (c1 : (items.isEmpty || x == 1) = true) :
    Meets (Builtin.«tuple.__mul__» ⟨[.ref l, .int x u], []⟩) (fun _ R s => s.heap.get? l = some { cls := .type "tuple", dict := dd, data := .seq items n, slots := sl } ∧ R (.ok (.ret (Value.ref l))) s) :=
  .of_wp fun prog w A R s h => by
    obtain ⟨hp, g, d, tk, os⟩ := s
    obtain ⟨hl, h⟩ := h
    have f1 := AutoSeq1.idx_int
    have ht : Shared.TypeIs { heap := hp, gens := g, drawn := d, toks := tk, os := os } (.ref l) "tuple" := ⟨_, hl, rfl⟩
    wp_walk using wpAny_loadPart' hl
    repeat (first
      | (refine wpAny_ite_false (decide_eq_false (by rw [c0]; exact Bool.false_ne_true)) ?_; wp_walk using wpAny_loadPart' hl)
      | (refine wpAny_ite_true (decide_eq_true (by rw [c1])) ?_; wp_walk using wpAny_loadPart' hl))
    exact ⟨_, rfl, h⟩
theorem tupMul_none (l : Addr) (items : Array Value) (n : Nat) (dd : Option Addr) (sl : Array (Option Value)) (x : Int) (u : Tok) (c0 : (decide (x < -(2 ^ 63)) || decide (x ≥ 2 ^ 63)) = false) (c1 : (items.isEmpty || x == 1) = false) (c2 : (decide (x ≤ 0) || items.isEmpty) = true) :
    Meets (Builtin.«tuple.__mul__» ⟨[.ref l, .int x u], []⟩) (fun _ R s => s.heap.get? l = some { cls := .type "tuple", dict := dd, data := .seq items n, slots := sl } ∧
      R (.ok (.ret (Value.ref s.heap.objs.size))) { s with heap := s.heap.push { cls := Value.type "tuple", data := Data.seq #[] }, toks := s.toks }) :=
  .of_wp fun prog w A R s h => by
    obtain ⟨hp, g, d, tk, os⟩ := s
    obtain ⟨hl, h⟩ := h
    have f1 := AutoSeq1.idx_int
    wp_walk using wpAny_loadPart' hl
    repeat (first
      | (refine wpAny_ite_false (decide_eq_false (by rw [c0]; exact Bool.false_ne_true)) ?_; wp_walk using wpAny_loadPart' hl)
      | (refine wpAny_ite_false (decide_eq_false (by rw [c1]; exact Bool.false_ne_true)) ?_; wp_walk using wpAny_loadPart' hl)
      | (refine wpAny_ite_true (decide_eq_true (by rw [c2])) ?_; wp_walk using wpAny_loadPart' hl))
    exact ⟨_, rfl, h⟩
/-- t * k -/
def rRepA (K : PySem.W.Frag) : R2 := fun x y H Q => ∃ l k xs, x = .ref l ∧ y = .int k ∧ SqT K H l xs ∧ -1000 ≤ k ∧ k ≤ 1000 ∧ xs.length ≤ 1000 ∧ ((k = 1 ∨ xs = []) → Q (.ref l) H) ∧ ∀ p, H p = none → Q (.ref p) (upd H p (.tup (List.replicate k.toNat xs).flatten))
theorem op_repA {X : Cx} : OpR X (binaryOp .Mult) (rRepA X.K) := by
  intro pins s σ H x y v u Q I rx ry h
  obtain ⟨l, k, xs, rfl, rfl, hT, h1, h2, hz, q1, q2⟩ := h
  by_cases hne : xs ≠ [] ∧ 2 ≤ k
  · exact op_repT pins s σ H _ _ v u Q I rx ry ⟨l, k, xs, rfl, rfl, hT, hne.1, hne.2, h2, hz, q2⟩
  cases rx
  obtain ⟨t, rfl⟩ := ry
  obtain ⟨its, r, ⟨⟨cls, dd, data, sl⟩, ho, hc, n, hd⟩, hs⟩ := I.tuple hT
  simp only at hc hd
  subst hc hd
  have c0 : (decide (k < -(2 ^ 63)) || decide (k ≥ 2 ^ 63)) = false := by
    rw [decide_eq_false (by omega), decide_eq_false (by omega)] <;> rfl
  have go : ∀ {R : Result → Shared → Prop}, Meets (Builtin.«tuple.__mul__» ⟨[.ref l, .int k t], []⟩) (fun _ R s => s.heap.get? l = some { cls := .type "tuple", dict := dd, data := .seq its.toArray n, slots := sl } ∧ R (.ok (.ret (Value.ref l))) s) → EP X pins σ Q (.ref l) s →
      wpAny (model X.prog X.w) X.A (binaryOp .Mult (.ref l) (.int k t)) (EP X pins σ Q) X.xe s := fun {R} m q =>
    wpAny_binaryOp_repeat_ref (T := "tuple") (U := "int") (by decide) ⟨_, ho, rfl⟩ (fun s' => typeIs_int s' k t) noFill_tuple_mul F.fills_int_mul F.slot_int_rmul repeat_tuple F.slot_int_index.lookup
      (call_meets F.slot_int_rmul (typeIs_int s k t) F.entry_int_rmul (F.args_int_rmul_2 _ _) (int_rmul_tuple k t l its.toArray n dd sl)
        ⟨ho, rfl, ⟨_, ho, rfl⟩, call_meets F.slot_tuple_mul ⟨_, ho, rfl⟩ F.entry_tuple_mul (F.args_tuple_mul_2 _ _) m ⟨ho, q⟩⟩)
  have hle : its.length = xs.length := r.length.symm
  by_cases h1' : k = 1 ∨ xs = []
  · refine go (R := fun _ _ => True) (tupMul_same l its.toArray n dd sl k t c0 ?_) ⟨.ref l, H, I, rfl, q1 h1'⟩
    rcases h1' with rfl | rfl
    · simp
    · have : its = [] := List.eq_nil_of_length_eq_zero (by rw [hle]; rfl)
      subst this
      rfl
  · have hx : xs ≠ [] := fun e => h1' (.inr e)
    have hk : k ≤ 0 := by
      have : ¬ (2 ≤ k) := fun z => hne ⟨hx, z⟩
      have : k ≠ 1 := fun z => h1' (.inl z)
      omega
    have hi : its.toArray.isEmpty = false := by
      cases its with
      | nil =>
        exact absurd (List.eq_nil_of_length_eq_zero hle.symm) hx
      | cons a b => rfl
    have c1 : (its.toArray.isEmpty || k == 1) = false := by
      rw [hi, Bool.false_or]
      exact beq_eq_false_iff_ne.mpr (by omega)
    have c2 : (decide (k ≤ 0) || its.toArray.isEmpty) = true := by rw [decide_eq_true hk]; rfl
    refine wpAny_binaryOp_repeat_ref (T := "tuple") (U := "int") (by decide) ⟨_, ho, rfl⟩ (fun s' => typeIs_int s' k t) noFill_tuple_mul F.fills_int_mul F.slot_int_rmul repeat_tuple F.slot_int_index.lookup
      (call_meets F.slot_int_rmul (typeIs_int s k t) F.entry_int_rmul (F.args_int_rmul_2 _ _) (int_rmul_tuple k t l its.toArray n dd sl)
        ⟨ho, rfl, ⟨_, ho, rfl⟩, call_meets F.slot_tuple_mul ⟨_, ho, rfl⟩ F.entry_tuple_mul (F.args_tuple_mul_2 _ _) (tupMul_none l its.toArray n dd sl k t c0 c1 c2) ⟨ho, ?_⟩⟩)
    have e0 : k.toNat = 0 := by omega
    have z := q2 s.heap.objs.size (I.hok.fresh (Nat.le_refl _))
    rw [e0] at z
    refine ⟨.ref s.heap.objs.size, _, I.laid (t' := s.toks) (o := .tup []) (fun b ob q => Heap.get?_push_of_some _ q) (Nat.le_refl _) ?_, rfl, z⟩
    exact ⟨Nat.zero_le _, [], .nil, IsTup.new _ _⟩
end Fw

set_option maxHeartbeats 4000000
/-! Fw1: data as trees, how a heap bears them, slots that own what they change. -/
namespace Fw
open PySem PySem.Spec PyProof.Rows L2
inductive D where
  | non | bl (b : Bool) | int (i : Int) | str (s : Str) | tup (xs : List D) | lst (xs : List D) | rd (xs : List D) | dic (ks vs : List D) | obj
def keyD : Key → D
  | .inl i => .int i
  | .inr x => .str x
mutual
/-- a tuple as a key -/
def D.nk : D → Option NestedKey
  | .non => some .none
  | .bl _ => none
  | .int i => some (.num i)
  | .str _ => none
  | .tup xs => (D.nks xs).map .tup
  | .lst _ => none
  | .rd _ => none
  | .dic _ _ => none
  | .obj => none
def D.nks : List D → Option (List NestedKey)
  | [] => some []
  | d :: ds => match d.nk, D.nks ds with
    | some k, some ks => some (k :: ks)
    | _, _ => none
end
mutual
inductive Rep (K : PySem.W.Frag) (G : Hp) : V → D → Prop
  | non : Rep K G .non .non
  | bl (b : Bool) : Rep K G (.bl b) (.bl b)
  | int (i : Int) : Rep K G (.int i) (.int i)
  | str (x : Str) : Rep K G (.str x) (.str x)
  | tup {a : Addr} {vs : List V} {ds : List D} : SqT K G a vs → RepL K G vs ds → Rep K G (.ref a) (.tup ds)
  | lst {a : Addr} {vs : List V} {ds : List D} : G a = some (.lst vs) → RepL K G vs ds → Rep K G (.ref a) (.lst ds)
  | rd {a : Addr} {vs : List V} {ds : List D} : SqL K G a vs → RepL K G vs ds → Rep K G (.ref a) (.rd ds)
  | dicS {a : Addr} {ob : Obj} {kvs : List (Key × V)} {vs : List D} : G a = some (.frz ob (.dK kvs)) → RepL K G (kvs.map fun p => p.2) vs → Rep K G (.ref a) (.dic (kvs.map fun p => keyD p.1) vs)
  | dicT {a : Addr} {ob : Obj} {xs : TX} {ks vs : List D} : G a = some (.frz ob (tdO a xs)) → RepL K G (xs.map fun x => V.ref x.2.1) ks → (ks.map D.nk = xs.map (fun x => some x.1) ∧ xs ≠ []) → RepL K G (xs.map fun x => x.2.2) vs → Rep K G (.ref a) (.dic ks vs)
  | obj (v : V) : Rep K G v .obj
inductive RepL (K : PySem.W.Frag) (G : Hp) : List V → List D → Prop
  | nil : RepL K G [] []
  | cons {v : V} {vs : List V} {d : D} {ds : List D} : Rep K G v d → RepL K G vs ds → RepL K G (v :: vs) (d :: ds)
end

section
variable {K : PySem.W.Frag} {G G' H H' : Hp}
theorem sqT_mono {a : Addr} {vs : List V} (e : Same G G') (h : SqT K G a vs) : SqT K G' a vs := by
  rcases h with (h | ⟨o, h⟩) | h
  · exact .inl (.inl (e _ _ h))
  · exact .inl (.inr ⟨o, e _ _ h⟩)
  · exact .inr h
theorem sqL_mono {a : Addr} {vs : List V} (e : Same G G') (h : SqL K G a vs) : SqL K G' a vs := e.seq h
mutual
theorem Rep.mono (e : Same G G') : ∀ {v : V} {d : D}, Rep K G v d → Rep K G' v d
  | _, _, .non => .non
  | _, _, .bl b => .bl b
  | _, _, .int i => .int i
  | _, _, .str x => .str x
  | _, _, .tup h l => .tup (sqT_mono e h) (RepL.mono e l)
  | _, _, .lst h l => .lst (e _ _ h) (RepL.mono e l)
  | _, _, .rd h l => .rd (sqL_mono e h) (RepL.mono e l)
  | _, _, .dicS h l => .dicS (e _ _ h) (RepL.mono e l)
  | _, _, .dicT h k q l => .dicT (e _ _ h) (RepL.mono e k) q (RepL.mono e l)
  | _, _, .obj v => .obj v
theorem RepL.mono (e : Same G G') : ∀ {v : List V} {d : List D}, RepL K G v d → RepL K G' v d
  | _, _, .nil => .nil
  | _, _, .cons h l => .cons (Rep.mono e h) (RepL.mono e l)
end
theorem RepL.length : ∀ {vs : List V} {ds : List D}, RepL K G vs ds → vs.length = ds.length
  | _, _, .nil => rfl
  | _, _, .cons _ l => by rw [List.length_cons, List.length_cons, l.length]
theorem RepL.get : ∀ {vs : List V} {ds : List D} {i : Nat} {d : D}, RepL K G vs ds → ds[i]? = some d → ∃ v, vs[i]? = some v ∧ Rep K G v d
  | _, _, _, _, .nil, e => by simp at e
  | _, _, 0, _, .cons h _, e => by simp at e; subst e; exact ⟨_, rfl, h⟩
  | _, _, i + 1, d, .cons _ l, e => by
    obtain ⟨v, h1, h2⟩ := RepL.get (i := i) (d := d) l (by simpa using e)
    exact ⟨v, by simpa using h1, h2⟩
theorem RepL.getV : ∀ {vs : List V} {ds : List D} {i : Nat} {v : V}, RepL K G vs ds → vs[i]? = some v → ∃ d, ds[i]? = some d ∧ Rep K G v d
  | _, _, _, _, .nil, e => by simp at e
  | _, _, 0, _, .cons h _, e => by simp at e; subst e; exact ⟨_, rfl, h⟩
  | _, _, i + 1, v, .cons _ l, e => by
    obtain ⟨d, h1, h2⟩ := RepL.getV (i := i) (v := v) l (by simpa using e)
    exact ⟨d, by simpa using h1, h2⟩
theorem RepL.append : ∀ {vs ws : List V} {ds es : List D}, RepL K G vs ds → RepL K G ws es → RepL K G (vs ++ ws) (ds ++ es)
  | _, _, _, _, .nil, s => s
  | _, _, _, _, .cons h l, s => .cons h (RepL.append l s)
theorem RepL.take : ∀ {vs : List V} {ds : List D} (n : Nat), RepL K G vs ds → RepL K G (vs.take n) (ds.take n)
  | _, _, 0, _ => .nil
  | _, _, _ + 1, .nil => .nil
  | _, _, n + 1, .cons h l => .cons h (RepL.take n l)
theorem RepL.drop : ∀ {vs : List V} {ds : List D} (n : Nat), RepL K G vs ds → RepL K G (vs.drop n) (ds.drop n)
  | _, _, 0, h => h
  | _, _, _ + 1, .nil => .nil
  | _, _, n + 1, .cons _ l => RepL.drop n l
theorem RepL.set {x : V} {d : D} (r : Rep K G x d) : ∀ {vs : List V} {ds : List D} (n : Nat), RepL K G vs ds → RepL K G (vs.set n x) (ds.set n d)
  | _, _, _, .nil => .nil
  | _, _, 0, .cons _ l => .cons r l
  | _, _, n + 1, .cons h l => .cons h (RepL.set r n l)
theorem RepL.eraseIdx : ∀ {vs : List V} {ds : List D} (k : Nat), RepL K G vs ds → RepL K G (vs.eraseIdx k) (ds.eraseIdx k)
  | _, _, _, .nil => .nil
  | _, _, 0, .cons _ l => l
  | _, _, k + 1, .cons h l => .cons h (RepL.eraseIdx k l)
theorem RepL.reverse {vs : List V} {ds : List D} (h : RepL K G vs ds) : RepL K G vs.reverse ds.reverse := by
  induction vs generalizing ds with
  | nil => cases h; exact .nil
  | cons v vs ih =>
    cases h with
    | cons h l => rw [List.reverse_cons, List.reverse_cons]; exact (ih l).append (.cons h .nil)
theorem RepL.ints {ns : List Int} : RepL K G (ns.map V.int) (ns.map D.int) := by
  induction ns with
  | nil => exact .nil
  | cons n r ih => exact .cons (.int n) ih
theorem RepL.dropLast {vs : List V} {ds : List D} (h : RepL K G vs ds) : RepL K G vs.dropLast ds.dropLast := by
  rw [List.dropLast_eq_take, List.dropLast_eq_take, h.length]
  exact h.take _
end

/-! ### what a slot owns -/
inductive O where
  | lst (xs : List D) | dic (ks vs : List D)
def O.frz : O → D
  | .lst xs => .lst xs
  | .dic ks vs => .dic ks vs
/-- what a thing u at a holds as a dict -/
def DicU (K : PySem.W.Frag) (G : Hp) (a : Addr) (u : HO) (ks vs : List D) : Prop :=
  (∃ kvs : List (Key × V), u = .dK kvs ∧ ks = kvs.map (fun p => keyD p.1) ∧ RepL K G (kvs.map fun p => p.2) vs) ∨
  ∃ xs : TX, u = tdO a xs ∧ RepL K G (xs.map fun x => V.ref x.2.1) ks ∧ (ks.map D.nk = xs.map (fun x => some x.1) ∧ xs ≠ []) ∧ RepL K G (xs.map fun x => x.2.2) vs
theorem DicU.mono {K : PySem.W.Frag} {G G' : Hp} {a : Addr} {u : HO} {ks vs : List D} (e : Same G G') (h : DicU K G a u ks vs) : DicU K G' a u ks vs := by
  rcases h with ⟨kvs, h1, h2, h3⟩ | ⟨xs, h1, h2, h3, h4⟩
  · exact .inl ⟨kvs, h1, h2, h3.mono e⟩
  · exact .inr ⟨xs, h1, h2.mono e, h3, h4.mono e⟩
theorem DicU.mut {K : PySem.W.Frag} {G : Hp} {a : Addr} {u : HO} {ks vs : List D} (h : DicU K G a u ks vs) : Mut (some u) := by
  rcases h with ⟨kvs, rfl, _⟩ | ⟨xs, rfl, _⟩ <;> exact True.intro
theorem DicU.rep {K : PySem.W.Frag} {G : Hp} {a : Addr} {u : HO} {ks vs : List D} {ob : Obj} (h : DicU K G a u ks vs) (e : G a = some (.frz ob u)) : Rep K G (.ref a) (.dic ks vs) := by
  rcases h with ⟨kvs, rfl, rfl, h3⟩ | ⟨xs, rfl, h2, h3, h4⟩
  · exact .dicS e h3
  · exact .dicT e h2 h3 h4
/-- a frame's fixed things: slots that are lent, what the frozen heap must hold -/
structure Fb where
  p : Nat → Option Addr
  inv : Hp → Prop
  mono : ∀ {G G' : Hp}, Same G G' → inv G → inv G'
inductive Sl where
  | no | d (d : D) | own (o : O) | bor (o : O) | fz (d : D)
def Sl.isOwn : Sl → Bool
  | .own _ => true
  | .bor _ => true
  | _ => false
inductive T where
  | d (d : D) | new (o : O) | sl (i : Nat)

def ORep (K : PySem.W.Frag) (G H : Hp) (a : Addr) : O → Prop
  | .lst xs => ∃ vs, H a = some (.lst vs) ∧ G a = none ∧ RepL K G vs xs
  | .dic ks vs => ∃ u, H a = some u ∧ G a = none ∧ DicU K G a u ks vs
def SlAt (K : PySem.W.Frag) (H0 G H : Hp) (σ : St) (i : Nat) : Sl → Prop
  | .no => True
  | .d d => ∃ v, σ[i]? = some (some v) ∧ Rep K G v d
  | .own o => ∃ a, σ[i]? = some (some (.ref a)) ∧ ORep K G H a o ∧ H0 a = none
  | .bor o => ∃ a, σ[i]? = some (some (.ref a)) ∧ ORep K G H a o
  | .fz d => ∃ v, σ[i]? = some (some v) ∧ Rep K G v d
def Sl.pinned : Sl → Bool
  | .bor _ => true
  | .fz _ => true
  | _ => false
def OwnAt (σ : St) (ρ : List Sl) (i : Nat) (a : Addr) : Prop := σ[i]? = some (some (.ref a)) ∧ ∃ s, ρ[i]? = some s ∧ s.isOwn = true
def Ow (σ : St) (ρ : List Sl) (a : Addr) : Prop := ∃ i, OwnAt σ ρ i a
structure StRep (K : PySem.W.Frag) (B : Fb) (H0 G H : Hp) (σ : St) (ρ : List Sl) : Prop where
  pin : ∀ i a, B.p i = some a → σ[i]? = some (some (.ref a)) ∧ ∃ s, ρ[i]? = some s ∧ s.pinned = true
  ali : ∀ b, H0 b ≠ none → H b ≠ none
  sub : Same G H
  len : σ.length = ρ.length
  at_ : ∀ i s, ρ[i]? = some s → SlAt K H0 G H σ i s
  inj : ∀ i j a, OwnAt σ ρ i a → OwnAt σ ρ j a → i = j
  bi : B.inv G
structure Stp (G H : Hp) (Ow : Addr → Prop) (G' H' : Hp) : Prop where
  same : Same G G'
  keep : ∀ b o, H b = some o → ¬ Ow b → H' b = some o ∧ (G b = none → G' b = none)
  alive : ∀ b, H b ≠ none → H' b ≠ none
/-- what grew: nothing changed, new objects -/
structure Gro (G H G' H' : Hp) : Prop where
  g : Same G G'
  h : Same H H'
  sub : Same G' H'
  keep : ∀ b, H b ≠ none → G b = none → G' b = none
/-- an expression's way from its start -/
structure EI (K : PySem.W.Frag) (B : Fb) (H0 : Hp) (σ : St) (Gs Hs : Hp) (ρs : List Sl) (G H : Hp) (ρ : List Sl) : Prop where
  s0 : StRep K B H0 Gs Hs σ ρs
  s1 : StRep K B H0 G H σ ρ
  st : Stp Gs Hs (Ow σ ρs) G H
  ow : ∀ b, Ow σ ρ b → Ow σ ρs b
def TRep (K : PySem.W.Frag) (Hs G H : Hp) (σ : St) (v : V) : T → Prop
  | .d d => Rep K G v d
  | .new o => ∃ p, v = .ref p ∧ ORep K G H p o ∧ Hs p = none
  | .sl i => σ[i]? = some (some v)
/-- what is read now -/
def VRep (K : PySem.W.Frag) (G H : Hp) (v : V) : D → Prop
  | .lst ds => ∃ a vs, v = .ref a ∧ H a = some (.lst vs) ∧ RepL K G vs ds
  | .dic ks vs => ∃ a u, v = .ref a ∧ Rd H a u ∧ DicU K G a u ks vs
  | d => Rep K G v d
def PRep (K : PySem.W.Frag) (Hs G H : Hp) (v : V) : T → Prop
  | .d d => Rep K G v d
  | .new o => ∃ p, v = .ref p ∧ ORep K G H p o ∧ Hs p = none
  | .sl _ => False

section
variable {K : PySem.W.Frag} {B : Fb} {H0 G H G' H' G1 H1 G2 H2 Gs Hs : Hp} {σ : St} {ρ ρ' ρs ρ1 ρ2 : List Sl}
theorem same_upd {H : Hp} {p : Addr} {o : HO} (h : H p = none) : Same H (upd H p o) := fun b x e => by
  rw [upd_ne (ne_of_none e h)]
  exact e
theorem ORep.alive {a : Addr} {o : O} (h : ORep K G H a o) : H a ≠ none := by
  cases o with
  | lst xs => obtain ⟨vs, e, _⟩ := h; rw [e]; simp
  | dic ks vs => obtain ⟨u, e, _⟩ := h; rw [e]; simp
theorem ORep.gnone {a : Addr} {o : O} (h : ORep K G H a o) : G a = none := by
  cases o with
  | lst xs => obtain ⟨vs, _, e, _⟩ := h; exact e
  | dic ks vs => obtain ⟨u, _, e, _⟩ := h; exact e
theorem ORep.move {a : Addr} {o : O} (h : ORep K G H a o) (hg : Same G G') (hk : ∀ x, H a = some x → H' a = some x ∧ (G a = none → G' a = none)) : ORep K G' H' a o := by
  cases o with
  | lst xs =>
    obtain ⟨vs, e, g, r⟩ := h
    exact ⟨vs, (hk _ e).1, (hk _ e).2 g, r.mono hg⟩
  | dic ks vs =>
    obtain ⟨u, e, g, r⟩ := h
    exact ⟨u, (hk _ e).1, (hk _ e).2 g, r.mono hg⟩
theorem SlAt.own_of {i : Nat} {s : Sl} (h : SlAt K H0 G H σ i s) (ho : s.isOwn = true) : ∃ a o, σ[i]? = some (some (.ref a)) ∧ ORep K G H a o ∧ (s = .own o ∨ s = .bor o) := by
  cases s with
  | no => cases ho
  | d d => cases ho
  | own o => obtain ⟨a, e, r, _⟩ := h; exact ⟨a, o, e, r, .inl rfl⟩
  | bor o => obtain ⟨a, e, r⟩ := h; exact ⟨a, o, e, r, .inr rfl⟩
  | fz d => cases ho
theorem StRep.alive (h : StRep K B H0 G H σ ρ) {b : Addr} (hb : Ow σ ρ b) : H b ≠ none := by
  obtain ⟨i, e, s, hs, ho⟩ := hb
  obtain ⟨a, o, e2, r, _⟩ := (h.at_ i s hs).own_of ho
  rw [e] at e2; cases e2
  exact r.alive
theorem StRep.gnone (h : StRep K B H0 G H σ ρ) {b : Addr} (hb : Ow σ ρ b) : G b = none := by
  obtain ⟨i, e, s, hs, ho⟩ := hb
  obtain ⟨a, o, e2, r, _⟩ := (h.at_ i s hs).own_of ho
  rw [e] at e2; cases e2
  exact r.gnone
theorem Stp.refl {P : Addr → Prop} : Stp G H P G H := ⟨Same.refl _, fun _ _ e _ => ⟨e, fun z => z⟩, fun _ z => z⟩
theorem Stp.trans {P P1 : Addr → Prop} (a : Stp G H P G1 H1) (hp : ∀ b, P1 b → P b ∨ H b = none) (b : Stp G1 H1 P1 G2 H2) : Stp G H P G2 H2 where
  same := a.same.trans b.same
  keep := fun x o e n => by
    obtain ⟨e1, g1⟩ := a.keep x o e n
    obtain ⟨e2, g2⟩ := b.keep x o e1 fun z => (hp x z).elim n fun q => by rw [e] at q; cases q
    exact ⟨e2, fun z => g2 (g1 z)⟩
  alive := fun x z => b.alive x (a.alive x z)
theorem Stp.gro {P : Addr → Prop} (h : Gro G H G' H') : Stp G H P G' H' where
  same := h.g
  keep := fun b o e _ => ⟨h.h b o e, h.keep b (by rw [e]; simp)⟩
  alive := fun b z => by
    cases q : H b with
    | none => exact absurd q z
    | some o => rw [h.h b o q]; simp
theorem Gro.refl (s : Same G H) : Gro G H G H := ⟨Same.refl _, Same.refl _, s, fun _ _ z => z⟩
theorem Gro.trans (a : Gro G H G1 H1) (b : Gro G1 H1 G2 H2) : Gro G H G2 H2 where
  g := a.g.trans b.g
  h := a.h.trans b.h
  sub := b.sub
  keep := fun x z g => b.keep x (by
    cases q : H x with
    | none => exact absurd q z
    | some o => rw [a.h x o q]; simp) (a.keep x z g)
theorem Gro.fresh (a : Gro G H G' H') {p : Addr} (h : H' p = none) : H p = none := a.h.free h
/-- a new object, tracked and frozen -/
theorem Gro.new {p : Addr} {o : HO} (s : Same G H) (h : H p = none) : Gro G H (upd G p o) (upd H p o) where
  g := same_upd (s.free h)
  h := same_upd h
  sub := fun b x e => by
    by_cases hb : b = p
    · subst hb; rw [upd_same] at e ⊢; exact e
    · rw [upd_ne hb] at e ⊢; exact s _ _ e
  keep := fun b z g => by
    have hb : b ≠ p := fun e => z (e ▸ h)
    rw [upd_ne hb]; exact g
/-- a new object, tracked, not frozen -/
theorem Gro.tmp {p : Addr} {o : HO} (s : Same G H) (h : H p = none) : Gro G H G (upd H p o) where
  g := Same.refl _
  h := same_upd h
  sub := fun b x e => by
    have hb : b ≠ p := fun z => by subst z; rw [s.free h] at e; cases e
    rw [upd_ne hb]; exact s _ _ e
  keep := fun b z g => g
theorem StRep.step (h : StRep K B H0 G H σ ρ) {P : Addr → Prop} (st : Stp G H P G' H') (sub : Same G' H') (hp : ∀ b, P b → ¬ Ow σ ρ b) : StRep K B H0 G' H' σ ρ where
  pin := h.pin
  ali := fun b z => st.alive b (h.ali b z)
  sub := sub
  len := h.len
  inj := h.inj
  bi := B.mono st.same h.bi
  at_ := fun i s e => by
    have q := h.at_ i s e
    cases s with
    | no => trivial
    | d d => obtain ⟨v, e1, r⟩ := q; exact ⟨v, e1, r.mono st.same⟩
    | own o =>
      obtain ⟨a, e1, r, f⟩ := q
      exact ⟨a, e1, r.move st.same fun x ex => st.keep a x ex fun z => hp a z ⟨i, e1, _, e, rfl⟩, f⟩
    | bor o =>
      obtain ⟨a, e1, r⟩ := q
      exact ⟨a, e1, r.move st.same fun x ex => st.keep a x ex fun z => hp a z ⟨i, e1, _, e, rfl⟩⟩
    | fz d => obtain ⟨v, e1, r⟩ := q; exact ⟨v, e1, r.mono st.same⟩
theorem StRep.gro (h : StRep K B H0 G H σ ρ) (g : Gro G H G' H') : StRep K B H0 G' H' σ ρ := h.step (P := fun _ => False) (Stp.gro g) g.sub fun _ z => z.elim
theorem EI.refl (h : StRep K B H0 G H σ ρ) : EI K B H0 σ G H ρ G H ρ := ⟨h, h, Stp.refl, fun _ z => z⟩
theorem EI.trans (a : EI K B H0 σ Gs Hs ρs G1 H1 ρ1) (b : EI K B H0 σ G1 H1 ρ1 G2 H2 ρ2) : EI K B H0 σ Gs Hs ρs G2 H2 ρ2 :=
  ⟨a.s0, b.s1, a.st.trans (fun x z => .inl (a.ow x z)) b.st, fun x z => a.ow x (b.ow x z)⟩
theorem EI.gro (a : EI K B H0 σ Gs Hs ρs G H ρ) (g : Gro G H G' H') : EI K B H0 σ Gs Hs ρs G' H' ρ :=
  a.trans ⟨a.s1, a.s1.gro g, Stp.gro g, fun _ z => z⟩
theorem EI.fresh (a : EI K B H0 σ Gs Hs ρs G H ρ) {p : Addr} (h : H p = none) : Hs p = none := by
  cases q : Hs p with
  | none => rfl
  | some o => exact absurd h (a.st.alive p (by rw [q]; simp))
/-- a value of an earlier part, kept -/
theorem TRep.move {v : V} {t : T} (a : EI K B H0 σ Gs Hs ρs G1 H1 ρ1) (b : EI K B H0 σ G1 H1 ρ1 G2 H2 ρ2) (h : TRep K Hs G1 H1 σ v t) : TRep K Hs G2 H2 σ v t := by
  cases t with
  | d d => exact Rep.mono b.st.same h
  | new o =>
    obtain ⟨p, e, r, f⟩ := h
    refine ⟨p, e, r.move b.st.same fun x ex => b.st.keep p x ex fun z => ?_, f⟩
    exact absurd f (a.s0.alive (a.ow p z))
  | sl i => exact h
theorem TRep.back {v : V} {t : T} (a : EI K B H0 σ Gs Hs ρs G1 H1 ρ1) (h : TRep K H1 G2 H2 σ v t) : TRep K Hs G2 H2 σ v t := by
  cases t with
  | d d => exact h
  | new o => obtain ⟨p, e, r, f⟩ := h; exact ⟨p, e, r, a.fresh f⟩
  | sl i => exact h
theorem PRep.t {v : V} {t : T} (a : EI K B H0 σ Gs Hs ρs G H ρ) (h : PRep K H G' H' v t) : TRep K Hs G' H' σ v t := by
  cases t with
  | d d => exact h
  | new o => obtain ⟨p, e, r, f⟩ := h; exact ⟨p, e, r, a.fresh f⟩
  | sl i => exact h.elim

/-! ### views, settling -/
def O.view : O → D
  | .lst xs => .lst xs
  | .dic ks vs => .dic ks vs
def view (ρ : List Sl) : T → Option D
  | .d d => some d
  | .new o => some o.view
  | .sl i => match ρ[i]? with
    | some (.own o) => some o.view
    | some (.bor o) => some o.view
    | some (.d d) => some d
    | some (.fz d) => some d
    | _ => none
theorem VRep.of_rep (s : Same G H) {v : V} {d : D} (h : Rep K G v d) : VRep K G H v d := by
  cases h with
  | lst e l => exact ⟨_, _, rfl, s _ _ e, l⟩
  | non => exact .non
  | bl b => exact .bl b
  | int b => exact .int b
  | str b => exact .str b
  | tup e l => exact .tup e l
  | rd e l => exact .rd e l
  | dicS e l => exact ⟨_, _, rfl, .inr ⟨_, s _ _ e⟩, .inl ⟨_, rfl, rfl, l⟩⟩
  | dicT e k q l => exact ⟨_, _, rfl, .inr ⟨_, s _ _ e⟩, .inr ⟨_, rfl, k, q, l⟩⟩
  | obj => exact .obj _
theorem ORep.view {a : Addr} {o : O} (h : ORep K G H a o) : VRep K G H (.ref a) o.view := by
  cases o with
  | lst xs => obtain ⟨vs, e, _, r⟩ := h; exact ⟨a, vs, rfl, e, r⟩
  | dic ks vs => obtain ⟨u, e, _, r⟩ := h; exact ⟨a, u, rfl, .inl e, r⟩
theorem view_ok {v : V} {t : T} {d : D} (s : StRep K B H0 G H σ ρ) (h : TRep K Hs G H σ v t) (e : view ρ t = some d) : VRep K G H v d := by
  cases t with
  | d d' => cases e; exact VRep.of_rep s.sub h
  | new o => cases e; obtain ⟨p, rfl, r, _⟩ := h; exact r.view
  | sl i =>
    have h1 : σ[i]? = some (some v) := h
    unfold view at e
    cases q : ρ[i]? with
    | none => simp [q] at e
    | some sl =>
      have z := s.at_ i sl q
      cases sl with
      | no => simp [q] at e
      | d d' => simp [q] at e; subst e; obtain ⟨v', e1, r⟩ := z; rw [h1] at e1; cases e1; exact VRep.of_rep s.sub r
      | own o => simp [q] at e; subst e; obtain ⟨a, e1, r, _⟩ := z; rw [h1] at e1; cases e1; exact r.view
      | bor o => simp [q] at e; subst e; obtain ⟨a, e1, r⟩ := z; rw [h1] at e1; cases e1; exact r.view
      | fz d' => simp [q] at e; subst e; obtain ⟨v', e1, r⟩ := z; rw [h1] at e1; cases e1; exact VRep.of_rep s.sub r
/-- frozen: lists at once -/
def settle (ρ : List Sl) : T → Option (D × List Sl)
  | .d d => some (d, ρ)
  | .new (.lst xs) => some (.lst xs, ρ)
  | .new (.dic _ _) => none
  | .sl i => match ρ[i]? with
    | some (.own (.lst xs)) => some (.lst xs, ρ.set i (.d (.lst xs)))
    | some (.bor (.lst xs)) => some (.lst xs, ρ.set i (.fz (.lst xs)))
    | some (.d d) => some (d, ρ)
    | some (.fz d) => some (d, ρ)
    | _ => none
/-- frozen by a step of its own: dicts, too -/
def settleF (ρ : List Sl) : T → Option (D × List Sl)
  | .new (.dic ks vs) => some (.dic ks vs, ρ)
  | .sl i => match ρ[i]? with
    | some (.own o) => some (o.frz, ρ.set i (.d o.frz))
    | some (.bor o) => some (o.frz, ρ.set i (.fz o.frz))
    | some (.d d) => some (d, ρ)
    | some (.fz d) => some (d, ρ)
    | _ => none
  | t => settle ρ t
/-- x stands for the frozen object of what was at a -/
structure FrzTo (K : PySem.W.Frag) (G H : Hp) (a : Addr) (o : O) (x : HO) : Prop where
  g : Same G (upd G a x)
  s : Same (upd G a x) (upd H a x)
  r : Rep K (upd G a x) (.ref a) o.frz
theorem ORep.frzTo {a : Addr} {o : O} {x : HO} (s : Same G H) (h : ORep K G H a o) (hx : (∃ xs vs, o = .lst xs ∧ H a = some (.lst vs) ∧ x = .lst vs) ∨ (∃ u ob, H a = some u ∧ x = .frz ob u ∧ ∃ ks vs, o = .dic ks vs)) : FrzTo K G H a o x := by
  have g : G a = none := h.gnone
  have ss : Same (upd G a x) (upd H a x) := fun b y q => by
    by_cases hb : b = a
    · subst hb; rw [upd_same] at q ⊢; exact q
    · rw [upd_ne hb] at q ⊢; exact s _ _ q
  refine ⟨same_upd g, ss, ?_⟩
  cases o with
  | lst xs =>
    obtain ⟨vs, e, g, r⟩ := h
    rcases hx with ⟨xs', vs', e1, e2, rfl⟩ | ⟨u, ob, e1, e2, ks, ws, e3⟩
    · rw [e] at e2; cases e2
      exact .lst upd_same (r.mono (same_upd g))
    · cases e3
  | dic ks vs =>
    obtain ⟨u, e, g, r⟩ := h
    rcases hx with ⟨xs', vs', e1, e2, rfl⟩ | ⟨u', ob, e1, rfl, ks', ws, e3⟩
    · cases e1
    · rw [e] at e1; cases e1
      exact (r.mono (same_upd g)).rep upd_same
theorem upd_id {H : Hp} {a : Addr} {x : HO} (h : H a = some x) : upd H a x = H := by
  funext b
  by_cases hb : b = a
  · subst hb; rw [upd_same, h]
  · rw [upd_ne hb]
/-- what an owned object is frozen to -/
theorem ORep.frz_x {a : Addr} {o : O} (h : ORep K G H a o) : (∃ xs vs, o = .lst xs ∧ H a = some (.lst vs)) ∨ (∃ ks vs u, o = .dic ks vs ∧ H a = some u ∧ Mut (some u)) := by
  cases o with
  | lst xs => obtain ⟨vs, e, _⟩ := h; exact .inl ⟨xs, vs, rfl, e⟩
  | dic ks vs => obtain ⟨u, e, _, r⟩ := h; exact .inr ⟨ks, vs, u, rfl, e, r.mut⟩
theorem getset {α : Type} {l : List α} {i j : Nat} {x y : α} (h : (l.set i x)[j]? = some y) : (i = j ∧ y = x ∧ i < l.length) ∨ (i ≠ j ∧ l[j]? = some y) := by
  by_cases e : i = j
  · subst e
    rw [List.getElem?_set_self'] at h
    cases q : l[i]? with
    | none => simp [q] at h
    | some z => simp [q] at h; exact .inl ⟨rfl, h.symm, (List.getElem?_eq_some_iff.mp q).1⟩
  · rw [List.getElem?_set_ne e] at h; exact .inr ⟨e, h⟩
/-- slot i is frozen -/
theorem StRep.freeze {i : Nat} {o : O} {a : Addr} {s s' : Sl} {x : HO} (h : StRep K B H0 G H σ ρ) (q : ρ[i]? = some s) (ho : (s = .own o ∧ s' = .d o.frz) ∨ (s = .bor o ∧ s' = .fz o.frz)) (ha : σ[i]? = some (some (.ref a))) (f : FrzTo K G H a o x) :
    StRep K B H0 (upd G a x) (upd H a x) σ (ρ.set i s') ∧ Ow σ ρ a ∧ (∀ b, Ow σ (ρ.set i s') b → Ow σ ρ b) := by
  have hio : s.isOwn = true := by rcases ho with ⟨rfl, _⟩ | ⟨rfl, _⟩ <;> rfl
  have hio' : s'.isOwn = false := by rcases ho with ⟨_, rfl⟩ | ⟨_, rfl⟩ <;> rfl
  have own0 : OwnAt σ ρ i a := ⟨ha, s, q, hio⟩
  have back : ∀ {j b}, OwnAt σ (ρ.set i s') j b → OwnAt σ ρ j b ∧ i ≠ j := fun {j b} ⟨e1, s1, e2, e3⟩ => by
    rcases getset e2 with ⟨rfl, rfl, _⟩ | ⟨n, e4⟩
    · rw [hio'] at e3; cases e3
    · exact ⟨⟨e1, s1, e4, e3⟩, n⟩
  have alv : ∀ b, H b ≠ none → upd H a x b ≠ none := fun b z => by
    by_cases hb : b = a
    · subst hb; rw [upd_same]; simp
    · rw [upd_ne hb]; exact z
  refine ⟨⟨fun j b hb => ?_, fun b z => alv b (h.ali b z), f.s, by rw [List.length_set]; exact h.len, fun j s1 e1 => ?_, fun j k b u1 u2 => h.inj j k b (back u1).1 (back u2).1, B.mono f.g h.bi⟩, ⟨i, own0⟩, fun b ⟨j, hj⟩ => ⟨j, (back hj).1⟩⟩
  · obtain ⟨p1, s1, p2, p3⟩ := h.pin j b hb
    refine ⟨p1, ?_⟩
    by_cases hij : i = j
    · subst hij
      rw [q] at p2; cases p2
      rcases ho with ⟨rfl, _⟩ | ⟨rfl, rfl⟩
      · cases p3
      · exact ⟨_, by rw [List.getElem?_set_self (List.getElem?_eq_some_iff.mp q).1], rfl⟩
    · exact ⟨s1, by rw [List.getElem?_set_ne hij]; exact p2, p3⟩
  rcases getset e1 with ⟨rfl, rfl, _⟩ | ⟨n, e4⟩
  · rcases ho with ⟨_, rfl⟩ | ⟨_, rfl⟩
    · exact ⟨_, ha, f.r⟩
    · exact ⟨_, ha, f.r⟩
  · have z := h.at_ j s1 e4
    have ne : ∀ b, OwnAt σ ρ j b → b ≠ a := fun b hb e => n (h.inj i j a own0 (e ▸ hb))
    have mv : ∀ b, OwnAt σ ρ j b → ∀ y, H b = some y → upd H a x b = some y ∧ (G b = none → upd G a x b = none) := fun b hb y ey => by
      rw [upd_ne (ne b hb), upd_ne (ne b hb)]
      exact ⟨ey, fun z => z⟩
    cases s1 with
    | no => trivial
    | d d => obtain ⟨v, e5, r⟩ := z; exact ⟨v, e5, r.mono f.g⟩
    | own o1 => obtain ⟨b, e5, r, f'⟩ := z; exact ⟨b, e5, r.move f.g (mv b ⟨e5, _, e4, rfl⟩), f'⟩
    | bor o1 => obtain ⟨b, e5, r⟩ := z; exact ⟨b, e5, r.move f.g (mv b ⟨e5, _, e4, rfl⟩)⟩
    | fz d => obtain ⟨v, e5, r⟩ := z; exact ⟨v, e5, r.mono f.g⟩
/-- the state behind a freezing -/
theorem EI.freezeSl {i : Nat} {o : O} {p : Addr} {s s' : Sl} {x : HO} (a : EI K B H0 σ Gs Hs ρs G H ρ) (q : ρ[i]? = some s) (ho : (s = .own o ∧ s' = .d o.frz) ∨ (s = .bor o ∧ s' = .fz o.frz)) (ha : σ[i]? = some (some (.ref p))) (f : FrzTo K G H p o x) :
    EI K B H0 σ Gs Hs ρs (upd G p x) (upd H p x) (ρ.set i s') := by
  obtain ⟨s2, oa, ob⟩ := a.s1.freeze q ho ha f
  refine ⟨a.s0, s2, ⟨a.st.same.trans f.g, fun c o' e' n => ?_, fun c z => ?_⟩, fun c hc => a.ow c (ob c hc)⟩
  · obtain ⟨e1, e2⟩ := a.st.keep c o' e' n
    have ne : c ≠ p := fun w => n (w ▸ a.ow p oa)
    rw [upd_ne ne, upd_ne ne]
    exact ⟨e1, e2⟩
  · by_cases hb : c = p
    · subst hb; rw [upd_same]; simp
    · rw [upd_ne hb]; exact a.st.alive c z
/-- a temporary object is frozen -/
theorem EI.freezeNew {p : Addr} {o : O} {x : HO} (a : EI K B H0 σ Gs Hs ρs G H ρ) (f : Hs p = none) (fz : FrzTo K G H p o x) : EI K B H0 σ Gs Hs ρs (upd G p x) (upd H p x) ρ := by
  have np : ¬ Ow σ ρ p := fun z => absurd f (a.s0.alive (a.ow p z))
  have alv : ∀ b, H b ≠ none → upd H p x b ≠ none := fun b z => by
    by_cases hb : b = p
    · subst hb; rw [upd_same]; simp
    · rw [upd_ne hb]; exact z
  refine ⟨a.s0, ?_, ?_, a.ow⟩
  · refine a.s1.step (P := fun b => b = p) ⟨fz.g, fun b o e n => ?_, alv⟩ fz.s fun b hb z => np (hb ▸ z)
    rw [upd_ne n, upd_ne n]; exact ⟨e, fun z => z⟩
  · refine ⟨a.st.same.trans fz.g, fun b o e n => ?_, fun b z => alv b (a.st.alive b z)⟩
    obtain ⟨e1, e2⟩ := a.st.keep b o e n
    have : b ≠ p := fun q => by subst q; rw [f] at e; cases e
    rw [upd_ne this, upd_ne this]; exact ⟨e1, e2⟩
theorem settle_ok {v : V} {t : T} {d : D} (a : EI K B H0 σ Gs Hs ρs G H ρ) (h : TRep K Hs G H σ v t) (e : settle ρ t = some (d, ρ')) : ∃ G', EI K B H0 σ Gs Hs ρs G' H ρ' ∧ Same G G' ∧ Rep K G' v d := by
  have lf : ∀ {p : Addr} {xs : List D}, ORep K G H p (.lst xs) → ∃ x, H p = some x ∧ FrzTo K G H p (.lst xs) x := fun {p xs} r => by
    obtain ⟨vs, e, _⟩ := id r
    exact ⟨_, e, r.frzTo a.s1.sub (.inl ⟨xs, vs, rfl, e, rfl⟩)⟩
  cases t with
  | d d' => cases e; exact ⟨G, a, Same.refl _, h⟩
  | new o =>
    cases o with
    | dic ks vs => cases e
    | lst xs =>
      cases e
      obtain ⟨p, rfl, r, f⟩ := h
      obtain ⟨x, hx, fz⟩ := lf r
      have E := a.freezeNew f fz
      rw [upd_id hx] at E
      exact ⟨_, E, fz.g, fz.r⟩
  | sl i =>
    have h1 : σ[i]? = some (some v) := h
    unfold settle at e
    cases q : ρ[i]? with
    | none => simp [q] at e
    | some sl =>
      have z := a.s1.at_ i sl q
      cases sl with
      | no => simp [q] at e
      | d d' =>
        simp [q] at e
        obtain ⟨rfl, rfl⟩ := e
        obtain ⟨v', e1, r⟩ := z; rw [h1] at e1; cases e1
        exact ⟨G, a, Same.refl _, r⟩
      | fz d' =>
        simp [q] at e
        obtain ⟨rfl, rfl⟩ := e
        obtain ⟨v', e1, r⟩ := z; rw [h1] at e1; cases e1
        exact ⟨G, a, Same.refl _, r⟩
      | own o =>
        cases o with
        | dic ks vs => simp [q] at e
        | lst xs =>
          simp [q] at e
          obtain ⟨rfl, rfl⟩ := e
          obtain ⟨b, e1, r, _⟩ := z
          rw [h1] at e1; cases e1
          obtain ⟨x, hx, fz⟩ := lf r
          have E := a.freezeSl q (.inl ⟨rfl, rfl⟩) h1 fz
          rw [upd_id hx] at E
          exact ⟨_, E, fz.g, fz.r⟩
      | bor o =>
        cases o with
        | dic ks vs => simp [q] at e
        | lst xs =>
          simp [q] at e
          obtain ⟨rfl, rfl⟩ := e
          obtain ⟨b, e1, r⟩ := z
          rw [h1] at e1; cases e1
          obtain ⟨x, hx, fz⟩ := lf r
          have E := a.freezeSl q (.inr ⟨rfl, rfl⟩) h1 fz
          rw [upd_id hx] at E
          exact ⟨_, E, fz.g, fz.r⟩
/-- .. dicts, too: the heap's own object becomes known -/
theorem settleF_ok {v : V} {t : T} {d : D} (a : EI K B H0 σ Gs Hs ρs G H ρ) (h : TRep K Hs G H σ v t) (e : settleF ρ t = some (d, ρ')) : (∃ G', EI K B H0 σ Gs Hs ρs G' H ρ' ∧ Same G G' ∧ Rep K G' v d) ∨
    ∃ p u, H p = some u ∧ Mut (some u) ∧ ∀ ob, ∃ G', EI K B H0 σ Gs Hs ρs G' (upd H p (.frz ob u)) ρ' ∧ Same G G' ∧ Rep K G' v d := by
  have df : ∀ {p : Addr} {ks vs : List D}, ORep K G H p (.dic ks vs) → ∃ u, H p = some u ∧ Mut (some u) ∧ ∀ ob, FrzTo K G H p (.dic ks vs) (.frz ob u) := fun {p ks vs} r => by
    obtain ⟨u, e, _, z⟩ := id r
    exact ⟨u, e, z.mut, fun ob => r.frzTo a.s1.sub (.inr ⟨u, ob, e, rfl, ks, vs, rfl⟩)⟩
  cases t with
  | d d' => exact .inl (settle_ok a h e)
  | new o =>
    cases o with
    | lst xs => exact .inl (settle_ok a h e)
    | dic ks vs =>
      cases e
      obtain ⟨p, rfl, r, f⟩ := h
      obtain ⟨u, hu, mu, fz⟩ := df r
      exact .inr ⟨p, u, hu, mu, fun ob => ⟨_, a.freezeNew f (fz ob), (fz ob).g, (fz ob).r⟩⟩
  | sl i =>
    have h1 : σ[i]? = some (some v) := h
    cases q : ρ[i]? with
    | none => simp [settleF, q] at e
    | some sl =>
      have z := a.s1.at_ i sl q
      cases sl with
      | no => simp [settleF, q] at e
      | d d' => exact .inl (settle_ok a h (by simpa [settleF, settle, q] using e))
      | fz d' => exact .inl (settle_ok a h (by simpa [settleF, settle, q] using e))
      | own o =>
        cases o with
        | lst xs => exact .inl (settle_ok a h (by simpa [settleF, settle, q, O.frz] using e))
        | dic ks vs =>
          simp [settleF, q] at e
          obtain ⟨rfl, rfl⟩ := e
          obtain ⟨b, e1, r, _⟩ := z
          rw [h1] at e1; cases e1
          obtain ⟨u, hu, mu, fz⟩ := df r
          exact .inr ⟨b, u, hu, mu, fun ob => ⟨_, a.freezeSl q (.inl ⟨rfl, rfl⟩) h1 (fz ob), (fz ob).g, (fz ob).r⟩⟩
      | bor o =>
        cases o with
        | lst xs => exact .inl (settle_ok a h (by simpa [settleF, settle, q, O.frz] using e))
        | dic ks vs =>
          simp [settleF, q] at e
          obtain ⟨rfl, rfl⟩ := e
          obtain ⟨b, e1, r⟩ := z
          rw [h1] at e1; cases e1
          obtain ⟨u, hu, mu, fz⟩ := df r
          exact .inr ⟨b, u, hu, mu, fun ob => ⟨_, a.freezeSl q (.inr ⟨rfl, rfl⟩) h1 (fz ob), (fz ob).g, (fz ob).r⟩⟩
end
end Fw

set_option maxHeartbeats 4000000
/-! Fw2: the small language and its evaluator. -/
namespace Fw
open PySem PySem.Spec PyProof.Rows L2

inductive Tg where
  | nm (i : Nat) | tp (ts : List Tg)
inductive Bl where
  | len | abs | min | max | int | str | tuple | list | any | all | sum | sorted
  deriving DecidableEq
/-- what __init__ puts into a field -/
inductive FI where
  | arg (k : Nat) | dict
  deriving DecidableEq
/-- methods that read -/
inductive Bm where
  | partition | join
  deriving DecidableEq
inductive Ty where
  | str | int | bool | tuple | list
  deriving DecidableEq
inductive Mt where
  | append | extend | pop
  deriving DecidableEq

mutual
inductive IE where
  | var (i : Nat) | non | bl (b : Bool) | int (i : Int) | str (s : Str) | glo (x : Str)
  | bin (op : Operator) (a b : IE) | neg (a : IE) | cmp (op : CmpOp) (a b : IE) | chn (op op' : CmpOp) (a b c : IE)
  | and_ (a b : IE) | or_ (a b : IE) | one (a : IE) | not_ (a : IE) | ife (c a b : IE)
  | ix (a b : IE) | kix (x : Str) (a : IE) | slc (a lo hi : IE) | nop | frz (a : IE)
  | tup (as : IAs) | lst (as : IAs)
  | call (f : Str) (as : IAs) | blt (f : Bl) (as : IAs) | isi (a : IE) (ts : List Ty) | rngs (tup : Bool) (as : IAs) | lrev (a : IE)
  | mth (m : Mt) (o : IE) (as : IAs)
  | bm (m : Bm) (o : IE) (as : IAs) | dnew | dsp (ks : List Key) (vs : IAs) | dget (o : IE) (as : IAs) | srtk (f : Str) (a : IE)
  | mcl (f : Str) (gs : List Nat) (as : IAs) | obc (f : Str) (fi : List FI) (as bs : IAs)
  | lc (it : II) (tg : Tg) (c : IE) (e : IE) (own : List Nat)
  | lc2 (it : II) (tg : Tg) (it1 : II) (tg1 : Tg) (c : IE) (e : IE) (own : List Nat)
inductive IAs where
  | nil | cons (a : IE) (r : IAs)
inductive II where
  | seq (e : IE) | rng (as : IAs) | zip (a b : IE) | enm (a : IE) | rev (a : IE) | dit (e : IE)
end
mutual
inductive IS where
  | asg (i : Nat) (e : IE) | asgT (t : Tg) (e : IE) | par (i j : Nat) (a b : IE) | aug (i : Nat) (op : Operator) (e : IE) | setI (o i e : IE) | set2 (o1 i1 o2 i2 e : IE)
  | ex (e : IE) | if_ (c : IE) (a b : ISs) | for_ (t : Tg) (it : II) (body : ISs) | whl (c : IE) (body : ISs)
  | ret (e : IE) | retN | brk | cnt | pass | nvr
inductive ISs where
  | nil | cons (s : IS) (r : ISs)
end

inductive Arg where
  | fr (d : D) | bo (o : O)
/-- what a call may use -/
structure Cfg where
  call : Str → List Arg → Option (T × List Sl)
  call1 : Str → List Arg → Option (T × List Sl)
  up : Nat
  glo : Str → Option D
  wf : Nat
  kd : Str → Option (List (Str × D))

/-! ### operations by values -/
/-- a key by its value -/
def D.key1 : D → Option Key
  | .int i => some (.inl i)
  | .str s => some (.inr s)
  | _ => none
/-- a key that is a tuple -/
def D.tk : D → Option NestedKey
  | .tup xs => (D.nk (.tup xs)).bind fun k => if k.depth ≤ 8 then some k else none
  | _ => none
def D.keq (a b : D) : Bool := match a.key1, b.key1 with
  | some x, some y => decide (x = y)
  | _, _ => match a.nk, b.nk with
    | some x, some y => decide (x = y)
    | _, _ => false
def dFind (ks vs : List D) (k : D) : Option D := ((ks.zip vs).find? fun p => p.1.keq k).map fun p => p.2
/-- the key may be asked of a dict with these keys -/
def dOk (ks : List D) (k : D) : Bool := (k.key1.isSome || k.tk.isSome) && match ks with
  | [] => true
  | h :: _ => h.key1.isSome == k.key1.isSome
def dHas (ks : List D) (k : D) : Bool := ks.any fun e => e.keq k
def dPutF (ks vs : List D) (k x : D) : Option (List D × List D) := if dOk ks k && decide (ks.length < sizeLine) then
    (if dHas ks k then some (ks, (ks.zip vs).map fun p => if p.1.keq k then x else p.2) else some (ks ++ [k], vs ++ [x])) else none
mutual
def D.pd : D → PyData
  | .non => .none
  | .bl b => .bool b
  | .int i => .int i
  | .str s => .str s
  | .tup xs => .tuple (D.pds xs)
  | .lst xs => .list (D.pds xs)
  | .rd xs => .list (D.pds xs)
  | .dic _ _ => .dict []
  | .obj => .dict []
def D.pds : List D → List PyData
  | [] => []
  | d :: ds => d.pd :: D.pds ds
end
def D.flat : D → Bool
  | .non => true | .bl _ => true | .int _ => true | .str _ => true | _ => false
def D.v0 : D → V
  | .non => .non | .bl b => .bl b | .int i => .int i | .str s => .str s | _ => .non
def bD (b : Bool) : T := .d (.bl b)
def iD (i : Int) : T := .d (.int i)
def binF : Operator → D → D → Option T
  | .Add, .int i, .int j => some (iD (i + j))
  | .Add, .str i, .str j => if i.length + j.length ≤ sizeLine then some (.d (.str (i ++ j))) else none
  | .Add, .tup xs, .tup ys => if xs.length + ys.length ≤ sizeLine then some (.d (.tup (xs ++ ys))) else none
  | .Add, .lst xs, .lst ys => if xs.length + ys.length ≤ sizeLine then some (.new (.lst (xs ++ ys))) else none
  | .Sub, .int i, .int j => some (iD (i - j))
  | .Mult, .int i, .int j => if (-(2 ^ 64) < i ∧ i < 2 ^ 64) ∨ (-(2 ^ 64) < j ∧ j < 2 ^ 64) then some (iD (i * j)) else none
  | .Mult, .lst xs, .int k => if -(2 ^ 63) ≤ k ∧ k < 2 ^ 63 ∧ xs.length * k.toNat ≤ sizeLine then some (.new (.lst (List.replicate k.toNat xs).flatten)) else none
  | .Mult, .tup xs, .int k => if -1000 ≤ k ∧ k ≤ 1000 ∧ xs.length ≤ 1000 then some (.d (.tup (List.replicate k.toNat xs).flatten)) else none
  | .FloorDiv, .int i, .int j => if j ≠ 0 ∧ j.natAbs < 1073741824 then some (iD (i.fdiv j)) else none
  | .Mod, .int i, .int j => if j ≠ 0 then some (iD (i.fmod j)) else none
  | .Pow, .int i, .int j => if 0 ≤ j ∧ j ≤ 1000000 ∧ i.natAbs < 2 ^ 64 then some (iD (i ^ j.toNat)) else none
  | _, _, _ => none
def D.scalEq : D → D → Option Bool
  | .non, .non => some true | .non, .int _ => some false | .int _, .non => some false | .non, .bl _ => some false | .bl _, .non => some false | .non, .str _ => some false | .str _, .non => some false
  | .int i, .int j => some (decide (i = j)) | .bl a, .bl b => some (decide (a = b)) | .str a, .str b => some (decide (a = b))
  | .int _, .str _ => some false | .str _, .int _ => some false | .bl _, .str _ => some false | .str _, .bl _ => some false
  | _, _ => none
def eqF (d e : D) : Option Bool := match d.scalEq e with
  | some b => some b
  | none => if SeqAt.shaped d.pd = true ∧ SeqAt.shaped e.pd = true then some (PyData.eqv d.pd e.pd) else none
def inF (x : D) : D → Option Bool
  | .tup xs => if x.flat = true ∧ xs.all D.flat = true then some (inV x.v0 (xs.map D.v0)) else
      if SeqAt.shaped x.pd = true ∧ SeqAt.shaped (D.tup xs).pd = true then some (xs.any fun z => PyData.eqv z.pd x.pd) else none
  | .lst xs => if x.flat = true ∧ xs.all D.flat = true then some (inV x.v0 (xs.map D.v0)) else
      if SeqAt.shaped x.pd = true ∧ SeqAt.shaped (D.lst xs).pd = true then some (xs.any fun z => PyData.eqv z.pd x.pd) else none
  | .dic ks _ => if dOk ks x then some (dHas ks x) else none
  | .str z => (match x with
    | .str c => (match c.cps.toList with
      | [k] => some (decide (k ∈ z.cps.toList))
      | _ => none)
    | _ => none)
  | _ => none
def cmpF : CmpOp → D → D → Option Bool
  | .Eq, d, e => eqF d e
  | .NotEq, d, e => (eqF d e).map (!·)
  | .Lt, .int i, .int j => some (decide (i < j))
  | .LtE, .int i, .int j => some (decide (i ≤ j))
  | .Gt, .int i, .int j => some (decide (j < i))
  | .GtE, .int i, .int j => some (decide (j ≤ i))
  | .In, x, y => inF x y
  | .NotIn, x, y => (inF x y).map (!·)
  | .Is, .bl a, .bl b => some (decide (a = b))
  | .IsNot, .bl a, .bl b => some (!decide (a = b))
  | .Is, .non, .non => some true
  | .Is, .bl _, .non => some false
  | .Is, .int _, .non => some false
  | .Is, .str _, .non => some false
  | .Is, .tup _, .non => some false
  | .Is, .lst _, .non => some false
  | .IsNot, .non, .non => some false
  | .IsNot, .bl _, .non => some true
  | .IsNot, .int _, .non => some true
  | .IsNot, .str _, .non => some true
  | .IsNot, .tup _, .non => some true
  | .IsNot, .lst _, .non => some true
  | _, _, _ => none
def ixF : D → D → Option T
  | .tup xs, .int i => (atI xs i).map .d
  | .lst xs, .int i => (atI xs i).map .d
  | .rd xs, .int i => (atI xs i).map .d
  | .str z, .int i => if z.length ≤ sizeLine then (atI z.cps.toList i).map fun c => .d (.str ⟨#[c]⟩) else none
  | .dic ks vs, k => if dOk ks k then (dFind ks vs k).map .d else none
  | _, _ => none
def cutD {α : Type} (xs : List α) (lo hi : Option Int) : List α := (xs.drop (HT.sIx xs.length 0 lo)).take (HT.sIx xs.length xs.length hi - HT.sIx xs.length 0 lo)
def slF : D → Option Int → Option Int → Option T
  | .tup xs, lo, hi => some (.d (.tup (cutD xs lo hi)))
  | .lst xs, lo, hi => some (.new (.lst (cutD xs lo hi)))
  | .str z, lo, hi => if z.length ≤ sizeLine then some (.d (.str (L2.cutS z lo hi))) else none
  | _, _, _ => none
def negF : D → Option T
  | .int i => some (iD (-i))
  | _ => none
def D.ints : List D → Option (List Int)
  | [] => some []
  | .int i :: r => (D.ints r).map (i :: ·)
  | _ :: _ => none
def mxI : List Int → Option Int
  | [] => none
  | n :: r => some (r.foldl max n)
def mnI : List Int → Option Int
  | [] => none
  | n :: r => some (r.foldl min n)
def D.bools : List D → Option (List Bool)
  | [] => some []
  | .bl i :: r => (D.bools r).map (i :: ·)
  | _ :: _ => none
def D.strs : List D → Option (List Str)
  | [] => some []
  | .str i :: r => (D.strs r).map (i :: ·)
  | _ :: _ => none
def PdTup : PyData → Bool
  | .tuple (_ :: _) => true
  | _ => false
def PdOth : PyData → Bool
  | .none => false
  | .tuple _ => false
  | _ => true
/-- these may be compared by <, place by place -/
def sortOk (ds : List D) : Bool := ds.all (fun d => d.pd.canLay0 && decide (d.pd.depth ≤ 8) && ds.all fun e => PySem.W.alike d.pd e.pd) && (ds.all (fun d => PdTup d.pd) || ds.all (fun d => PdOth d.pd)) && decide (ds.length ≤ sizeLine)
def sortD (ds : List D) : List D := ds.mergeSort (PySem.W.dataLe false D.pd)
def srtF (ds : List D) : Option T := if sortOk ds then some (.new (.lst (sortD ds))) else none
def bltF : Bl → List D → Option T
  | .any, [.lst xs] => (D.bools xs).map fun bs => .d (.bl (bs.any id))
  | .all, [.lst xs] => (D.bools xs).map fun bs => .d (.bl (bs.all id))
  | .sum, [.lst xs] => (D.ints xs).map fun ns => .d (.int ns.sum)
  | .sorted, [.lst xs] => srtF xs
  | .sorted, [.dic ks _] => srtF ks
  | .len, [.dic ks _] => some (iD ks.length)
  | .list, [.dic ks _] => if ks.all (fun k => k.key1.isSome) then some (.new (.lst ks)) else none
  | .len, [.tup xs] => some (iD xs.length)
  | .len, [.lst xs] => some (iD xs.length)
  | .len, [.rd xs] => some (iD xs.length)
  | .len, [.str z] => if z.length ≤ sizeLine then some (iD z.length) else none
  | .abs, [.int i] => some (iD (if i < 0 then -i else i))
  | .min, [.int i, .int j] => some (iD (if j < i then j else i))
  | .max, [.int i, .int j] => some (iD (if j > i then j else i))
  | .min, [.lst xs] => (D.ints xs).bind fun ns => (mnI ns).map iD
  | .max, [.lst xs] => (D.ints xs).bind fun ns => (mxI ns).map iD
  | .int, [.int i] => some (iD i)
  | .int, [.bl b] => some (iD (if b then 1 else 0))
  | .int, [.str a] => if a.length ≤ 640 then (PySem.intText? a).map iD else none
  | .str, [.int i] => if i.natAbs.log2 < 1920 then some (.d (.str (toString i))) else none
  | .tuple, [.tup xs] => some (.d (.tup xs))
  | .tuple, [.lst xs] => some (.d (.tup xs))
  | .list, [.tup xs] => some (.new (.lst xs))
  | .list, [.lst xs] => some (.new (.lst xs))
  | _, _ => none
def D.isTy : D → Ty → Option Bool
  | .str _, t => some (decide (t = .str))
  | .int _, t => some (decide (t = .int))
  | .bl _, t => some (decide (t = .bool) || decide (t = .int))
  | .non, _ => some false
  | .tup _, t => some (decide (t = .tuple))
  | .lst _, t => some (decide (t = .list))
  | .rd _, _ => none
  | .dic _ _, _ => none
  | .obj, _ => none
def isiF (d : D) : List Ty → Option Bool
  | [] => some false
  | t :: ts => (d.isTy t).bind fun a => (isiF d ts).map fun b => a || b
def rngL (a b : Int) : List D := (List.range (b - a).toNat).map fun (k : Nat) => D.int (a + (k : Int))
def rngF : List D → Option (List D)
  | [.int b] => if -(2 ^ 62) ≤ b ∧ b < 2 ^ 62 then some (rngL 0 b) else none
  | [.int a, .int b] => if -(2 ^ 62) ≤ a ∧ a < 2 ^ 62 ∧ -(2 ^ 62) ≤ b ∧ b < 2 ^ 62 then some (rngL a b) else none
  | _ => none
def items : D → Option (List D)
  | .tup xs => some xs
  | .lst xs => some xs
  | .str z => some (z.cps.toList.map fun c => .str ⟨#[c]⟩)
  | .dic ks _ => some ks
  | _ => none
def seqOf : D → Option (List D)
  | .tup xs => some xs
  | .lst xs => some xs
  | _ => none

/-! ### slots -/
def bindable (ρ : List Sl) (i : Nat) : Bool := match ρ[i]? with
  | some (.bor _) => false
  | some (.fz _) => false
  | some _ => true
  | none => false
mutual
def bindT : Tg → D → List Sl → Option (List Sl)
  | .nm i, d, ρ => if bindable ρ i then some (ρ.set i (.d d)) else none
  | .tp ts, .tup ds, ρ => bindTs ts ds ρ
  | .tp ts, .lst ds, ρ => bindTs ts ds ρ
  | .tp _, _, _ => none
def bindTs : List Tg → List D → List Sl → Option (List Sl)
  | [], [], ρ => some ρ
  | t :: ts, d :: ds, ρ => match bindT t d ρ with
    | some ρ' => bindTs ts ds ρ'
    | none => none
  | _, _, _ => none
end
def store (ρ : List Sl) (i : Nat) (t : T) : Option (List Sl) :=
  match t with
  | .d d => if bindable ρ i then some (ρ.set i (.d d)) else none
  | .new o => if bindable ρ i then some (ρ.set i (.own o)) else none
  | .sl j => match settle ρ (.sl j) with
    | some (d, ρ') => if bindable ρ' i then some (ρ'.set i (.d d)) else none
    | none => none
def toArg (ρ : List Sl) : T → Option Arg
  | .d d => some (.fr d)
  | .new o => some (.bo o)
  | .sl i => match ρ[i]? with
    | some (.own o) => some (.bo o)
    | some (.bor o) => some (.bo o)
    | some (.d d) => some (.fr d)
    | some (.fz d) => some (.fr d)
    | _ => none
def toArgs (ρ : List Sl) : List T → Option (List Arg)
  | [] => some []
  | t :: ts => match toArg ρ t, toArgs ρ ts with
    | some a, some as => some (a :: as)
    | _, _ => none
/-- how many new things are handed over -/
def news : List T → Nat
  | [] => 0
  | .new _ :: ts => news ts + 1
  | _ :: ts => news ts
/-- the slots that are lent -/
def lent (ρ : List Sl) : List T → List Nat
  | [] => []
  | .sl i :: ts => match ρ[i]? with
    | some (.own _) => i :: lent ρ ts
    | some (.bor _) => i :: lent ρ ts
    | _ => lent ρ ts
  | _ :: ts => lent ρ ts
/-- an object comes back to the slot that lent it -/
def back1 (s b : Sl) : Option Sl := match s, b with
  | .own _, .bor o => some (.own o)
  | .bor _, .bor o => some (.bor o)
  | .own _, .fz d => some (.d d)
  | .bor _, .fz d => some (.fz d)
  | _, _ => none
def backs (ρ : List Sl) : List T → List Sl → Option (List (Nat × Sl))
  | [], [] => some []
  | .sl i :: ts, b :: bs => match ρ[i]? with
    | some (.own o) => (back1 (.own o) b).bind fun s => (backs ρ ts bs).map fun r => (i, s) :: r
    | some (.bor o) => (back1 (.bor o) b).bind fun s => (backs ρ ts bs).map fun r => (i, s) :: r
    | _ => backs ρ ts bs
  | .d _ :: ts, _ :: bs => backs ρ ts bs
  | .new _ :: ts, _ :: bs => backs ρ ts bs
  | _, _ => none
def setAll (ρ : List Sl) : List (Nat × Sl) → List Sl
  | [] => ρ
  | p :: r => (setAll ρ r).set p.1 p.2
def views (ρ : List Sl) : List T → Option (List D)
  | [] => some []
  | t :: ts => match view ρ t, views ρ ts with
    | some d, some ds => some (d :: ds)
    | _, _ => none
def wipeS (ρ : List Sl) : List Nat → List Sl
  | [] => ρ
  | v :: vs => (wipeS ρ vs).set v .no
def restS (ρ0 ρ : List Sl) : List Nat → List Sl
  | [] => ρ
  | v :: vs => (restS ρ0 ρ vs).set v ((ρ0[v]?).getD .no)
def noOwn (ρ : List Sl) (vs : List Nat) : Bool := vs.all fun v => match ρ[v]? with
  | some (.own _) => false
  | some (.bor _) => false
  | some (.fz _) => false
  | some _ => true
  | none => false
/-- how an argument is taken: 0 as it is, else frozen -/
def taken (m : Nat) (ρ : List Sl) (t : T) : Option (T × List Sl) :=
  match m with
  | 0 => some (t, ρ)
  | _ => match settle ρ t with
    | some (d, ρ') => some (.d d, ρ')
    | none => none
def Ds : List T → Option (List D)
  | [] => some []
  | .d d :: ts => (Ds ts).map (d :: ·)
  | _ :: _ => none
/-- a comprehension's turns -/
def turns (f : D → List Sl → Option (List D × List Sl)) : List D → List Sl → Option (List D × List Sl)
  | [], ρ => some ([], ρ)
  | d :: ds, ρ => match f d ρ with
    | some (x, ρ1) => (match turns f ds ρ1 with
      | some (r, ρ2) => some (x ++ r, ρ2)
      | none => none)
    | none => none
def setO (ρ : List Sl) (i : Nat) (o : O) : Option (List Sl) := match ρ[i]? with
  | some (.own _) => some (ρ.set i (.own o))
  | some (.bor _) => some (ρ.set i (.bor o))
  | _ => none
def getO (ρ : List Sl) (i : Nat) : Option O := match ρ[i]? with
  | some (.own o) => some o
  | some (.bor o) => some o
  | _ => none
/-- a method that changes the list in slot i -/
def mutF : Mt → List D → List D → Option (D × List D)
  | .append, xs, [d] => if xs.length < sizeLine then some (.non, xs ++ [d]) else none
  | .extend, xs, [d] => (seqOf d).bind fun ys => if xs.length + ys.length ≤ sizeLine then some (.non, xs ++ ys) else none
  | .pop, xs, [] => (xs[xs.length - 1]?).map fun d => (d, xs.dropLast)
  | .pop, xs, [.int i] => if -(2 ^ 63) ≤ i ∧ i < 2 ^ 63 then (PySem.seqIndex? i xs.length).bind fun k => (xs[k]?).map fun d => (d, xs.eraseIdx k) else none
  | _, _, _ => none

inductive Fl where
  | nx | bk | ct | rt (t : T)

mutual
def Tg.ix : Tg → List Nat
  | .nm i => [i]
  | .tp ts => Tg.ixs ts
def Tg.ixs : List Tg → List Nat
  | [] => []
  | t :: ts => t.ix ++ Tg.ixs ts
end
def IE.isNop : IE → Bool
  | .nop => true
  | _ => false
abbrev Rs (α : Type) : Type := Option (α × List Sl)
def asB (r : Rs T) : Rs Bool := r.bind fun r => match r.1 with
  | .d (.bl b) => some (b, r.2)
  | _ => none
def asC (n : Bool) (r : Rs T) (ρ : List Sl) : Rs Bool := bif n then some (true, ρ) else asB r
def asP (n : Bool) (r : Rs T) (ρ : List Sl) : Rs (Option Int) := bif n then some (none, ρ) else r.bind fun r => match r.1 with
  | .d (.int i) => some (some i, r.2)
  | _ => none
def asD (r : Rs T) : Rs D := r.bind fun r => settle r.2 r.1
def vw2 (f : D → D → Option T) (ρ : List Sl) (t u : T) : Rs T := (view ρ t).bind fun x => (view ρ u).bind fun y => (f x y).map fun z => (z, ρ)
def vw1 (f : D → Option T) (ρ : List Sl) (t : T) : Rs T := (view ρ t).bind fun x => (f x).map fun z => (z, ρ)
def vws (f : List D → Option T) (ρ : List Sl) (ts : List T) : Rs T := (views ρ ts).bind fun xs => (f xs).map fun z => (z, ρ)
def dB (o : Option Bool) : Option T := o.map fun b => .d (.bl b)
def rngsF (f : Bool) (ds : List D) : Option T := (rngF ds).bind fun xs => if xs.length ≤ 16777216 then some (bif f then .d (.tup xs) else .new (.lst xs)) else none
def lrevF : D → Option T
  | .lst xs => some (.new (.lst xs.reverse))
  | _ => none
def tupF (ts : List T) : Option T := (Ds ts).bind fun ds => if ds.length ≤ sizeLine then some (.d (.tup ds)) else none
def lstF (ts : List T) : Option T := (Ds ts).bind fun ds => if ds.length ≤ sizeLine then some (.new (.lst ds)) else none
def callF (call : Str → List Arg → Option (T × List Sl)) (f : Str) (ts : List T) (ρ : List Sl) : Rs T :=
  (toArgs ρ ts).bind fun args => if (lent ρ ts).Nodup ∧ news ts ≤ 1 then (call f args).bind fun r => (match r.1 with
    | .sl _ => none
    | t => (backs ρ ts r.2).map fun l => (t, setAll ρ l)) else none
def isL : Option Sl → Bool
  | some (.own (.lst _)) => true
  | some (.bor (.lst _)) => true
  | _ => false
def chkL (ρ : List Sl) (i : Nat) : Option Unit := if isL (ρ[i]?) then some () else none
def mthF (m : Mt) (i : Nat) (ts : List T) (ρ : List Sl) : Rs T :=
  (views ρ ts).bind fun ds => (getO ρ i).bind fun o => match o with
    | .lst xs => (mutF m xs ds).bind fun r => (setO ρ i (.lst r.2)).map fun ρ3 => (.d r.1, ρ3)
    | .dic _ _ => none
def slOf : T → Option Nat
  | .sl i => some i
  | _ => none
def zipF (d e : D) : Option (List D) := (seqOf d).bind fun xs => (seqOf e).map fun ys => (xs.zip ys).map fun p => .tup [p.1, p.2]
def enmF : D → Option (List D)
  | .lst xs => some (xs.zipIdx.map fun p => .tup [.int p.2, p.1])
  | _ => none
def bmF : Bm → Str → List D → Option T
  | .partition, a, [.str b] => if (b.length == 0) = false ∧ a.length ≤ sizeLine then some (.d (.tup [.str (Txt.partition a b).1, .str (Txt.partition a b).2.1, .str (Txt.partition a b).2.2])) else none
  | .join, a, [.lst xs] => (D.strs xs).bind fun ys => if (ys.map fun y => y.length).sum + ys.length * a.length ≤ 16777216 then some (.d (.str (Txt.join a ys))) else none
  | _, _, _ => none
def chkStr : T → Option Str
  | .d (.str a) => some a
  | _ => none
def isDicO : Option D → Bool
  | some (.dic _ _) => true
  | _ => false
def chkDic (ρ : List Sl) (t : T) : Option Unit := if isDicO (view ρ t) then some () else none
/-- the pairs of a dict -/
def ditF : D → Option (List D)
  | .dic ks vs => if ks.all (fun k => k.key1.isSome) then some ((ks.zip vs).map fun p => .tup [p.1, p.2]) else none
  | _ => none
def dgetF : D → List D → Option T
  | .dic ks vs, [k] => if dOk ks k then some (.d ((dFind ks vs k).getD .non)) else none
  | .dic ks vs, [k, x] => if dOk ks k then some (.d ((dFind ks vs k).getD x)) else none
  | _, _ => none
/-- keys by a def -/
def keysF (call : Str → List Arg → Option (T × List Sl)) (f : Str) : List D → Option (List D)
  | [] => some []
  | d :: ds => match call f [.fr d] with
    | some (.d k, _) => (keysF call f ds).map (k :: ·)
    | _ => none
/-- what sorted walks -/
def srtIt : D → Option (List D)
  | .lst xs => some xs
  | .dic ks _ => some ks
  | _ => none
def srtkF (call : Str → List Arg → Option (T × List Sl)) (f : Str) (d : D) : Option T := (srtIt d).bind fun ds => (keysF call f ds).bind fun ks => if sortOk ks then some (.new (.lst (((ds.zip ks).mergeSort (PySem.W.dataLe false fun p => p.2.pd)).map fun p => p.1))) else none
def D.isRef : D → Bool
  | .tup _ => true | .lst _ => true | .rd _ => true | .dic _ _ => true | _ => false
/-- a new object's fields -/
def fldT : List FI → List D → Option (List T)
  | [], _ => some []
  | .arg k :: r, ds => (ds[k]?).bind fun d => if d.isRef then (fldT r ds).map (.d d :: ·) else none
  | .dict :: r, ds => (fldT r ds).map (.new (.dic [] []) :: ·)
def asF (r : Rs T) : Rs D := r.bind fun r => settleF r.2 r.1
/-- a written dict; a key written twice: the later value -/
def dspF (ks : List Key) (vs : List D) : Option T := if ks.length ≤ 15 ∧ ks.length = vs.length ∧ ks.Nodup then some (.new (.dic (ks.map keyD) vs)) else none
def kixF (kv : List (Str × D)) : D → Option T
  | .str z => (kv.lookup z).map T.d
  | _ => none
/-- a comprehension's end -/
def lcEnd (ρ1 : List Sl) (own : List Nat) (r : Rs (List D)) : Rs T := r.bind fun r => if r.1.length ≤ sizeLine then some (.new (.lst r.1), restS ρ1 r.2 own) else none
/-- a comprehension's turn -/
def lcTurn (own : List Nat) (tg : Tg) (c : List Sl → Rs Bool) (e : List Sl → Rs D) (x : D) (ρ : List Sl) : Rs (List D) :=
  (bindT tg x ρ).bind fun ρ3 => (c ρ3).bind fun r => if r.1 then (e r.2).bind fun s => some ([s.1], wipeS s.2 own) else some ([], wipeS r.2 own)

/-- a turn of a comprehension with a second source -/
def lcTurn2 (own : List Nat) (tg : Tg) (vs1 : List Nat) (f : List Sl → Rs (List D)) (tg1 : Tg) (c : List Sl → Rs Bool) (e : List Sl → Rs D) (x : D) (ρ : List Sl) : Rs (List D) :=
  (bindT tg x ρ).bind fun ρ3 => (f ρ3).bind fun r => if noOwn r.2 vs1 then (turns (lcTurn vs1 tg1 c e) r.1 (wipeS r.2 vs1)).bind fun s => some (s.1, wipeS (restS r.2 s.2 vs1) own) else none

section
variable (C : Cfg)
mutual
def evE : IE → List Sl → Rs T
  | .var i, ρ => (ρ[i]?).bind fun s => match s with
    | .d d => some (.d d, ρ)
    | .own _ => some (.sl i, ρ)
    | .bor _ => some (.sl i, ρ)
    | .fz d => some (.d d, ρ)
    | .no => none
  | .non, ρ => some (.d .non, ρ)
  | .bl b, ρ => some (.d (.bl b), ρ)
  | .int i, ρ => some (.d (.int i), ρ)
  | .str s, ρ => some (.d (.str s), ρ)
  | .glo x, ρ => (C.glo x).map fun d => (.d d, ρ)
  | .bin op a b, ρ => (evE a ρ).bind fun r => (evE b r.2).bind fun s => vw2 (binF op) s.2 r.1 s.1
  | .neg a, ρ => (evE a ρ).bind fun r => vw1 negF r.2 r.1
  | .cmp op a b, ρ => (evE a ρ).bind fun r => (evE b r.2).bind fun s => vw2 (fun x y => dB (cmpF op x y)) s.2 r.1 s.1
  | .chn op op' a b c, ρ => (evE a ρ).bind fun r => (evE b r.2).bind fun s => (asB (vw2 (fun x y => dB (cmpF op x y)) s.2 r.1 s.1)).bind fun q =>
      if q.1 then (evE c q.2).bind fun w => vw2 (fun x y => dB (cmpF op' x y)) w.2 s.1 w.1 else some (.d (.bl false), q.2)
  | .and_ a b, ρ => (asB (evE a ρ)).bind fun r => if r.1 then evE b r.2 else some (.d (.bl false), r.2)
  | .or_ a b, ρ => (asB (evE a ρ)).bind fun r => if r.1 then some (.d (.bl true), r.2) else evE b r.2
  | .one a, ρ => evE a ρ
  | .not_ a, ρ => (asB (evE a ρ)).bind fun r => some (.d (.bl (!r.1)), r.2)
  | .ife c a b, ρ => (asB (evE c ρ)).bind fun r => if r.1 then evE a r.2 else evE b r.2
  | .kix x a, ρ => (C.kd x).bind fun kv => (evE a ρ).bind fun r => vw1 (kixF kv) r.2 r.1
  | .ix a b, ρ => (evE a ρ).bind fun r => (evE b r.2).bind fun s => vw2 ixF s.2 r.1 s.1
  | .slc a lo hi, ρ => (evE a ρ).bind fun r => (asP lo.isNop (evE lo r.2) r.2).bind fun l => (asP hi.isNop (evE hi l.2) l.2).bind fun h => vw1 (fun x => slF x l.1 h.1) h.2 r.1
  | .nop, _ => none
  | .tup as, ρ => (evA 2 as ρ).bind fun r => (tupF r.1).map fun t => (t, r.2)
  | .lst as, ρ => (evA 2 as ρ).bind fun r => (lstF r.1).map fun t => (t, r.2)
  | .frz a, ρ => (asF (evE a ρ)).map fun r => (.d r.1, r.2)
  | .call f as, ρ => (evA 0 as ρ).bind fun r => callF C.call f r.1 r.2
  | .blt f as, ρ => (evA 0 as ρ).bind fun r => vws (bltF f) r.2 r.1
  | .isi a ts, ρ => (evE a ρ).bind fun r => vw1 (fun d => dB (isiF d ts)) r.2 r.1
  | .rngs f as, ρ => (evA 0 as ρ).bind fun r => vws (rngsF f) r.2 r.1
  | .lrev a, ρ => (evE a ρ).bind fun r => vw1 lrevF r.2 r.1
  | .mth m o as, ρ => (evE o ρ).bind fun r => (slOf r.1).bind fun i => (chkL r.2 i).bind fun _ => (evA (if m = .append then 2 else 0) as r.2).bind fun s => mthF m i s.1 s.2
  | .bm m o as, ρ => (evE o ρ).bind fun r => (chkStr r.1).bind fun z => (evA 0 as r.2).bind fun s => vws (bmF m z) s.2 s.1
  | .dnew, ρ => some (.new (.dic [] []), ρ)
  | .dsp ks vs, ρ => (evA 2 vs ρ).bind fun s => (Ds s.1).bind fun es => (dspF ks es).map fun t => (t, s.2)
  | .dget o as, ρ => (evE o ρ).bind fun r => (chkDic r.2 r.1).bind fun _ => (evA 2 as r.2).bind fun s => (Ds s.1).bind fun es => vw1 (fun d => dgetF d es) s.2 r.1
  | .srtk f a, ρ => if C.up ≠ 0 then (evE a ρ).bind fun r => vw1 (srtkF C.call1 f) r.2 r.1 else none
  | .mcl f gs as, ρ => (evA 0 as ρ).bind fun r => callF C.call f (.sl 0 :: (r.1 ++ gs.map .sl)) r.2
  | .obc f fi as bs, ρ => if 2 ≤ C.up then (evA 2 as ρ).bind fun r => (Ds r.1).bind fun ds => (fldT fi ds).bind fun ft => (evA 0 bs r.2).bind fun s => callF C.call f (.d .obj :: (s.1 ++ ft)) s.2 else none
  | .lc it tg c e own, ρ => if noOwn ρ own then (evI it ρ).bind fun r => if noOwn r.2 own then
      lcEnd r.2 own (turns (lcTurn own tg (fun ρ3 => asC c.isNop (evE c ρ3) ρ3) (fun ρ4 => asD (evE e ρ4))) r.1 (wipeS r.2 own)) else none else none
  | .lc2 it tg it1 tg1 c e own, ρ => if noOwn ρ own then (evI it ρ).bind fun r => if noOwn r.2 own then
      lcEnd r.2 own (turns (lcTurn2 own tg tg1.ix (fun ρ3 => evI it1 ρ3) tg1 (fun ρ3 => asC c.isNop (evE c ρ3) ρ3) (fun ρ4 => asD (evE e ρ4))) r.1 (wipeS r.2 own)) else none else none
def evA (m : Nat) : IAs → List Sl → Rs (List T)
  | .nil, ρ => some ([], ρ)
  | .cons a r, ρ => (evE a ρ).bind fun x => (taken m x.2 x.1).bind fun y => (evA m r y.2).bind fun z => some (y.1 :: z.1, z.2)
def evI : II → List Sl → Rs (List D)
  | .seq e, ρ => (asD (evE e ρ)).bind fun r => (items r.1).map fun xs => (xs, r.2)
  | .rng as, ρ => (evA 0 as ρ).bind fun r => (views r.2 r.1).bind fun ds => (rngF ds).map fun xs => (xs, r.2)
  | .zip a b, ρ => (asD (evE a ρ)).bind fun r => (asD (evE b r.2)).bind fun s => (zipF r.1 s.1).map fun xs => (xs, s.2)
  | .enm a, ρ => (asD (evE a ρ)).bind fun r => (enmF r.1).map fun xs => (xs, r.2)
  | .rev a, ρ => (asD (evE a ρ)).bind fun r => (seqOf r.1).map fun xs => (xs.reverse, r.2)
  | .dit a, ρ => (asD (evE a ρ)).bind fun r => (ditF r.1).map fun xs => (xs, r.2)
end

/-- the turns of a for -/
def forS (f : List Sl → Rs Fl) (tg : Tg) : List D → List Sl → Rs Fl
  | [], ρ => some (.nx, ρ)
  | d :: ds, ρ => (bindT tg d ρ).bind fun ρ1 => (f ρ1).bind fun r => match r.1 with
    | .nx => forS f tg ds r.2
    | .ct => forS f tg ds r.2
    | .bk => some (.nx, r.2)
    | .rt t => some (.rt t, r.2)
def whlS (c : List Sl → Rs Bool) (f : List Sl → Rs Fl) : Nat → List Sl → Rs Fl
  | 0, _ => none
  | n + 1, ρ => (c ρ).bind fun q => if q.1 then (f q.2).bind fun r => (match r.1 with
    | .nx => whlS c f n r.2
    | .ct => whlS c f n r.2
    | .bk => some (.nx, r.2)
    | .rt t => some (.rt t, r.2)) else some (.nx, q.2)
def augF (op : Operator) (x : Sl) (y : D) : Option D := match x, y with
  | .d (.int i), .int j => (match op with
    | .Add => some (.int (i + j))
    | .Sub => some (.int (i - j))
    | _ => none)
  | _, _ => none
/-- what a return hands back -/
def retT (ρ : List Sl) : T → Rs T
  | .d d => some (.d d, ρ)
  | .new o => some (.new o, ρ)
  | .sl i => (ρ[i]?).bind fun s => match s with
    | .own o => some (.new o, ρ.set i .no)
    | .bor (.lst xs) => some (.d (.lst xs), ρ.set i (.fz (.lst xs)))
    | .bor (.dic _ _) => none
    | .d d => some (.d d, ρ)
    | .fz d => some (.d d, ρ)
    | .no => none
def setF (ρ : List Sl) (i : Nat) (k : D) (x : D) : Option (List Sl) := (getO ρ i).bind fun o => match o, k with
  | .lst xs, .int k => (ixN xs.length k).bind fun j => setO ρ i (.lst (xs.set j x))
  | .lst _, _ => none
  | .dic ks vs, k => (dPutF ks vs k x).bind fun r => setO ρ i (.dic r.1 r.2)
/-- a store at an index, its target evaluated -/
def putS (g h : List Sl → Rs T) (x : D) (ρ : List Sl) : Option (List Sl) := (g ρ).bind fun s => (slOf s.1).bind fun j => (asD (h s.2)).bind fun k => setF k.2 j k.1 x
def un2 : D → Option (D × D)
  | .tup [x, y] => some (x, y)
  | _ => none
mutual
def exS : IS → List Sl → Rs Fl
  | .asg i e, ρ => (evE C e ρ).bind fun r => (store r.2 i r.1).map fun ρ2 => (.nx, ρ2)
  | .asgT t e, ρ => (asD (evE C e ρ)).bind fun r => (bindT t r.1 r.2).map fun ρ2 => (.nx, ρ2)
  | .par i j a b, ρ => (asD (evE C a ρ)).bind fun r => (asD (evE C b r.2)).bind fun s => if bindable s.2 i && bindable s.2 j then some (.nx, (s.2.set i (.d r.1)).set j (.d s.1)) else none
  | .aug i op e, ρ => (asD (evE C e ρ)).bind fun r => ((ρ[i]?).bind fun s => augF op s r.1).bind fun z => (bindT (.nm i) z r.2).map fun ρ2 => (.nx, ρ2)
  | .setI o i e, ρ => (asD (evE C e ρ)).bind fun r => (evE C o r.2).bind fun s => (slOf s.1).bind fun j => (asD (evE C i s.2)).bind fun k => (setF k.2 j k.1 r.1).map fun ρ2 => (.nx, ρ2)
  | .set2 o1 i1 o2 i2 e, ρ => (asD (evE C e ρ)).bind fun r => (un2 r.1).bind fun p => (putS (fun ρ => evE C o1 ρ) (fun ρ => evE C i1 ρ) p.1 r.2).bind fun ρ1 => (putS (fun ρ => evE C o2 ρ) (fun ρ => evE C i2 ρ) p.2 ρ1).map fun ρ2 => (.nx, ρ2)
  | .ex e, ρ => (evE C e ρ).bind fun r => some (.nx, r.2)
  | .if_ c a b, ρ => (asB (evE C c ρ)).bind fun r => if r.1 then exSs a r.2 else exSs b r.2
  | .for_ t it body, ρ => (evI C it ρ).bind fun r => forS (fun ρ => exSs body ρ) t r.1 r.2
  | .whl c body, ρ => whlS (fun ρ => asB (evE C c ρ)) (fun ρ => exSs body ρ) C.wf ρ
  | .ret e, ρ => (evE C e ρ).bind fun r => (retT r.2 r.1).map fun s => (.rt s.1, s.2)
  | .retN, ρ => some (.rt (.d .non), ρ)
  | .brk, ρ => some (.bk, ρ)
  | .cnt, ρ => some (.ct, ρ)
  | .pass, ρ => some (.nx, ρ)
  | .nvr, _ => none
def exSs : ISs → List Sl → Rs Fl
  | .nil, ρ => some (.nx, ρ)
  | .cons s r, ρ => (exS s ρ).bind fun q => match q.1 with
    | .nx => exSs r q.2
    | _ => some q
end
end
/-- a def of the program: its name, how many parameters and slots it has, its body -/
structure Fd where
  name : Str
  ps : List Str
  N : List Str
  body : ISs
  gh : List Str := []
def argSl : Arg → Sl
  | .fr d => .d d
  | .bo o => .bor o
def argFz : Arg → Sl
  | .fr d => .fz d
  | .bo o => .bor o
/-- a class: its name, the fields in the order of __init__, what they hold, the methods (name, name in the table, arguments) -/
structure ClD where
  name : Str
  gh : List Str
  na : Nat
  ini : List FI
  meth : List (Str × Str × Nat)
  deriving DecidableEq
def runF (C : Cfg) (fd : Fd) (args : List Arg) : Option (T × List Sl) :=
  if args.length = fd.ps.length then (exSs C fd.body (args.map (bif fd.gh.isEmpty then argSl else argFz) ++ List.replicate (fd.N.length - args.length) .no)).bind fun r => match r.1 with
    | .nx => some (.d .non, r.2.take args.length)
    | .rt (.sl _) => none
    | .rt t => some (t, r.2.take args.length)
    | _ => none
  else none
abbrev CallT : Type := Str → List Arg → Option (T × List Sl)
/-- by depth: with n more, with one less -/
def callP (tab : List Fd) (glo : Str → Option D) (wf : Nat) (kd : Str → Option (List (Str × D))) : Nat → CallT × CallT
  | 0 => (fun _ _ => none, fun _ _ => none)
  | n + 1 => (fun f args => (tab.find? fun d => d.name == f).bind fun fd => runF ⟨(callP tab glo wf kd n).1, (callP tab glo wf kd n).2, n, glo, wf, kd⟩ fd args, (callP tab glo wf kd n).1)
def callN (tab : List Fd) (glo : Str → Option D) (wf : Nat) (kd : Str → Option (List (Str × D))) (n : Nat) : CallT := (callP tab glo wf kd n).1
def callM (tab : List Fd) (glo : Str → Option D) (wf : Nat) (kd : Str → Option (List (Str × D))) (n : Nat) : CallT := (callP tab glo wf kd n).2
theorem callN_0 {tab : List Fd} {glo : Str → Option D} {wf : Nat} {kd : Str → Option (List (Str × D))} : callN tab glo wf kd 0 = fun _ _ => none := rfl
theorem callN_s {tab : List Fd} {glo : Str → Option D} {wf : Nat} {kd : Str → Option (List (Str × D))} {n : Nat} {f : Str} {args : List Arg} : callN tab glo wf kd (n + 1) f args =
    (tab.find? fun d => d.name == f).bind fun fd => runF ⟨callN tab glo wf kd n, callM tab glo wf kd n, n, glo, wf, kd⟩ fd args := rfl
theorem callM_s {tab : List Fd} {glo : Str → Option D} {wf : Nat} {kd : Str → Option (List (Str × D))} {n : Nat} : callM tab glo wf kd (n + 1) = callN tab glo wf kd n := rfl
theorem callM_0 {tab : List Fd} {glo : Str → Option D} {wf : Nat} {kd : Str → Option (List (Str × D))} : callM tab glo wf kd 0 = fun _ _ => none := rfl
end Fw

set_option maxHeartbeats 4000000
/-! FwC: dicts by trees: what is asked of one, what is stored. -/
namespace Fw
open PySem PySem.Spec PyProof.Rows L2
mutual
theorem nk_tf : ∀ {d : D} {k : NestedKey}, d.nk = some k → tfK k = true
  | .non, k, h => by simp [D.nk] at h; subst h; rfl
  | .bl _, k, h => by simp [D.nk] at h
  | .int i, k, h => by simp [D.nk] at h; subst h; rfl
  | .str _, k, h => by simp [D.nk] at h
  | .tup xs, k, h => by
    simp only [D.nk] at h
    obtain ⟨ks, e, rfl⟩ := Option.map_eq_some_iff.mp h
    simp only [tfK]
    exact nks_tf e
  | .lst _, k, h => by simp [D.nk] at h
  | .rd _, k, h => by simp [D.nk] at h
  | .dic _ _, k, h => by simp [D.nk] at h
theorem nks_tf : ∀ {ds : List D} {ks : List NestedKey}, D.nks ds = some ks → tfKs ks = true
  | [], ks, h => by simp [D.nks] at h; subst h; rfl
  | d :: ds, ks, h => by
    simp only [D.nks] at h
    split at h
    · rename_i k ks' e1 e2
      cases h
      simp only [tfKs, Bool.and_eq_true]
      exact ⟨nk_tf e1, nks_tf e2⟩
    · cases h
end
theorem tk_nk {d : D} {k : NestedKey} (h : d.tk = some k) : d.nk = some k ∧ k.depth ≤ 8 ∧ ∃ xs, d = .tup xs := by
  unfold D.tk at h
  split at h
  · obtain ⟨k', e1, e2⟩ := Option.bind_eq_some_iff.mp h
    split at e2
    · cases e2; exact ⟨e1, by assumption, _, rfl⟩
    · cases e2
  · cases h
section
variable {X : Cx} {pins : List (Addr × Obj)} {σ : St} {H G : Hp} {s : Shared}
mutual
theorem nkIs (I : Inv X pins σ H s) (sg : Same G H) : ∀ {v : V} {d : D} {k : NestedKey} {u : Value}, Rep X.K G v d → d.nk = some k → RelV v u → NestedIs s.heap k u
  | _, _, k, u, .non, e, r => by
    simp [D.nk] at e; subst e
    cases (show u = Value.none from r)
    exact .none
  | _, _, k, u, .bl b, e, r => by simp [D.nk] at e
  | _, _, k, u, .int i, e, r => by
    simp [D.nk] at e; subst e
    obtain ⟨t, rfl⟩ := r
    exact .int i t
  | _, _, k, u, .str x, e, r => by simp [D.nk] at e
  | _, _, k, u, .tup h l, e, r => by
    simp only [D.nk] at e
    obtain ⟨ks, e1, rfl⟩ := Option.map_eq_some_iff.mp e
    obtain ⟨its, rv, ⟨o, ho, hc, n, hd⟩, hz⟩ := I.tuple (sqT_mono sg h)
    obtain rfl : u = Value.ref _ := r
    exact .tup ho hc hd (by simpa using nkAll I sg l e1 rv)
  | _, _, k, u, .lst h l, e, r => by simp [D.nk] at e
  | _, _, k, u, .rd h l, e, r => by simp [D.nk] at e
  | _, _, k, u, .dicS h l, e, r => by simp [D.nk] at e
  | _, _, k, u, .dicT h kk q l, e, r => by simp [D.nk] at e
theorem nkAll (I : Inv X pins σ H s) (sg : Same G H) : ∀ {vs : List V} {ds : List D} {ks : List NestedKey} {us : List Value}, RepL X.K G vs ds → D.nks ds = some ks → Vals vs us → NestedAll s.heap ks us
  | _, _, ks, us, .nil, e, r => by
    simp [D.nks] at e; subst e
    cases r
    exact .nil
  | _, _, ks, us, .cons h l, e, r => by
    simp only [D.nks] at e
    cases r with
    | cons r1 r2 =>
      split at e
      · rename_i k ks' e1 e2
        cases e
        exact .cons (nkIs I sg h e1 r1) (nkAll I sg l e2 r2)
      · cases e
end
end
theorem key1_keyD (k : Key) : (keyD k).key1 = some k := by cases k <;> rfl
theorem key1_inv {d : D} {k : Key} (h : d.key1 = some k) : d = keyD k := by
  cases d <;> simp [D.key1] at h <;> subst h <;> rfl
theorem keq_keyD {p : Key} {k : D} {key : Key} (h : k.key1 = some key) : (keyD p).keq k = decide (p = key) := by
  unfold D.keq
  rw [key1_keyD, h]
theorem nk_key1 {d : D} {k : NestedKey} {xs : List D} (e : d = .tup xs) : d.key1 = none := by subst e; rfl
theorem keq_nk {a b : D} {x y : NestedKey} {xs : List D} (ha : a.nk = some x) (hb : b.nk = some y) (e : b = .tup xs) : a.keq b = decide (x = y) := by
  subst e
  unfold D.keq
  have : (D.tup xs).key1 = none := rfl
  rw [this, ha, hb]
  cases a.key1 <;> rfl
section
variable {K : PySem.W.Frag} {G : Hp}
theorem findA {k : D} {key : Key} (hk : k.key1 = some key) : ∀ {kvs : List (Key × V)} {vs : List D}, RepL K G (kvs.map fun p => p.2) vs →
    (∀ d, dFind (kvs.map fun p => keyD p.1) vs k = some d → ∃ v, valV kvs key = some v ∧ Rep K G v d) ∧ (dFind (kvs.map fun p => keyD p.1) vs k = none → valV kvs key = none) ∧ dHas (kvs.map fun p => keyD p.1) k = (valV kvs key).isSome
  | [], vs, l => by
    cases l
    exact ⟨fun d h => by simp [dFind] at h, fun _ => rfl, rfl⟩
  | p :: kvs, vs, l => by
    cases l with
    | @cons v _ d ds h l =>
      obtain ⟨i1, i2, i3⟩ := findA hk (kvs := kvs) l
      have eq := keq_keyD (p := p.1) hk
      by_cases e : p.1 = key
      · rw [decide_eq_true e] at eq
        have e1 : dFind ((p :: kvs).map fun p => keyD p.1) (d :: ds) k = some d := by
          unfold dFind
          rw [List.map_cons, List.zip_cons_cons, List.find?_cons]
          simp only [eq]
          try rfl
        refine ⟨fun d' h' => ?_, fun h' => ?_, ?_⟩
        · rw [e1] at h'; cases h'
          exact ⟨p.2, valV_pos e, h⟩
        · rw [e1] at h'; cases h'
        · rw [valV_pos e]
          simp [dHas, eq]
      · rw [decide_eq_false e] at eq
        have e1 : dFind ((p :: kvs).map fun p => keyD p.1) (d :: ds) k = dFind (kvs.map fun p => keyD p.1) ds k := by
          unfold dFind
          rw [List.map_cons, List.zip_cons_cons, List.find?_cons]
          simp only [eq]
          try rfl
        rw [e1, valV_neg e]
        refine ⟨i1, i2, ?_⟩
        rw [← i3]
        simp [dHas, eq]
theorem tVal_pos {x : NestedKey × Addr × V} {r : TX} {k : NestedKey} (e : x.1 = k) : tVal (x :: r) k = some x.2.2 := by simp [tVal, List.find?_cons, e]
theorem tVal_neg {x : NestedKey × Addr × V} {r : TX} {k : NestedKey} (e : ¬ x.1 = k) : tVal (x :: r) k = tVal r k := by simp [tVal, List.find?_cons, e]
theorem findB {k : D} {nk : NestedKey} {ys : List D} (hk : k.nk = some nk) (ey : k = .tup ys) : ∀ {xs : TX} {ks vs : List D}, ks.map D.nk = xs.map (fun x => some x.1) → RepL K G (xs.map fun x => x.2.2) vs →
    (∀ d, dFind ks vs k = some d → ∃ v, tVal xs nk = some v ∧ Rep K G v d) ∧ (dFind ks vs k = none → tVal xs nk = none) ∧ dHas ks k = (tVal xs nk).isSome
  | [], ks, vs, m, l => by
    cases l
    have : ks = [] := by cases ks with
      | nil => rfl
      | cons => simp at m
    subst this
    exact ⟨fun d h => by simp [dFind] at h, fun _ => rfl, rfl⟩
  | x :: xs, ks, vs, m, l => by
    cases l with
    | @cons v _ d ds h l =>
      cases ks with
      | nil => simp at m
      | cons q ks =>
        simp only [List.map_cons, List.cons.injEq] at m
        obtain ⟨m1, m2⟩ := m
        obtain ⟨i1, i2, i3⟩ := findB hk ey (xs := xs) m2 l
        have eq := keq_nk m1 hk ey
        by_cases e : x.1 = nk
        · have e1 : dFind (q :: ks) (d :: ds) k = some d := by
            unfold dFind
            rw [List.zip_cons_cons, List.find?_cons]
            simp [eq, e]
          refine ⟨fun d' h' => ?_, fun h' => ?_, ?_⟩
          · rw [e1] at h'; cases h'
            exact ⟨x.2.2, tVal_pos e, h⟩
          · rw [e1] at h'; cases h'
          · rw [tVal_pos e]
            simp [dHas, eq, e]
        · have e1 : dFind (q :: ks) (d :: ds) k = dFind ks ds k := by
            unfold dFind
            rw [List.zip_cons_cons, List.find?_cons]
            simp [eq, e]
          rw [e1, tVal_neg e]
          refine ⟨i1, i2, ?_⟩
          rw [← i3]
          simp [dHas, eq, e]
end
theorem vint {K : PySem.W.Frag} {G H : Hp} {v : V} {i : Int} (h : VRep K G H v (.int i)) : v = .int i := by cases (show Rep _ _ _ (.int _) from h); rfl
theorem vstr {K : PySem.W.Frag} {G H : Hp} {v : V} {i : Str} (h : VRep K G H v (.str i)) : v = .str i := by cases (show Rep _ _ _ (.str _) from h); rfl
theorem vtup {K : PySem.W.Frag} {G : Hp} {v : V} {ds : List D} (h : Rep K G v (.tup ds)) : ∃ a vs, v = .ref a ∧ SqT K G a vs ∧ RepL K G vs ds := by
  cases h with
  | tup e l => exact ⟨_, _, rfl, e, l⟩
section
variable {X : Cx} {pins : List (Addr × Obj)} {σ : St} {H G : Hp} {s : Shared} {v y : V} {ks vs : List D} {k : D}
/-- what stands behind a dict's question -/
def DQ (X : Cx) (G H : Hp) (s : Shared) (a : Addr) (y : V) (ks vs : List D) (k : D) : Prop :=
  (∃ (kvs : List (Key × V)) (key : Key), Rd H a (.dK kvs) ∧ y = kV key ∧ k.key1 = some key ∧ ks = kvs.map (fun p => keyD p.1) ∧ RepL X.K G (kvs.map fun p => p.2) vs) ∨
  ∃ (xs : TX) (nk : NestedKey) (b : Addr) (ys : List D), y = .ref b ∧ tdP a xs s.heap ∧ (∀ x ∈ xs, KeyAt X.prog X.w s.heap x.1 x.2.1) ∧ KeyAt X.prog X.w s.heap nk b ∧ k.nk = some nk ∧ k = .tup ys ∧
    RepL X.K G (xs.map fun x => V.ref x.2.1) ks ∧ ks.map D.nk = xs.map (fun x => some x.1) ∧ RepL X.K G (xs.map fun x => x.2.2) vs
theorem refs_keys (I : Inv X pins σ H s) (sg : Same G H) : ∀ {xs : TX} {ks : List D}, (∀ x ∈ xs, tfK x.1 = true ∧ x.1.depth ≤ 8) → RepL X.K G (xs.map fun x => V.ref x.2.1) ks → ks.map D.nk = xs.map (fun x => some x.1) → ∀ x ∈ xs, KeyAt X.prog X.w s.heap x.1 x.2.1
  | [], _, _, _, _, x, hx => by cases hx
  | z :: xs, ks, tf, l, m, x, hx => by
    cases l with
    | @cons _ _ d ds h l =>
      simp only [List.map_cons, List.cons.injEq] at m
      rcases List.mem_cons.mp hx with rfl | hx
      · exact ⟨nkIs I sg h m.1 rfl, (tf _ List.mem_cons_self).2⟩
      · exact refs_keys I sg (fun x hx => tf x (List.mem_cons_of_mem _ hx)) l m.2 x hx
theorem dq_of (I : Inv X pins σ H s) (sg : Same G H) (hd : VRep X.K G H v (.dic ks vs)) (hy : VRep X.K G H y k) (ok : dOk ks k = true) : ∃ a, v = .ref a ∧ (∃ u, Rd H a u ∧ DicU X.K G a u ks vs) ∧ DQ X G H s a y ks vs k := by
  obtain ⟨a, u, rfl, rd, du⟩ := hd
  refine ⟨a, rfl, ⟨u, rd, du⟩, ?_⟩
  unfold dOk at ok
  rw [Bool.and_eq_true, Bool.or_eq_true] at ok
  have scal : ∀ {key : Key}, k.key1 = some key → y = kV key := fun {key} e => by
    have := key1_inv e
    subst this
    cases key with
    | inl i => exact vint hy
    | inr x => exact vstr hy
  have tupl : ∀ {nk : NestedKey}, k.tk = some nk → ∃ b ys, y = .ref b ∧ KeyAt X.prog X.w s.heap nk b ∧ k.nk = some nk ∧ k = .tup ys := fun {nk} e => by
    obtain ⟨e1, e2, ys, e3⟩ := tk_nk e
    subst e3
    obtain ⟨b, ws, rfl, q, l⟩ := vtup (show Rep X.K G y (.tup ys) from hy)
    exact ⟨b, ys, rfl, ⟨nkIs I sg (.tup q l) e1 rfl, e2⟩, e1, rfl⟩
  rcases du with ⟨kvs, rfl, rfl, l⟩ | ⟨xs, rfl, l1, ⟨m, ne⟩, l2⟩
  · cases hk : k.key1 with
    | some key => exact .inl ⟨kvs, key, rd, scal hk, hk, rfl, l⟩
    | none =>
      cases kvs with
      | nil =>
        rw [hk] at ok
        obtain ⟨nk, ht⟩ := Option.isSome_iff_exists.mp (ok.1.resolve_left (by simp))
        obtain ⟨b, ys, e1, e2, e3, e4⟩ := tupl ht
        have ob := rd.ok I.hok
        refine .inr ⟨[], nk, b, ys, e1, tdP_empty ob rfl, fun x hx => (by cases hx), e2, e3, e4, .nil, rfl, l⟩
      | cons p kvs =>
        have := ok.2
        rw [hk] at this
        simp [key1_keyD] at this
  · have hks : k.key1 = none := by
      cases ks with
      | nil => cases xs with
        | nil => exact absurd rfl ne
        | cons => simp at m
      | cons d ks =>
        have h2 := ok.2
        cases xs with
        | nil => simp at m
        | cons x xs =>
          cases l1 with
          | cons h l1 =>
            have : d.key1 = none := by cases h <;> rfl
            have h3 : (d.key1.isSome == k.key1.isSome) = true := h2
            rw [this] at h3
            cases q : k.key1 with
            | none => rfl
            | some z => rw [q] at h3; cases h3
    rw [hks] at ok
    obtain ⟨nk, ht⟩ := Option.isSome_iff_exists.mp (ok.1.resolve_left (by simp))
    obtain ⟨b, ys, e1, e2, e3, e4⟩ := tupl ht
    have t := tdP_of I.hok rd
    exact .inr ⟨xs, nk, b, ys, e1, t, refs_keys I sg t.2.2.1 l1 m, e2, e3, e4, l1, m, l2⟩
theorem dq_in {A : Around} {E : Value → Shared → Prop} {uv uy : Value} {Q : Value → Shared → Prop} (hu : A.units + 16 < cLine) (I : Inv X pins σ H s) (sg : Same G H) (hd : VRep X.K G H v (.dic ks vs)) (hy : VRep X.K G H y k) (ok : dOk ks k = true) (rv : RelV v uv) (ry : RelV y uy)
    (q : ∀ s', Inv X pins σ H s' → Q (.bool (dHas ks k)) s') : wpAny (model X.prog X.w) A (compareOp .In uy uv) Q E s := by
  obtain ⟨a, rfl, _, dq⟩ := dq_of I sg hd hy ok
  obtain rfl : uv = Value.ref a := rv
  rcases dq with ⟨kvs, key, rd, ey, hk, eks, l⟩ | ⟨xs, nk, b, ys, ey, t, kat, hk, e1, e2, l1, m, l2⟩
  · subst eks
    refine d_in (by omega) I (.inl ⟨kvs, key, rd, ey, rfl⟩) ry fun s' I' => ?_
    rw [← (findA hk l).2.2]
    exact q s' I'
  · subst ey
    obtain rfl : uy = Value.ref b := ry
    refine td_in hu I t kat hk fun s' I' => ?_
    rw [← (findB e1 e2 m l2).2.2]
    exact q s' I'
theorem dq_notIn {A : Around} {E : Value → Shared → Prop} {uv uy : Value} {Q : Value → Shared → Prop} (hu : A.units + 16 < cLine) (I : Inv X pins σ H s) (sg : Same G H) (hd : VRep X.K G H v (.dic ks vs)) (hy : VRep X.K G H y k) (ok : dOk ks k = true) (rv : RelV v uv) (ry : RelV y uy)
    (q : ∀ s', Inv X pins σ H s' → Q (.bool (!dHas ks k)) s') : wpAny (model X.prog X.w) A (compareOp .NotIn uy uv) Q E s := by
  obtain ⟨a, rfl, _, dq⟩ := dq_of I sg hd hy ok
  obtain rfl : uv = Value.ref a := rv
  rcases dq with ⟨kvs, key, rd, ey, hk, eks, l⟩ | ⟨xs, nk, b, ys, ey, t, kat, hk, e1, e2, l1, m, l2⟩
  · subst eks
    refine d_notIn (by omega) I (.inl ⟨kvs, key, rd, ey, rfl⟩) ry fun s' I' => ?_
    rw [← (findA hk l).2.2]
    exact q s' I'
  · subst ey
    obtain rfl : uy = Value.ref b := ry
    refine td_notIn hu I t kat hk fun s' I' => ?_
    rw [← (findB e1 e2 m l2).2.2]
    exact q s' I'
theorem dq_typeIs (I : Inv X pins σ H s) (hd : VRep X.K G H v (.dic ks vs)) {uv : Value} (rv : RelV v uv) : s.TypeIs uv "dict" ∧ ∀ b, uv = .ref b → ∃ ob, s.heap.get? b = some ob ∧ ob.dict = none := by
  obtain ⟨a, u, rfl, rd, du⟩ := hd
  obtain rfl : uv = Value.ref a := rv
  rcases du with ⟨kvs, rfl, _⟩ | ⟨xs, rfl, _⟩
  · obtain ⟨z, d, vs', r, o, es, ep, e, ex, _⟩ := rd.ok I.hok
    exact ⟨⟨o, e, ex.1⟩, fun b q => by cases q; exact ⟨o, e, ex.2.1⟩⟩
  · have t := tdP_of I.hok rd
    exact ⟨td_typeIs t, td_noDict t⟩
theorem dq_getItem {A : Around} {E : Value → Shared → Prop} {uv uy : Value} {d : D} {Q : Value → Shared → Prop} (hu : A.units + 16 < cLine) (I : Inv X pins σ H s) (sg : Same G H) (hd : VRep X.K G H v (.dic ks vs)) (hy : VRep X.K G H y k) (ok : dOk ks k = true) (g : dFind ks vs k = some d) (rv : RelV v uv) (ry : RelV y uy)
    (q : ∀ z w' s', Inv X pins σ H s' → RelV z w' → Rep X.K G z d → Q w' s') : wpAny (model X.prog X.w) A (getItem uv uy) Q E s := by
  obtain ⟨a, rfl, _, dq⟩ := dq_of I sg hd hy ok
  obtain rfl : uv = Value.ref a := rv
  rcases dq with ⟨kvs, key, rd, ey, hk, eks, l⟩ | ⟨xs, nk, b, ys, ey, t, kat, hk, e1, e2, l1, m, l2⟩
  · subst eks
    obtain ⟨z, e, r⟩ := (findA hk l).1 d g
    exact d_getItem (by omega) I (.inl ⟨kvs, key, rd, ey, e.symm⟩) ry fun w' s' I' rw' => q z w' s' I' rw' r
  · subst ey
    obtain rfl : uy = Value.ref b := ry
    obtain ⟨z, e, r⟩ := (findB e1 e2 m l2).1 d g
    exact td_getItem hu I t kat hk e fun w' s' I' rw' => q z w' s' I' rw' r
theorem dq_get1 {A : Around} {E : Value → Shared → Prop} {uv uy : Value} {Q : Value → Shared → Prop} (hu : A.units + 16 < cLine) (I : Inv X pins σ H s) (sg : Same G H) (hd : VRep X.K G H v (.dic ks vs)) (hy : VRep X.K G H y k) (ok : dOk ks k = true) (rv : RelV v uv) (ry : RelV y uy)
    (q : ∀ z w' s', Inv X pins σ H s' → RelV z w' → Rep X.K G z ((dFind ks vs k).getD .non) → Q w' s') : wpAny (model X.prog X.w) A (call (.builtin "dict.get") [uv, uy]) Q E s := by
  obtain ⟨a, rfl, _, dq⟩ := dq_of I sg hd hy ok
  obtain rfl : uv = Value.ref a := rv
  have fin : ∀ {o : Option V}, (∀ d, dFind ks vs k = some d → ∃ v, o = some v ∧ Rep X.K G v d) → (dFind ks vs k = none → o = none) → Rep X.K G (o.getD .non) ((dFind ks vs k).getD .non) := fun {o} h1 h2 => by
    cases e : dFind ks vs k with
    | none => rw [h2 e]; exact .non
    | some d => obtain ⟨v, rfl, r⟩ := h1 d e; exact r
  rcases dq with ⟨kvs, key, rd, ey, hk, eks, l⟩ | ⟨xs, nk, b, ys, ey, t, kat, hk, e1, e2, l1, m, l2⟩
  · subst eks
    have F := findA hk l
    exact d_get1 (by omega) I (.inl ⟨kvs, key, rd, ey, rfl⟩) ry fun w' s' I' rw' => q _ w' s' I' rw' (fin F.1 F.2.1)
  · subst ey
    obtain rfl : uy = Value.ref b := ry
    have F := findB e1 e2 m l2
    exact td_get1 hu I t kat hk fun w' s' I' rw' => q _ w' s' I' rw' (fin F.1 F.2.1)
theorem dq_get2 {A : Around} {E : Value → Shared → Prop} {uv uy ux : Value} {x : V} {dx : D} {Q : Value → Shared → Prop} (hu : A.units + 16 < cLine) (I : Inv X pins σ H s) (sg : Same G H) (hd : VRep X.K G H v (.dic ks vs)) (hy : VRep X.K G H y k) (ok : dOk ks k = true) (rv : RelV v uv) (ry : RelV y uy) (rx : RelV x ux) (hx : Rep X.K G x dx)
    (q : ∀ z w' s', Inv X pins σ H s' → RelV z w' → Rep X.K G z ((dFind ks vs k).getD dx) → Q w' s') : wpAny (model X.prog X.w) A (call (.builtin "dict.get") [uv, uy, ux]) Q E s := by
  obtain ⟨a, rfl, _, dq⟩ := dq_of I sg hd hy ok
  obtain rfl : uv = Value.ref a := rv
  have fin : ∀ {o : Option V}, (∀ d, dFind ks vs k = some d → ∃ v, o = some v ∧ Rep X.K G v d) → (dFind ks vs k = none → o = none) → Rep X.K G (o.getD x) ((dFind ks vs k).getD dx) := fun {o} h1 h2 => by
    cases e : dFind ks vs k with
    | none => rw [h2 e]; exact hx
    | some d => obtain ⟨v, rfl, r⟩ := h1 d e; exact r
  rcases dq with ⟨kvs, key, rd, ey, hk, eks, l⟩ | ⟨xs, nk, b, ys, ey, t, kat, hk, e1, e2, l1, m, l2⟩
  · subst eks
    have F := findA hk l
    exact d_get2 (by omega) I (.inl ⟨kvs, key, rd, ey, rfl⟩) ry rx fun w' s' I' rw' => q _ w' s' I' rw' (fin F.1 F.2.1)
  · subst ey
    obtain rfl : uy = Value.ref b := ry
    have F := findB e1 e2 m l2
    exact td_get2 hu I t kat hk rx fun w' s' I' rw' => q _ w' s' I' rw' (fin F.1 F.2.1)
theorem dq_len {A : Around} {E : Value → Shared → Prop} {uv : Value} {Q : Value → Shared → Prop} (I : Inv X pins σ H s) (sg : Same G H) (hd : VRep X.K G H v (.dic ks vs)) (rv : RelV v uv)
    (q : ∀ t s', Inv X pins σ H s' → Q (.int ks.length t) s') : wpAny (model X.prog X.w) A (call (.builtin "len") [uv]) Q E s := by
  obtain ⟨a, u, rfl, rd, du⟩ := hd
  obtain rfl : uv = Value.ref a := rv
  rcases du with ⟨kvs, rfl, rfl, l⟩ | ⟨xs, rfl, l1, ⟨m, _⟩, l2⟩
  · rw [List.length_map] at q
    exact d_len I rd q
  · have e : ks.length = xs.length := by
      have := congrArg List.length m
      simpa using this
    rw [e] at q
    have t := tdP_of I.hok rd
    exact td_len I t (refs_keys I sg t.2.2.1 l1 m) q
/-! ### storing -/
theorem zipA {K : PySem.W.Frag} {G : Hp} {k : D} {key : Key} (hk : k.key1 = some key) {z : V} {x : D} (r : Rep K G z x) : ∀ {kvs : List (Key × V)} {vs : List D}, RepL K G (kvs.map fun p => p.2) vs →
    RepL K G ((kvs.map fun kv => if kv.1 = key then (kv.1, z) else kv).map fun p => p.2) (((kvs.map fun p => keyD p.1).zip vs).map fun p => if p.1.keq k then x else p.2)
  | [], vs, l => by cases l; exact .nil
  | p :: kvs, vs, l => by
    cases l with
    | @cons v _ d ds h l =>
      have ih := zipA hk r (kvs := kvs) l
      have eq := keq_keyD (p := p.1) hk
      rw [List.map_cons, List.map_cons, List.map_cons, List.zip_cons_cons, List.map_cons]
      refine .cons ?_ ih
      by_cases e : p.1 = key
      · rw [decide_eq_true e] at eq
        simp only [e, if_true, eq]
        rw [e] at eq
        rw [if_pos eq]
        exact r
      · rw [decide_eq_false e] at eq
        simp only [e, if_false, eq]
        exact h
theorem zipB {K : PySem.W.Frag} {G : Hp} {k : D} {nk : NestedKey} {ys : List D} (hk : k.nk = some nk) (ey : k = .tup ys) {z : V} {x : D} (r : Rep K G z x) : ∀ {xs : TX} {ks vs : List D}, ks.map D.nk = xs.map (fun x => some x.1) → RepL K G (xs.map fun x => x.2.2) vs →
    RepL K G ((xs.map fun x => if x.1 = nk then (x.1, x.2.1, z) else x).map fun x => x.2.2) ((ks.zip vs).map fun p => if p.1.keq k then x else p.2)
  | [], ks, vs, m, l => by
    cases l
    have : ks = [] := by cases ks with
      | nil => rfl
      | cons => simp at m
    subst this
    exact .nil
  | p :: xs, ks, vs, m, l => by
    cases l with
    | @cons v _ d ds h l =>
      cases ks with
      | nil => simp at m
      | cons q ks =>
        simp only [List.map_cons, List.cons.injEq] at m
        obtain ⟨m1, m2⟩ := m
        have ih := zipB hk ey r (xs := xs) m2 l
        have eq := keq_nk m1 hk ey
        rw [List.map_cons, List.map_cons, List.zip_cons_cons, List.map_cons]
        refine .cons ?_ ih
        by_cases e : p.1 = nk
        · rw [decide_eq_true e] at eq
          simp only [e, if_true, eq]
          exact r
        · rw [decide_eq_false e] at eq
          simp only [e, if_false, eq]
          exact h
theorem dq_setItem {A : Around} {E : Value → Shared → Prop} {a : Addr} {u : HO} {uy r : Value} {z : V} {x : D} {ks' vs' : List D} {Q : Unit → Shared → Prop} (hu : A.units + 16 < cLine) (I : Inv X pins σ H s) (sg : Same G H) (ha : H a = some u) (du : DicU X.K G a u ks vs) (hy : VRep X.K G H y k)
    (hp : dPutF ks vs k x = some (ks', vs')) (ry : RelV y uy) (rz : RelV z r) (hx : Rep X.K G z x) (hky : Rep X.K G y k)
    (q : ∀ u', DicU X.K G a u' ks' vs' → ∀ s', Inv X pins σ (upd H a u') s' → Q () s') : wpAny (model X.prog X.w) A (setItem (.ref a) uy r) Q E s := by
  unfold dPutF at hp
  split at hp
  · rename_i ok
    rw [Bool.and_eq_true, decide_eq_true_eq] at ok
    have mu := du.mut
    obtain ⟨a', ea, ⟨u', rd', du'⟩, dq⟩ := dq_of I sg ⟨a, u, rfl, .inl ha, du⟩ hy ok.1
    cases ea
    have eu : u' = u := by
      rcases rd' with e | ⟨o, e⟩
      · rw [ha] at e; cases e; rfl
      · rw [ha] at e; cases e; exact mu.elim
    subst eu
    clear rd' du'
    rcases dq with ⟨kvs, key, rd, ey, hk, eks, l⟩ | ⟨xs, nk, b, ys, ey, t, kat, hkb, e1, e2, l1, m, l2⟩
    · have e : u' = .dK kvs := by
        rcases rd with e | ⟨o, e⟩
        · rw [ha] at e; cases e; rfl
        · rw [ha] at e; cases e; exact mu.elim
      subst e eks
      have hl : kvs.length < sizeLine := by simpa using ok.2
      refine d_setItem (v := z) (by omega) I (.inl ⟨kvs, key, ha, ey, hl, rfl⟩) ry rz fun s' I' => q _ (.inl ⟨_, rfl, ?_, ?_⟩) s' I'
      · have F := (findA hk l).2.2
        rw [F] at hp
        unfold putK
        rw [valV_any]
        split at hp
        · rename_i hs
          rw [if_pos hs]
          cases hp
          rw [List.map_map]
          refine List.map_congr_left fun p _ => ?_
          by_cases e : p.1 = key <;> simp [e]
        · rename_i hs
          rw [if_neg hs]
          cases hp
          rw [List.map_append, key1_inv hk]
          rfl
      · have F := (findA hk l).2.2
        rw [F] at hp
        unfold putK
        rw [valV_any]
        split at hp
        · rename_i hs
          rw [if_pos hs]
          cases hp
          exact zipA hk hx l
        · rename_i hs
          rw [if_neg hs]
          cases hp
          rw [List.map_append]
          exact l.append (.cons hx .nil)
    · subst ey
      obtain rfl : uy = Value.ref b := ry
      have hl : xs.length < sizeLine := by
        have := congrArg List.length m
        simp only [List.length_map] at this
        omega
      have F := (findB e1 e2 m l2).2.2
      rw [F] at hp
      refine td_setItem (v := z) hu I (by rw [ha]; exact mu) t kat hkb (nk_tf e1) rz hl fun s' I' => q _ (.inr ⟨_, rfl, ?_, ⟨?_, ?_⟩, ?_⟩) s' I'
      · unfold tPut
        split at hp
        · rename_i hs
          rw [if_pos hs]
          cases hp
          have e : (xs.map fun x => if x.1 = nk then (x.1, x.2.1, z) else x).map (fun x => V.ref x.2.1) = xs.map fun x => V.ref x.2.1 := by
            rw [List.map_map]
            refine List.map_congr_left fun p _ => ?_
            by_cases e : p.1 = nk <;> simp [e]
          rw [e]
          exact l1
        · rename_i hs
          rw [if_neg hs]
          cases hp
          rw [List.map_append]
          exact l1.append (.cons hky .nil)
      · unfold tPut
        split at hp
        · rename_i hs
          rw [if_pos hs]
          cases hp
          rw [List.map_map, m]
          refine List.map_congr_left fun p _ => ?_
          by_cases e : p.1 = nk <;> simp [e]
        · rename_i hs
          rw [if_neg hs]
          cases hp
          rw [List.map_append, List.map_append, m]
          simp [e1]
      · unfold tPut
        split
        · rename_i hs
          intro z
          have : xs = [] := List.map_eq_nil_iff.mp z
          subst this
          cases hs
        · simp
      · unfold tPut
        split at hp
        · rename_i hs
          rw [if_pos hs]
          cases hp
          exact zipB e1 e2 hx m l2
        · rename_i hs
          rw [if_neg hs]
          cases hp
          rw [List.map_append]
          exact l2.append (.cons hx .nil)
  · cases hp
end
end Fw

set_option maxHeartbeats 4000000
/-! Fw3: the operations by values are what the rules ask. -/
namespace Fw
open PySem PySem.Spec PyProof.Rows L2

section
variable {K : PySem.W.Frag} {G H G' H' : Hp}
theorem Rep.tupI {v : V} {ds : List D} (h : Rep K G v (.tup ds)) : ∃ a vs, v = .ref a ∧ SqT K G a vs ∧ RepL K G vs ds := by
  cases h with
  | tup e l => exact ⟨_, _, rfl, e, l⟩
theorem VRep.tupI (s : Same G H) {v : V} {ds : List D} (h : VRep K G H v (.tup ds)) : ∃ a vs, v = .ref a ∧ SqT K H a vs ∧ SqT K G a vs ∧ RepL K G vs ds := by
  obtain ⟨a, vs, e, q, l⟩ := Rep.tupI h
  exact ⟨a, vs, e, sqT_mono s q, q, l⟩
theorem VRep.int {v : V} {i : Int} (h : VRep K G H v (.int i)) : v = .int i := by cases (show Rep K G v (.int i) from h); rfl
theorem VRep.str {v : V} {i : Str} (h : VRep K G H v (.str i)) : v = .str i := by cases (show Rep K G v (.str i) from h); rfl
theorem VRep.bl {v : V} {i : Bool} (h : VRep K G H v (.bl i)) : v = .bl i := by cases (show Rep K G v (.bl i) from h); rfl
theorem VRep.non {v : V} (h : VRep K G H v .non) : v = .non := by cases (show Rep K G v .non from h); rfl
/-- the tuple, laid anew -/
theorem Rep.newTup {p : Addr} {vs : List V} {ds : List D} (s : Same G H) (hp : H p = none) (l : RepL K G vs ds) : Rep K (upd G p (.tup vs)) (.ref p) (.tup ds) :=
  .tup (.inl (.inl upd_same)) (l.mono (same_upd (s.free hp)))
theorem PRep.newLst {p : Addr} {vs : List V} {ds : List D} (s : Same G H) (hp : H p = none) (l : RepL K G vs ds) : PRep K H G (upd H p (.lst vs)) (.ref p) (.new (.lst ds)) :=
  ⟨p, rfl, ⟨vs, upd_same, s.free hp, l⟩, hp⟩
theorem RepL.nilV {ds : List D} (h : RepL K G [] ds) : ds = [] := by cases h; rfl
theorem cut_rep {vs : List V} {ds : List D} (l : RepL K G vs ds) (lo hi : Option Int) : RepL K G (cutV vs lo hi) (cutD ds lo hi) := by
  unfold cutV cutD
  rw [l.length]
  exact (l.drop _).take _
theorem atI_rep {vs : List V} {ds : List D} {i : Int} {d : D} (l : RepL K G vs ds) (h : atI ds i = some d) : ∃ v, atI vs i = some v ∧ Rep K G v d := by
  unfold atI at h ⊢
  rw [l.length]
  cases q : ixN ds.length i with
  | none => rw [q] at h; cases h
  | some j =>
    rw [q] at h
    obtain ⟨v, e, r⟩ := l.get (show ds[j]? = some d from h)
    exact ⟨v, e, r⟩
theorem rgV_rep {a b : Int} : RepL K G (rgV a b) (rngL a b) := by
  unfold rgV rngL
  generalize List.range (b - a).toNat = l
  induction l with
  | nil => exact .nil
  | cons x r ih => exact .cons (.int _) ih
theorem flat_rep : ∀ {vs : List V} {ds : List D}, RepL K G vs ds → ds.all D.flat = true → vs = ds.map D.v0 ∧ vs.all flatV = true
  | _, _, .nil, _ => ⟨rfl, rfl⟩
  | _, _, .cons h l, f => by
    rw [List.all_cons, Bool.and_eq_true] at f
    obtain ⟨e1, e2⟩ := flat_rep l f.2
    cases h with
    | non => exact ⟨by rw [e1]; rfl, by rw [List.all_cons, e2]; rfl⟩
    | bl b => exact ⟨by rw [e1]; rfl, by rw [List.all_cons, e2]; rfl⟩
    | int b => exact ⟨by rw [e1]; rfl, by rw [List.all_cons, e2]; rfl⟩
    | str b => exact ⟨by rw [e1]; rfl, by rw [List.all_cons, e2]; rfl⟩
    | tup _ _ => cases f.1
    | lst _ _ => cases f.1
    | rd _ _ => cases f.1
    | dicS _ _ => cases f.1
    | dicT _ _ _ _ => cases f.1
    | obj _ => cases f.1
theorem flat1 {v : V} {d : D} (h : VRep K G H v d) (f : d.flat = true) : v = d.v0 ∧ flatV v = true := by
  cases d with
  | non => rw [VRep.non h]; exact ⟨rfl, rfl⟩
  | bl b => rw [VRep.bl h]; exact ⟨rfl, rfl⟩
  | int b => rw [VRep.int h]; exact ⟨rfl, rfl⟩
  | str b => rw [VRep.str h]; exact ⟨rfl, rfl⟩
  | _ => cases f
theorem canLay_dic {ks vs : List D} : (D.dic ks vs).pd.canLay0 = false := by simp [D.pd, PyData.canLay0]
theorem canLay_obj : D.obj.pd.canLay0 = false := by simp [D.pd, PyData.canLay0]
theorem canLay_tup {ds : List D} : (D.tup ds).pd.canLay0 = PyData.canLayAll0 (D.pds ds) := by simp [D.pd, PyData.canLay0]
theorem canLay_lst {ds : List D} : (D.lst ds).pd.canLay0 = PyData.canLayAll0 (D.pds ds) := by simp [D.pd, PyData.canLay0]
theorem canLay_rd {ds : List D} : (D.rd ds).pd.canLay0 = PyData.canLayAll0 (D.pds ds) := by simp [D.pd, PyData.canLay0]
theorem canLay_cons {d : D} {ds : List D} : PyData.canLayAll0 (D.pds (d :: ds)) = (d.pd.canLay0 && PyData.canLayAll0 (D.pds ds)) := by simp [D.pds, PyData.canLayAll0]
mutual
theorem Rep.dp : ∀ {v : V} {d : D}, d.pd.canLay0 = true → Rep K G v d → Dp K G v d.pd
  | _, _, _, .non => .non
  | _, _, _, .bl b => .bl b
  | _, _, _, .int i => .int i
  | _, _, _, .str x => .str x
  | _, _, c, .tup h l => .tup h (RepL.dp (by rw [canLay_tup] at c; exact c) l)
  | _, _, c, .lst h l => .lst (.inl (.inl h)) (RepL.dp (by rw [canLay_lst] at c; exact c) l)
  | _, _, c, .rd h l => .lst h (RepL.dp (by rw [canLay_rd] at c; exact c) l)
  | _, _, c, .dicS h l => by rw [canLay_dic] at c; cases c
  | _, _, c, .dicT h k q l => by rw [canLay_dic] at c; cases c
  | _, _, c, .obj v => by rw [canLay_obj] at c; cases c
theorem RepL.dp : ∀ {vs : List V} {ds : List D}, PyData.canLayAll0 (D.pds ds) = true → RepL K G vs ds → DpAll K G vs (D.pds ds)
  | _, _, _, .nil => .nil
  | _, _, c, .cons h l => by
    rw [canLay_cons, Bool.and_eq_true] at c
    exact .cons (Rep.dp c.1 h) (RepL.dp c.2 l)
end
theorem VRep.dp (s : Same G H) {v : V} {d : D} (c : d.pd.canLay0 = true) (h : VRep K G H v d) : Dp K H v d.pd := by
  cases d with
  | lst ds =>
    obtain ⟨a, vs, rfl, e, l⟩ := h
    exact .lst (.inl (.inl e)) (RepL.dp (by rw [canLay_lst] at c; exact c) (l.mono s))
  | non => exact Rep.dp c (Rep.mono s h)
  | bl b => exact Rep.dp c (Rep.mono s h)
  | int b => exact Rep.dp c (Rep.mono s h)
  | str b => exact Rep.dp c (Rep.mono s h)
  | tup b => exact Rep.dp c (Rep.mono s h)
  | rd b => exact Rep.dp c (Rep.mono s h)
  | dic ks vs => rw [canLay_dic] at c; cases c
  | obj => rw [canLay_obj] at c; cases c
def D.tyN : D → String
  | .non => "NoneType" | .bl _ => "bool" | .int _ => "int" | .str _ => "str" | .tup _ => "tuple" | .lst _ => "list" | .rd _ => "list" | .dic _ _ => "dict" | .obj => "object"
theorem VRep.tyX (s : Same G H) {v : V} {d : D} (h : VRep K G H v d) (n : ∀ xs, d ≠ .rd xs) (n2 : ∀ ks vs, d ≠ .dic ks vs) (n3 : d ≠ .obj) : TyX K H v (.type d.tyN) := by
  cases d with
  | lst ds =>
    obtain ⟨a, vs, rfl, e, l⟩ := h
    exact .base (.lst e)
  | non => cases VRep.non h; exact .base .non
  | bl b => cases VRep.bl h; exact .base (.bl b)
  | int b => cases VRep.int h; exact .base (.int b)
  | str b => cases VRep.str h; exact .base (.str b)
  | tup b =>
    obtain ⟨a, vs, rfl, e, _, l⟩ := VRep.tupI s h
    rcases e with (e | ⟨o, e⟩) | ⟨o, its, n, e, c, _⟩
    · exact .base (.tup e)
    · exact .fTuple e
    · exact .kTuple e c
  | rd b => exact absurd rfl (n b)
  | dic ks vs => exact absurd rfl (n2 ks vs)
  | obj => exact absurd rfl n3
end

/-! ### readings by trees -/
def Fin1 (K : PySem.W.Frag) (G H : Hp) (t : T) (Q : VK) : Prop := ∀ v G' H', Gro G H G' H' → PRep K H G' H' v t → Q v H'
def rD2 (K : PySem.W.Frag) (f : D → D → Option T) : R2 := fun x y H Q => ∃ G d e t, Same G H ∧ VRep K G H x d ∧ VRep K G H y e ∧ f d e = some t ∧ Fin1 K G H t Q
def rD1 (K : PySem.W.Frag) (f : D → Option T) : V → Hp → VK → Prop := fun x H Q => ∃ G d t, Same G H ∧ VRep K G H x d ∧ f d = some t ∧ Fin1 K G H t Q
def VRepL (K : PySem.W.Frag) (G H : Hp) : List V → List D → Prop
  | [], [] => True
  | v :: vs, d :: ds => VRep K G H v d ∧ VRepL K G H vs ds
  | _, _ => False
def rDn (K : PySem.W.Frag) (f : List D → Option T) : List V → Hp → VK → Prop := fun xs H Q => ∃ G ds t, Same G H ∧ VRepL K G H xs ds ∧ f ds = some t ∧ Fin1 K G H t Q
def rDsl (K : PySem.W.Frag) : V → Option Int → Option Int → Hp → VK → Prop := fun x lo hi H Q => ∃ G d t, Same G H ∧ VRep K G H x d ∧ slF d lo hi = some t ∧ Fin1 K G H t Q
theorem VRepL.one {K : PySem.W.Frag} {G H : Hp} {vs : List V} {d : D} (h : VRepL K G H vs [d]) : ∃ v, vs = [v] ∧ VRep K G H v d := by
  match vs, h with
  | [v], h => exact ⟨v, rfl, h.1⟩
theorem VRepL.two {K : PySem.W.Frag} {G H : Hp} {vs : List V} {d e : D} (h : VRepL K G H vs [d, e]) : ∃ v w, vs = [v, w] ∧ VRep K G H v d ∧ VRep K G H w e := by
  match vs, h with
  | [v, w], h => exact ⟨v, w, rfl, h.1, h.2.1⟩
theorem VRepL.zero {K : PySem.W.Frag} {G H : Hp} {vs : List V} (h : VRepL K G H vs []) : vs = [] := by
  match vs, h with
  | [], _ => rfl

section
variable {X : Cx}
theorem fin_d {K : PySem.W.Frag} {G H : Hp} {d : D} {Q : VK} {v : V} (s : Same G H) (q : Fin1 K G H (.d d) Q) (h : Rep K G v d) : Q v H := q v G H (Gro.refl s) h
theorem fin_tup {K : PySem.W.Frag} {G H : Hp} {ds : List D} {Q : VK} {vs : List V} (s : Same G H) (q : Fin1 K G H (.d (.tup ds)) Q) (l : RepL K G vs ds) (p : Addr) (hp : H p = none) : Q (.ref p) (upd H p (.tup vs)) :=
  q _ _ _ (Gro.new s hp) (Rep.newTup s hp l)
theorem fin_lst {K : PySem.W.Frag} {G H : Hp} {ds : List D} {Q : VK} {vs : List V} (s : Same G H) (q : Fin1 K G H (.new (.lst ds)) Q) (l : RepL K G vs ds) (p : Addr) (hp : H p = none) : Q (.ref p) (upd H p (.lst vs)) :=
  q _ _ _ (Gro.tmp s hp) (PRep.newLst s hp l)
theorem rep_flat {K : PySem.W.Frag} {G : Hp} {vs : List V} {ds : List D} (n : Nat) (l : RepL K G vs ds) : RepL K G (List.replicate n vs).flatten (List.replicate n ds).flatten := by
  induction n with
  | zero => exact .nil
  | succ n ih => rw [List.replicate_succ, List.replicate_succ, List.flatten_cons, List.flatten_cons]; exact l.append ih

theorem opr_bin (op : Operator) : OpR X (binaryOp op) (rD2 X.K (binF op)) := by
  intro pins s σ H x y v u Q I rx ry ⟨G, d, e, t, sg, hx, hy, hf, q⟩
  unfold binF at hf
  split at hf
  · cases hf; cases VRep.int hx; cases VRep.int hy
    exact op_add pins s σ H _ _ v u Q I rx ry ⟨_, _, rfl, rfl, fin_d sg q (.int _)⟩
  · split at hf
    · rename_i hz; cases hf; cases VRep.str hx; cases VRep.str hy
      exact op_add_str pins s σ H _ _ v u Q I rx ry ⟨_, _, rfl, rfl, hz, fin_d sg q (.str _)⟩
    · cases hf
  · split at hf
    · rename_i xs ys hz; cases hf
      obtain ⟨a, vs, rfl, q1, q1', l1⟩ := VRep.tupI sg hx
      obtain ⟨b, ws, rfl, q2, q2', l2⟩ := VRep.tupI sg hy
      refine op_catA pins s σ H _ _ v u Q I rx ry ⟨a, b, vs, ws, rfl, rfl, q1, q2, by rw [l1.length, l2.length]; exact hz, fun e => ?_, fun _ e => ?_, fun _ _ p hp => fin_tup sg q (l1.append l2) p hp⟩
      · subst e
        rw [l1.nilV] at q
        exact fin_d sg q (.tup q2' l2)
      · subst e
        rw [l2.nilV, List.append_nil] at q
        exact fin_d sg q (.tup q1' l1)
    · cases hf
  · split at hf
    · rename_i xs ys hz; cases hf
      obtain ⟨a, vs, rfl, q1, l1⟩ := hx
      obtain ⟨b, ws, rfl, q2, l2⟩ := hy
      exact op_cat pins s σ H _ _ v u Q I rx ry ⟨a, b, vs, ws, rfl, rfl, q1, q2, by rw [l1.length, l2.length]; exact hz, fun p hp => fin_lst sg q (l1.append l2) p hp⟩
    · cases hf
  · cases hf; cases VRep.int hx; cases VRep.int hy
    exact op_sub pins s σ H _ _ v u Q I rx ry ⟨_, _, rfl, rfl, fin_d sg q (.int _)⟩
  · split at hf
    · rename_i hz; cases hf; cases VRep.int hx; cases VRep.int hy
      exact op_mul pins s σ H _ _ v u Q I rx ry ⟨_, _, rfl, rfl, hz, fin_d sg q (.int _)⟩
    · cases hf
  · split at hf
    · rename_i hz; cases hf; cases VRep.int hy
      obtain ⟨a, vs, rfl, q1, l1⟩ := hx
      exact op_rep pins s σ H _ _ v u Q I rx ry ⟨a, _, vs, rfl, rfl, q1, hz.1, hz.2.1, by rw [l1.length]; exact hz.2.2, fun p hp => fin_lst sg q (rep_flat _ l1) p hp⟩
    · cases hf
  · split at hf
    · rename_i hz; cases hf; cases VRep.int hy
      obtain ⟨a, vs, rfl, q1, q1', l1⟩ := VRep.tupI sg hx
      refine op_repA pins s σ H _ _ v u Q I rx ry ⟨a, _, vs, rfl, rfl, q1, hz.1, hz.2.1, by rw [l1.length]; exact hz.2.2, fun hw => ?_, fun p hp => fin_tup sg q (rep_flat _ l1) p hp⟩
      rcases hw with rfl | rfl
      · have e : ((1 : Int).toNat) = 1 := rfl
        rw [e] at q
        simp only [List.replicate_one, List.flatten_cons, List.flatten_nil, List.append_nil] at q
        exact fin_d sg q (.tup q1' l1)
      · rw [l1.nilV] at q
        simp only [List.flatten_replicate_nil] at q
        exact fin_d sg q (.tup q1' .nil)
    · cases hf
  · split at hf
    · rename_i hz; cases hf; cases VRep.int hx; cases VRep.int hy
      exact op_fdivN pins s σ H _ _ v u Q I rx ry ⟨_, _, rfl, rfl, hz, fin_d sg q (.int _)⟩
    · cases hf
  · split at hf
    · rename_i hz; cases hf; cases VRep.int hx; cases VRep.int hy
      exact op_modN pins s σ H _ _ v u Q I rx ry ⟨_, _, rfl, rfl, hz, fin_d sg q (.int _)⟩
    · cases hf
  · split at hf
    · rename_i hz; cases hf; cases VRep.int hx; cases VRep.int hy
      exact op_pow pins s σ H _ _ v u Q I rx ry ⟨_, _, rfl, rfl, hz, fin_d sg q (.int _)⟩
    · cases hf
  · cases hf
theorem unr_neg : UnR X (unaryOp .USub) (rD1 X.K negF) := by
  intro pins s σ H x v Q I rx ⟨G, d, t, sg, hx, hf, q⟩
  unfold negF at hf
  split at hf
  · cases hf; cases VRep.int hx
    exact un_neg pins s σ H _ v Q I rx ⟨_, rfl, fin_d sg q (.int _)⟩
  · cases hf
theorem scal_eq {K : PySem.W.Frag} {G H : Hp} {x y : V} {d e : D} {b : Bool} (hx : VRep K G H x d) (hy : VRep K G H y e) (h : d.scalEq e = some b) : scal x y = true ∧ decide (x = y) = b := by
  unfold D.scalEq at h
  split at h <;> cases h <;>
    (first | cases VRep.non hx | cases VRep.int hx | cases VRep.bl hx | cases VRep.str hx) <;>
    (first | cases VRep.non hy | cases VRep.int hy | cases VRep.bl hy | cases VRep.str hy) <;> refine ⟨rfl, ?_⟩ <;> first | rfl | simp
theorem eqF_inv {d e : D} {b : Bool} (h : eqF d e = some b) : d.scalEq e = some b ∨ (SeqAt.shaped d.pd = true ∧ SeqAt.shaped e.pd = true ∧ PyData.eqv d.pd e.pd = b) := by
  unfold eqF at h
  split at h
  · rename_i c hc; cases h; exact .inl hc
  · split at h
    · rename_i hz; cases h; exact .inr ⟨hz.1, hz.2, rfl⟩
    · cases h
theorem dB_some {o : Option Bool} {t : T} (h : dB o = some t) : ∃ b, o = some b ∧ t = .d (.bl b) := by
  cases o with
  | none => cases h
  | some b => cases h; exact ⟨b, rfl, rfl⟩
theorem opr_eq (hu : X.A.units + 64 < cLine) : OpR X (compareOp .Eq) (rD2 X.K fun d e => dB (eqF d e)) := by
  intro pins s σ H x y v u Q I rx ry ⟨G, d, e, t, sg, hx, hy, hf, q⟩
  obtain ⟨b, hb, rfl⟩ := dB_some hf
  rcases eqF_inv hb with hb | ⟨h1, h2, h3⟩
  · obtain ⟨h1, h2⟩ := scal_eq hx hy hb
    refine op_eq pins s σ H x y v u Q I rx ry ⟨h1, ?_⟩
    rw [h2]
    exact fin_d sg q (.bl _)
  · exact op_eqD hu pins s σ H x y v u Q I rx ry ⟨_, _, VRep.dp sg (SeqAt.canLay_of_shaped h1) hx, VRep.dp sg (SeqAt.canLay_of_shaped h2) hy, h1, h2, by rw [h3]; exact fin_d sg q (.bl _)⟩
theorem opr_ne (hu : X.A.units + 64 < cLine) : OpR X (compareOp .NotEq) (rD2 X.K fun d e => dB ((eqF d e).map (!·))) := by
  intro pins s σ H x y v u Q I rx ry ⟨G, d, e, t, sg, hx, hy, hf, q⟩
  obtain ⟨b', hb', rfl⟩ := dB_some hf
  obtain ⟨b, hb, rfl⟩ := Option.map_eq_some_iff.mp hb'
  rcases eqF_inv hb with hb | ⟨h1, h2, h3⟩
  · obtain ⟨h1, h2⟩ := scal_eq hx hy hb
    refine op_ne pins s σ H x y v u Q I rx ry ⟨h1, ?_⟩
    rw [h2]
    exact fin_d sg q (.bl _)
  · exact op_neD hu pins s σ H x y v u Q I rx ry ⟨_, _, VRep.dp sg (SeqAt.canLay_of_shaped h1) hx, VRep.dp sg (SeqAt.canLay_of_shaped h2) hy, h1, h2, by rw [h3]; exact fin_d sg q (.bl _)⟩
def rInDT (K : PySem.W.Frag) : R2 := fun x y H Q => ∃ d ds, Dp K H x d ∧ Dp K H y (.tuple ds) ∧ SeqAt.shaped d = true ∧ SeqAt.shaped (.tuple ds) = true ∧ Q (.bl (ds.any fun z => PyData.eqv z d)) H
def rNotInDT (K : PySem.W.Frag) : R2 := fun x y H Q => ∃ d ds, Dp K H x d ∧ Dp K H y (.tuple ds) ∧ SeqAt.shaped d = true ∧ SeqAt.shaped (.tuple ds) = true ∧ Q (.bl (!ds.any fun z => PyData.eqv z d)) H
theorem op_inDT (hu : X.A.units + 65 < cLine) : OpR X (compareOp .In) (rInDT X.K) := by
  intro pins s σ H x y v u Q I rx ry h
  obtain ⟨d, ds, hd, he, sd, se, q⟩ := h
  obtain ⟨as, r1⟩ := Dp.reads I d x v hd rx
  obtain ⟨bs, r2⟩ := Dp.reads I (.tuple ds) y u he ry
  exact SeqAt.in_tuple_reads r2 r1 (SeqAt.canLay_of_shaped se) (SeqAt.canLay_of_shaped sd) (room_in_shaped sd hu) ⟨.bl _, H, I, rfl, q⟩
theorem op_notInDT (hu : X.A.units + 65 < cLine) : OpR X (compareOp .NotIn) (rNotInDT X.K) := by
  intro pins s σ H x y v u Q I rx ry h
  obtain ⟨d, ds, hd, he, sd, se, q⟩ := h
  obtain ⟨as, r1⟩ := Dp.reads I d x v hd rx
  obtain ⟨bs, r2⟩ := Dp.reads I (.tuple ds) y u he ry
  exact SeqAt.notIn_tuple_reads r2 r1 (SeqAt.canLay_of_shaped se) (SeqAt.canLay_of_shaped sd) (room_in_shaped sd hu) ⟨.bl _, H, I, rfl, q⟩
theorem opr_in (hu : X.A.units + 80 < cLine) (neg : Bool) : OpR X (compareOp (bif neg then .NotIn else .In)) (rD2 X.K fun d e => dB ((inF d e).map fun b => bif neg then !b else b)) := by
  intro pins s σ H x y v u Q I rx ry ⟨G, d, e, t, sg, hx, hy, hf, q⟩
  obtain ⟨b', hb', rfl⟩ := dB_some hf
  obtain ⟨b, hb, rfl⟩ := Option.map_eq_some_iff.mp hb'
  have flat : ∀ {p : Addr} {xs : List V}, y = .ref p → (SqL X.K H p xs ∨ SqT X.K H p xs) → flatV x = true → xs.all flatV = true → inV x xs = b → wpAny (model X.prog X.w) X.A (compareOp (bif neg then .NotIn else .In) v u) (EP X pins σ Q) X.xe s := fun {p xs} e1 e2 e3 e4 e5 => by
    cases neg with
    | true => exact op_notIn_seq pins s σ H x y v u Q I rx ry ⟨p, xs, e1, e2, e3, e4, by rw [if_pos rfl, e5]; exact fin_d sg q (.bl _)⟩
    | false => exact op_in_seq pins s σ H x y v u Q I rx ry ⟨p, xs, e1, e2, e3, e4, by rw [if_neg Bool.false_ne_true, e5]; exact fin_d sg q (.bl _)⟩
  unfold inF at hb
  split at hb
  · split at hb
    · rename_i hz; cases hb
      obtain ⟨a, vs, rfl, q1, _, l1⟩ := VRep.tupI sg hy
      obtain ⟨e1, e2⟩ := flat1 hx hz.1
      obtain ⟨e3, e4⟩ := flat_rep l1 hz.2
      exact flat rfl (.inr q1) e2 e4 (by rw [e1, e3])
    · split at hb
      · rename_i xs _ hz
        cases hb
        have h1 := VRep.dp sg (SeqAt.canLay_of_shaped hz.1) hx
        have h2 := VRep.dp sg (SeqAt.canLay_of_shaped hz.2) hy
        have ea : ∀ (xs : List D) (z : D), (D.pds xs).any (fun w => PyData.eqv w z.pd) = xs.any fun w => PyData.eqv w.pd z.pd := fun xs z => by
          induction xs with
          | nil => rfl
          | cons w r ih => simp only [D.pds, List.any_cons, ih]
        cases neg with
        | true => exact op_notInDT (by omega) pins s σ H x y v u Q I rx ry ⟨_, _, h1, h2, hz.1, hz.2, by rw [ea]; exact fin_d sg q (.bl _)⟩
        | false => exact op_inDT (by omega) pins s σ H x y v u Q I rx ry ⟨_, _, h1, h2, hz.1, hz.2, by rw [ea]; exact fin_d sg q (.bl _)⟩
      · cases hb
  · split at hb
    · rename_i hz; cases hb
      obtain ⟨a, vs, rfl, q1, l1⟩ := hy
      obtain ⟨e1, e2⟩ := flat1 hx hz.1
      obtain ⟨e3, e4⟩ := flat_rep l1 hz.2
      exact flat rfl (.inl (.inl (.inl q1))) e2 e4 (by rw [e1, e3])
    · split at hb
      · rename_i xs _ hz
        cases hb
        have h1 := VRep.dp sg (SeqAt.canLay_of_shaped hz.1) hx
        have h2 := VRep.dp sg (SeqAt.canLay_of_shaped hz.2) hy
        have ea : ∀ (xs : List D) (z : D), (D.pds xs).any (fun w => PyData.eqv w z.pd) = xs.any fun w => PyData.eqv w.pd z.pd := fun xs z => by
          induction xs with
          | nil => rfl
          | cons w r ih => simp only [D.pds, List.any_cons, ih]
        cases neg with
        | true => exact op_notInD (by omega) pins s σ H x y v u Q I rx ry ⟨_, _, h1, h2, hz.1, hz.2, by rw [ea]; exact fin_d sg q (.bl _)⟩
        | false => exact op_inD (by omega) pins s σ H x y v u Q I rx ry ⟨_, _, h1, h2, hz.1, hz.2, by rw [ea]; exact fin_d sg q (.bl _)⟩
      · cases hb
  · split at hb
    · rename_i hok
      cases hb
      cases neg with
      | true => exact dq_notIn (by omega) I sg hy hx hok ry rx fun s' I' => ⟨.bl _, H, I', rfl, fin_d sg q (.bl _)⟩
      | false => exact dq_in (by omega) I sg hy hx hok ry rx fun s' I' => ⟨.bl _, H, I', rfl, fin_d sg q (.bl _)⟩
    · cases hb
  · split at hb
    · split at hb
      · rename_i z _ c _ k ec
        cases hb
        cases VRep.str hx; cases VRep.str hy
        have e : c = ⟨#[k]⟩ := by
          cases c with
          | mk cps =>
            have : cps = #[k] := Array.toList_inj.mp (by simpa using ec)
            rw [this]
        subst e
        cases neg with
        | true => exact op_notIn_sign pins s σ H _ _ v u Q I rx ry ⟨k, z, rfl, rfl, fin_d sg q (.bl _)⟩
        | false => exact op_in_sign pins s σ H _ _ v u Q I rx ry ⟨k, z, rfl, rfl, fin_d sg q (.bl _)⟩
      · cases hb
    · cases hb
  · cases hb
theorem opr_cmp (hu : X.A.units + 80 < cLine) (op : CmpOp) : OpR X (compareOp op) (rD2 X.K fun d e => dB (cmpF op d e)) := by
  cases op with
  | Eq => exact opr_eq (by omega)
  | NotEq => exact opr_ne (by omega)
  | In =>
    have e : (fun d e => dB ((inF d e).map fun b => bif false then !b else b)) = fun d e => dB (cmpF .In d e) := by
      funext d e
      show dB ((inF d e).map fun b => b) = dB (inF d e)
      cases inF d e <;> rfl
    have h := opr_in (X := X) hu false
    rw [e] at h
    exact h
  | NotIn => exact opr_in hu true
  | Lt =>
    intro pins s σ H x y v u Q I rx ry ⟨G, d, e, t, sg, hx, hy, hf, q⟩
    cases d <;> cases e <;> first | (cases hf; done) | skip
    cases hf; cases VRep.int hx; cases VRep.int hy
    exact op_lt pins s σ H _ _ v u Q I rx ry ⟨_, _, rfl, rfl, fin_d sg q (.bl _)⟩
  | LtE =>
    intro pins s σ H x y v u Q I rx ry ⟨G, d, e, t, sg, hx, hy, hf, q⟩
    cases d <;> cases e <;> first | (cases hf; done) | skip
    cases hf; cases VRep.int hx; cases VRep.int hy
    exact op_le pins s σ H _ _ v u Q I rx ry ⟨_, _, rfl, rfl, fin_d sg q (.bl _)⟩
  | Gt =>
    intro pins s σ H x y v u Q I rx ry ⟨G, d, e, t, sg, hx, hy, hf, q⟩
    cases d <;> cases e <;> first | (cases hf; done) | skip
    cases hf; cases VRep.int hx; cases VRep.int hy
    exact op_gt pins s σ H _ _ v u Q I rx ry ⟨_, _, rfl, rfl, fin_d sg q (.bl _)⟩
  | GtE =>
    intro pins s σ H x y v u Q I rx ry ⟨G, d, e, t, sg, hx, hy, hf, q⟩
    cases d <;> cases e <;> first | (cases hf; done) | skip
    cases hf; cases VRep.int hx; cases VRep.int hy
    exact op_ge pins s σ H _ _ v u Q I rx ry ⟨_, _, rfl, rfl, fin_d sg q (.bl _)⟩
  | Is =>
    intro pins s σ H x y v u Q I rx ry ⟨G, d, e, t, sg, hx, hy, hf, q⟩
    cases e <;> (try cases d) <;> first | (cases hf; done) | (cases hf; cases VRep.bl hx; cases VRep.bl hy; exact op_isBl pins s σ H _ _ v u Q I rx ry ⟨_, _, rfl, rfl, fin_d sg q (.bl _)⟩) | skip
    all_goals
      cases hf; cases VRep.non hy
      refine op_isN pins s σ H _ _ v u Q I rx ry ⟨rfl, ?_⟩
      first
        | (cases VRep.non hx; exact fin_d sg q (.bl _))
        | (cases VRep.bl hx; exact fin_d sg q (.bl _))
        | (cases VRep.int hx; exact fin_d sg q (.bl _))
        | (cases VRep.str hx; exact fin_d sg q (.bl _))
        | (obtain ⟨a, vs, rfl, _⟩ := VRep.tupI sg hx; exact fin_d sg q (.bl _))
        | (obtain ⟨a, vs, rfl, _⟩ := hx; exact fin_d sg q (.bl _))
  | IsNot =>
    intro pins s σ H x y v u Q I rx ry ⟨G, d, e, t, sg, hx, hy, hf, q⟩
    cases e <;> (try cases d) <;> first | (cases hf; done) | (cases hf; cases VRep.bl hx; cases VRep.bl hy; exact op_notBl pins s σ H _ _ v u Q I rx ry ⟨_, _, rfl, rfl, fin_d sg q (.bl _)⟩) | skip
    all_goals
      cases hf; cases VRep.non hy
      refine op_notN pins s σ H _ _ v u Q I rx ry ⟨rfl, ?_⟩
      first
        | (cases VRep.non hx; exact fin_d sg q (.bl _))
        | (cases VRep.bl hx; exact fin_d sg q (.bl _))
        | (cases VRep.int hx; exact fin_d sg q (.bl _))
        | (cases VRep.str hx; exact fin_d sg q (.bl _))
        | (obtain ⟨a, vs, rfl, _⟩ := VRep.tupI sg hx; exact fin_d sg q (.bl _))
        | (obtain ⟨a, vs, rfl, _⟩ := hx; exact fin_d sg q (.bl _))
theorem ixr (hu : X.A.units + 80 < cLine) : IxR X (rD2 X.K ixF) := by
  intro value slice pins s σ H x y v u Q I rx ry ⟨G, d, e, t, sg, hx, hy, hf, q⟩ hs
  unfold ixF at hf
  split at hf
  · rename_i xs i
    cases VRep.int hy
    obtain ⟨a, vs, rfl, q1, _, l1⟩ := VRep.tupI sg hx
    cases hz : atI xs i with
    | none => rw [hz] at hf; cases hf
    | some z =>
      rw [hz] at hf; cases hf
      obtain ⟨w, e1, r⟩ := atI_rep l1 hz
      exact ix_tup value slice pins s σ H _ _ v u Q I rx ry ⟨a, vs, i, w, rfl, rfl, q1, e1, fin_d sg q r⟩ hs
  · rename_i xs i
    cases VRep.int hy
    obtain ⟨a, vs, rfl, q1, l1⟩ := hx
    cases hz : atI xs i with
    | none => rw [hz] at hf; cases hf
    | some z =>
      rw [hz] at hf; cases hf
      obtain ⟨w, e1, r⟩ := atI_rep l1 hz
      exact ix_list value slice pins s σ H _ _ v u Q I rx ry ⟨a, vs, i, w, rfl, rfl, .inl (.inl q1), e1, fin_d sg q r⟩ hs
  · rename_i xs i
    cases VRep.int hy
    cases (show Rep X.K G x (.rd xs) from hx) with
    | rd q1 l1 =>
    cases hz : atI xs i with
    | none => rw [hz] at hf; cases hf
    | some z =>
      rw [hz] at hf; cases hf
      obtain ⟨w, e1, r⟩ := atI_rep l1 hz
      exact ix_list value slice pins s σ H _ _ v u Q I rx ry ⟨_, _, i, w, rfl, rfl, sqL_mono sg q1, e1, fin_d sg q r⟩ hs
  · rename_i z i
    split at hf
    · rename_i hz
      cases VRep.int hy; cases VRep.str hx
      cases hc : atI z.cps.toList i with
      | none => rw [hc] at hf; cases hf
      | some c =>
        rw [hc] at hf; cases hf
        exact ix_str value slice pins s σ H _ _ v u Q I rx ry ⟨z, i, c, rfl, rfl, hz, hc, fin_d sg q (.str _)⟩ hs
    · cases hf
  · split at hf
    · rename_i ks vs _ hok
      obtain ⟨d', g, rfl⟩ := Option.map_eq_some_iff.mp hf
      obtain ⟨ty, nd⟩ := dq_typeIs I hx rx
      exact tail_any ty PySem.F.slot_dict_getitem.lookup (dq_getItem (by omega) I sg hx hy hok g rx ry fun z w' s' I' rz r => ⟨z, H, I', rz, fin_d sg q r⟩) hs
    · cases hf
  · cases hf
theorem slr : SlR X (rDsl X.K) := by
  intro pins s σ H x v vl vu lo hi sl Q I rx hs pl pu ⟨G, d, t, sg, hx, hf, q⟩
  unfold slF at hf
  split at hf
  · cases hf
    obtain ⟨a, vs, rfl, q1, q1', l1⟩ := VRep.tupI sg hx
    refine sl_tupA pins s σ H _ v vl vu lo hi sl Q I rx hs pl pu ⟨a, vs, rfl, q1, fun hw => ?_, fun _ p hp => fin_tup sg q (cut_rep l1 lo hi) p hp⟩
    have e : cutV vs lo hi = vs := by
      unfold cutV
      rw [hw.1, hw.2]
      simp
    have l2 := cut_rep l1 lo hi
    rw [e] at l2
    exact fin_d sg q (.tup q1' l2)
  · cases hf
    obtain ⟨a, vs, rfl, q1, l1⟩ := hx
    exact sl_list pins s σ H _ v vl vu lo hi sl Q I rx hs pl pu ⟨a, vs, rfl, .inl (.inl q1), fun p hp => fin_lst sg q (cut_rep l1 lo hi) p hp⟩
  · split at hf
    · rename_i hz
      cases hf
      cases VRep.str hx
      exact sl_str pins s σ H _ v vl vu lo hi sl Q I rx hs pl pu ⟨_, rfl, hz, fin_d sg q (.str _)⟩
    · cases hf
  · cases hf
end
end Fw

set_option maxHeartbeats 4000000
/-! Fw4: the readings of the small language. -/
namespace Fw
open PySem PySem.Spec PyProof.Rows L2

/-! ### weakening -/
section
variable {X : Cx}
theorem PE.imp {e : Expr} {t t' : TE} (h : PE X e t) (f : ∀ σ H Q, t' σ H Q → t σ H Q) : PE X e t' := ⟨fun pins s σ H Q I q => h.run pins s σ H Q I (f _ _ _ q)⟩
theorem PT.imp {e : Expr} {t t' : TT} (h : PT X e t) (f : ∀ σ H Q, t' σ H Q → t σ H Q) : PT X e t' := ⟨fun pins s σ H Q I q => h.run pins s σ H Q I (f _ _ _ q)⟩
theorem PW.imp {e : Expr} {t t' : TT} (h : PW X e t) (f : ∀ σ H Q, t' σ H Q → t σ H Q) : PW X e t' := ⟨fun wh pins s σ H Q I q => h.run wh pins s σ H Q I (f _ _ _ q)⟩
theorem PA.imp {e : List Expr} {t t' : TA} (h : PA X e t) (f : ∀ σ H Q, t' σ H Q → t σ H Q) : PA X e t' := ⟨fun pos pins s σ H Q I q => h.run pos pins s σ H Q I (f _ _ _ q)⟩
theorem PO.imp {e : Option Expr} {t t' : TO} (h : PO X e t) (f : ∀ σ H Q, t' σ H Q → t σ H Q) : PO X e t' := ⟨fun pins s σ H Q I q => h.run pins s σ H Q I (f _ _ _ q)⟩
theorem PI.imp {tg e : Expr} {t t' : TI} (h : PI X tg e t) (f : ∀ σ H Q, t' σ H Q → t σ H Q) : PI X tg e t' := ⟨fun pins s σ H Q I q => h.run pins s σ H Q I (f _ _ _ q)⟩
theorem PS.imp {e : Stmt} {t t' : TS} (h : PS X e t) (f : ∀ D σ H, t' D σ H → t D σ H) : PS X e t' := ⟨fun pins s σ H Q I q => h.run pins s σ H Q I (f _ _ _ q)⟩
theorem PSs.imp {e : List Stmt} {t t' : TS} (h : PSs X e t) (f : ∀ D σ H, t' D σ H → t D σ H) : PSs X e t' := ⟨fun pins s σ H Q I q => h.run pins s σ H Q I (f _ _ _ q)⟩
theorem PG.imp {e : Expr} {t t' : TG} (h : PG X e t) (f : ∀ v σ H Q, t' v σ H Q → t v σ H Q) : PG X e t' := ⟨fun pins s σ H v u Q I r q => h.run pins s σ H v u Q I r (f _ _ _ _ q)⟩
theorem PI.or {tg e : Expr} {t t' : TI} (h : PI X tg e t) (h' : PI X tg e t') : PI X tg e (fun σ H R => t σ H R ∨ t' σ H R) := ⟨fun pins s σ H Q I q => q.elim (h.run pins s σ H Q I) (h'.run pins s σ H Q I)⟩
theorem PE.or {e : Expr} {t t' : TE} (h : PE X e t) (h' : PE X e t') : PE X e (fun σ H R => t σ H R ∨ t' σ H R) := ⟨fun pins s σ H Q I q => q.elim (h.run pins s σ H Q I) (h'.run pins s σ H Q I)⟩
theorem CallR.or {f : Value} {r r' : List V → Hp → VK → Prop} (h : CallR X f r) (h' : CallR X f r') : CallR X f (fun xs H Q => r xs H Q ∨ r' xs H Q) := by
  intro pins s σ H xs us Q I r q
  rcases q with q | q
  · exact h pins s σ H xs us Q I r q
  · exact h' pins s σ H xs us Q I r q
end

/-! ### readings -/
def TRepL (K : PySem.W.Frag) (Hs G H : Hp) (σ : St) : List V → List T → Prop
  | [], [] => True
  | v :: vs, t :: ts => TRep K Hs G H σ v t ∧ TRepL K Hs G H σ vs ts
  | _, _ => False
section
variable (K : PySem.W.Frag) (B : Fb) (H0 : Hp)
def tM (m : List Sl → Rs T) : TE := fun σ H Q => ∃ G ρ t ρ', StRep K B H0 G H σ ρ ∧ m ρ = some (t, ρ') ∧ ∀ v G' H', EI K B H0 σ G H ρ G' H' ρ' → TRep K H G' H' σ v t → Q v H'
def tMD (m : List Sl → Rs D) : TE := fun σ H Q => ∃ G ρ t ρ', StRep K B H0 G H σ ρ ∧ m ρ = some (t, ρ') ∧ ∀ v G' H', EI K B H0 σ G H ρ G' H' ρ' → Rep K G' v t → Q v H'
def tMB (m : List Sl → Rs Bool) : TT := fun σ H Q => ∃ G ρ t ρ', StRep K B H0 G H σ ρ ∧ m ρ = some (t, ρ') ∧ ∀ G' H', EI K B H0 σ G H ρ G' H' ρ' → Q t H'
def tMP (m : List Sl → Rs (Option Int)) : TO := fun σ H Q => ∃ G ρ t ρ', StRep K B H0 G H σ ρ ∧ m ρ = some (t, ρ') ∧ ∀ G' H', EI K B H0 σ G H ρ G' H' ρ' → Q t H'
def tMA (m : List Sl → Rs (List T)) : TA := fun σ H Q => ∃ G ρ t ρ', StRep K B H0 G H σ ρ ∧ m ρ = some (t, ρ') ∧ ∀ v G' H', EI K B H0 σ G H ρ G' H' ρ' → TRepL K H G' H' σ v t → Q v H'
/-- what is walked gives these -/
def ItOk (K : PySem.W.Frag) (G0 : Hp) (J : It) (ds : List D) : Prop := ∀ i G H, Same G0 G → Same G H →
  (∀ d, ds[i]? = some d → J.go i H ∧ ∀ x H', J.yld i H x H' → ∃ G', Gro G H G' H' ∧ Rep K G' x d) ∧ (ds.length ≤ i → J.stop i H)
def tMI (m : List Sl → Rs (List D)) : TI := fun σ H R => ∃ G ρ ds ρ', StRep K B H0 G H σ ρ ∧ m ρ = some (ds, ρ') ∧ ∀ J G' H', EI K B H0 σ G H ρ G' H' ρ' → ItOk K G' J ds → R J H'
end

section
variable {K : PySem.W.Frag} {B : Fb} {H0 G H G' H' G1 H1 G2 H2 Gs Hs : Hp} {σ : St} {ρ ρ' ρs ρ1 ρ2 : List Sl}
theorem vw2_inv {f : D → D → Option T} {t u z : T} (h : vw2 f ρ t u = some (z, ρ')) : ∃ x y, view ρ t = some x ∧ view ρ u = some y ∧ f x y = some z ∧ ρ' = ρ := by
  unfold vw2 at h
  obtain ⟨x, e1, h⟩ := Option.bind_eq_some_iff.mp h
  obtain ⟨y, e2, h⟩ := Option.bind_eq_some_iff.mp h
  obtain ⟨w, e3, h⟩ := Option.map_eq_some_iff.mp h
  cases h
  exact ⟨x, y, e1, e2, e3, rfl⟩
theorem vw1_inv {f : D → Option T} {t z : T} (h : vw1 f ρ t = some (z, ρ')) : ∃ x, view ρ t = some x ∧ f x = some z ∧ ρ' = ρ := by
  unfold vw1 at h
  obtain ⟨x, e1, h⟩ := Option.bind_eq_some_iff.mp h
  obtain ⟨w, e3, h⟩ := Option.map_eq_some_iff.mp h
  cases h
  exact ⟨x, e1, e3, rfl⟩
theorem vws_inv {f : List D → Option T} {ts : List T} {z : T} (h : vws f ρ ts = some (z, ρ')) : ∃ xs, views ρ ts = some xs ∧ f xs = some z ∧ ρ' = ρ := by
  unfold vws at h
  obtain ⟨x, e1, h⟩ := Option.bind_eq_some_iff.mp h
  obtain ⟨w, e3, h⟩ := Option.map_eq_some_iff.mp h
  cases h
  exact ⟨x, e1, e3, rfl⟩
theorem TRepL.move {vs : List V} {ts : List T} (a : EI K B H0 σ Gs Hs ρs G1 H1 ρ1) (b : EI K B H0 σ G1 H1 ρ1 G2 H2 ρ2) (h : TRepL K Hs G1 H1 σ vs ts) : TRepL K Hs G2 H2 σ vs ts := by
  induction vs generalizing ts with
  | nil => cases ts with
    | nil => trivial
    | cons => exact h
  | cons v vs ih => cases ts with
    | nil => exact h
    | cons t ts => exact ⟨TRep.move a b h.1, ih h.2⟩
theorem TRepL.back {vs : List V} {ts : List T} (a : EI K B H0 σ Gs Hs ρs G1 H1 ρ1) (h : TRepL K H1 G2 H2 σ vs ts) : TRepL K Hs G2 H2 σ vs ts := by
  induction vs generalizing ts with
  | nil => cases ts with
    | nil => trivial
    | cons => exact h
  | cons v vs ih => cases ts with
    | nil => exact h
    | cons t ts => exact ⟨TRep.back a h.1, ih h.2⟩
theorem views_ok {vs : List V} {ts : List T} {ds : List D} (s : StRep K B H0 G H σ ρ) (h : TRepL K Hs G H σ vs ts) (e : views ρ ts = some ds) : VRepL K G H vs ds := by
  induction vs generalizing ts ds with
  | nil => cases ts with
    | nil => cases e; trivial
    | cons => exact h.elim
  | cons v vs ih => cases ts with
    | nil => exact h.elim
    | cons t ts =>
      unfold views at e
      split at e
      · rename_i d ds' e1 e2
        cases e
        exact ⟨view_ok s h.1 e1, ih h.2 e2⟩
      · cases e
/-- frozen -/
theorem tMD_of {m : List Sl → Rs T} {Q : VK} (h : tMD K B H0 (fun ρ => asD (m ρ)) σ H Q) : tM K B H0 m σ H Q := by
  obtain ⟨G, ρ, d, ρ', s, e, q⟩ := h
  obtain ⟨⟨t, ρ1⟩, e1, e2⟩ := Option.bind_eq_some_iff.mp e
  refine ⟨G, ρ, t, ρ1, s, e1, fun v G1 H1 E T => ?_⟩
  obtain ⟨G2, E2, _, r⟩ := settle_ok E T e2
  exact q v G2 H1 E2 r
theorem asB_inv {r : Rs T} {b : Bool} (h : asB r = some (b, ρ)) : r = some (.d (.bl b), ρ) := by
  obtain ⟨⟨t, ρ1⟩, e1, e2⟩ := Option.bind_eq_some_iff.mp h
  dsimp only at e2
  split at e2
  · cases e2; exact e1
  · cases e2
theorem tMB_of {m : List Sl → Rs T} {Q : Bool → Hp → Prop} (h : tMB K B H0 (fun ρ => asB (m ρ)) σ H Q) : tM K B H0 m σ H (fun x H' => ∃ c, x = .bl c ∧ Q c H') := by
  obtain ⟨G, ρ, b, ρ', s, e, q⟩ := h
  refine ⟨G, ρ, _, ρ', s, asB_inv e, fun v G1 H1 E T => ?_⟩
  cases (show Rep K G1 v (.bl b) from T)
  exact ⟨b, rfl, q G1 H1 E⟩
end

/-! ### the static side -/
structure Sx where
  N : List Str
  sc : Scope
  fn : Str → Bool
  fns : Str → Option Nat
  gl : Str → Bool
  me : Option ClD := none
  gi : Nat := 0
  cl : Str → Option ClD := fun _ => none
def Bl.nm : Bl → Str
  | .len => "len" | .abs => "abs" | .min => "min" | .max => "max" | .int => "int" | .str => "str" | .tuple => "tuple" | .list => "list" | .any => "any" | .all => "all" | .sum => "sum" | .sorted => "sorted"
def Bm.nm : Bm → Str
  | .partition => "partition" | .join => "join"
def Ty.nm : Ty → Str
  | .str => "str" | .int => "int" | .bool => "bool" | .tuple => "tuple" | .list => "list"
def Mt.nm : Mt → Str
  | .append => "append" | .extend => "extend" | .pop => "pop"
def bltNames : List Str := ["len", "abs", "min", "max", "int", "str", "tuple", "list", "bool", "isinstance", "range", "zip", "enumerate", "reversed", "any", "all", "sum", "sorted"]
def isVis (sc : Scope) (x : Str) : Bool := match sc.names.lookup x with
  | some .local => true
  | some .cell => true
  | some .free => true
  | _ => false
def isGl (sc : Scope) (x : Str) : Bool := match sc.names.lookup x with
  | some .globalImplicit => true
  | _ => false
def isLoc (S : Sx) (x : Str) : Bool := match S.sc.names.lookup x with
  | some .local => true
  | some .cell => S.fn x
  | _ => false
def blkS (S : Sx) (scope : Scope) : Sx := { S with sc := relS scope S.sc, fn := fun x => scope.names.lookup x == some .cell }
def plainE : Expr → Bool
  | .Starred .. => false
  | .Slice .. => false
  | .Set .. => false
  | _ => true
/-- expressions whose test is their value's -/
def valE : Expr → Bool
  | .UnaryOp .Not _ _ => false
  | .BoolOp .. => false
  | .IfExp .. => false
  | .Compare .. => false
  | _ => true
def compE : Expr → Bool
  | .ListComp .. => true
  | .SetComp .. => true
  | .DictComp .. => true
  | _ => false
def isTupE : Expr → Bool
  | .Tuple .. => true
  | .List .. => true
  | _ => false
/-- receivers of methods that read -/
def recvE : Expr → Bool
  | .Name .. => true
  | .Constant .. => true
  | _ => false
def okKeys : List Key → List (Option Expr) → Bool
  | [], es => es.isEmpty
  | k :: ks, es => match es with
    | some e :: es => (match k, e with
      | .inl i, .Constant (.int j) _ _ => decide (i = j)
      | .inr x, .Constant (.str z) _ _ => decide (x = z)
      | _, _ => false) && okKeys ks es
    | _ => false
def nameOf : Expr → Option Str
  | .Name x _ => some x
  | _ => none
def okVar (S : Sx) (i : Nat) (x : Str) : Bool := decide (S.N[i]? = some x) && isVis S.sc x && !(x == ("__debug__" : Str)) && !(x == ("__classdict__" : Str))
/-- a field of the frame's own object -/
def okFld (S : Sx) (i : Nat) (s f : Str) : Bool := okVar S 0 s && (match S.me with
  | some cd => decide (S.gi ≤ i) && decide (cd.gh[i - S.gi]? = some f)
  | none => false)
def okMe (S : Sx) (m f : Str) (gs : List Nat) (np : Nat) : Bool := match S.me with
  | some cd => decide ((m, f, np) ∈ cd.meth) && decide (gs = (List.range cd.gh.length).map (· + S.gi))
  | none => false
def okCl (S : Sx) (c m f : Str) (fi : List FI) (na np : Nat) : Bool := match S.cl c with
  | some cd => decide ((m, f, np) ∈ cd.meth) && decide (fi = cd.ini) && decide (cd.na = na)
  | none => false
mutual
def okTg (S : Sx) : Tg → Expr → Bool
  | .nm i, e => match e with
    | .Name x _ => decide (S.N[i]? = some x) && isLoc S x
    | _ => false
  | .tp ts, e => match e with
    | .Tuple es _ _ => okTgs S ts es
    | _ => false
def okTgs (S : Sx) : List Tg → List Expr → Bool
  | [], es => es.isEmpty
  | t :: ts, es => match es with
    | e :: es => plainE e && okTg S t e && okTgs S ts es
    | [] => false
end
mutual
def okE (S : Sx) : IE → Expr → Bool
  | .var i, e => (match e with
    | .Name x _ => okVar S i x
    | .Attribute (.Name s _) f _ => okFld S i s f
    | _ => false)
  | .non, e => (match e with
    | .Constant .none _ _ => true
    | _ => false)
  | .bl b, e => (match e with
    | .Constant (.bool c) _ _ => b == c
    | _ => false)
  | .int i, e => (match e with
    | .Constant (.int j) _ _ => decide (i = j)
    | _ => false)
  | .str s, e => (match e with
    | .Constant (.str z) _ _ => decide (s = z)
    | _ => false)
  | .glo x, e => (match e with
    | .Name y _ => decide (x = y) && isGl S.sc y && S.gl y && !(y == ("__debug__" : Str))
    | _ => false)
  | .bin op a b, e => (match e with
    | .BinOp x o y _ => decide (op = o) && okE S a x && okE S b y
    | _ => false)
  | .neg a, e => (match e with
    | .UnaryOp .USub x _ => okE S a x
    | _ => false)
  | .cmp op a b, e => (match e with
    | .Compare x [o] [y] _ => decide (op = o) && okE S a x && okE S b y
    | _ => false)
  | .chn op op' a b c, e => (match e with
    | .Compare x [o, o'] [y, z] _ => decide (op = o) && decide (op' = o') && okE S a x && okE S b y && okE S c z
    | _ => false)
  | .and_ a b, e => (match e with
    | .BoolOp .And (x :: y :: r) p => okE S a x && okE S b (.BoolOp .And (y :: r) p)
    | _ => false)
  | .or_ a b, e => (match e with
    | .BoolOp .Or (x :: y :: r) p => okE S a x && okE S b (.BoolOp .Or (y :: r) p)
    | _ => false)
  | .one a, e => (match e with
    | .BoolOp _ [x] _ => okE S a x
    | _ => false)
  | .not_ a, e => (match e with
    | .UnaryOp .Not x _ => okE S a x
    | _ => false)
  | .ife c a b, e => (match e with
    | .IfExp x y z _ => okE S c x && okE S a y && okE S b z
    | _ => false)
  | .kix x a, e => (match e with
    | .Subscript (.Name y _) z _ => decide (x = y) && isGl S.sc y && !(y == ("__debug__" : Str)) && okE S a z
    | _ => false)
  | .frz a, e => plainE e && valE e && okE S a e
  | .ix a b, e => (match e with
    | .Subscript x y _ => okE S a x && okE S b y
    | _ => false)
  | .slc a lo hi, e => (match e with
    | .Subscript x (.Slice l h none _) _ => okE S a x && (match l with | none => lo.isNop | some l => okE S lo l) && (match h with | none => hi.isNop | some h => okE S hi h)
    | _ => false)
  | .nop, _ => false
  | .tup as, e => (match e with
    | .Tuple es _ _ => okA S as es
    | _ => false)
  | .lst as, e => (match e with
    | .List es _ => okA S as es
    | _ => false)
  | .call f as, e => (match e with
    | .Call (.Name x _) es [] _ => decide (f = x) && isGl S.sc x && !(x == ("__debug__" : Str)) && decide (S.fns f = some es.length) && okA S as es
    | _ => false)
  | .blt f as, e => (match e with
    | .Call (.Name x _) (a :: es) [] _ => decide (f.nm = x) && isGl S.sc x && okA S as (a :: es)
    | _ => false)
  | .isi a ts, e => (match e with
    | .Call (.Name x _) [y, z] [] _ => decide (x = ("isinstance" : Str)) && isGl S.sc x && okE S a y && (match z, ts with
      | .Name t _, [t'] => decide (t = t'.nm) && isGl S.sc t
      | _, _ => false)
    | _ => false)
  | .rngs f as, e => (match e with
    | .Call (.Name x _) [.Call (.Name y _) es [] _] [] _ => decide (x = (bif f then ("tuple" : Str) else "list")) && isGl S.sc x && decide (y = ("range" : Str)) && isGl S.sc y && okA S as es && (match es with
      | [_] => true
      | [_, _] => true
      | _ => false)
    | _ => false)
  | .lrev a, e => (match e with
    | .Call (.Name x _) [.Call (.Name y _) [z] [] _] [] _ => decide (x = ("list" : Str)) && isGl S.sc x && decide (y = ("reversed" : Str)) && isGl S.sc y && okE S a z
    | _ => false)
  | .mth m o as, e => (match e with
    | .Call (.Attribute (.Name x p) n ap) es [] cp => okE S o (.Name x p) && decide (m.nm = n) && (ap.endLine == cp.line) && okA S as es && (match m, es with
      | .append, [_] => true
      | .extend, [_] => true
      | .pop, [] => true
      | .pop, [_] => true
      | _, _ => false)
    | _ => false)
  | .bm m o as, e => (match e with
    | .Call (.Attribute y n ap) es [] cp => recvE y && okE S o y && decide (m.nm = n) && (ap.endLine == cp.line) && okA S as es && (match es with
      | [_] => true
      | _ => false)
    | _ => false)
  | .dnew, e => (match e with
    | .Dict [] [] _ => true
    | _ => false)
  | .dsp ks vs, e => (match e with
    | .Dict (k :: keys) values _ => okKeys ks (k :: keys) && okA S vs values && decide (values.length = ks.length)
    | _ => false)
  | .dget o as, e => (match e with
    | .Call (.Attribute (.Name x p) n ap) es [] cp => okE S o (.Name x p) && decide (n = ("get" : Str)) && (ap.endLine == cp.line) && okA S as es && (match es with
      | [_] => true
      | [_, _] => true
      | _ => false)
    | _ => false)
  | .srtk f a, e => (match e with
    | .Call (.Name x _) [y] [⟨some k, .Name g _, _⟩] _ => decide (x = ("sorted" : Str)) && isGl S.sc x && decide (k = ("key" : Str)) && decide (f = g) && isGl S.sc g && !(g == ("__debug__" : Str)) && decide (S.fns f = some 1) && okE S a y
    | _ => false)
  | .mcl f gs as, e => (match e with
    | .Call (.Attribute (.Name s _) m ap) (x :: es) [] cp => (ap.endLine == cp.line) && decide (es.length < 20) && okVar S 0 s && okA S as (x :: es) && okMe S m f gs (es.length + 1)
    | _ => false)
  | .obc f fi as bs, e => (match e with
    | .Call (.Attribute (.Call (.Name c _) (y :: ys) [] _) m ap) (x :: xs) [] cp => (ap.endLine == cp.line) && decide (xs.length < 20) && okA S as (y :: ys) && okA S bs (x :: xs) && isGl S.sc c && !(c == ("__debug__" : Str)) && okCl S c m f fi (ys.length + 1) (xs.length + 1)
    | _ => false)
  | .lc it tg c el own, e => (match e with
    | .ListComp el' [⟨tg', it', ifs, 0⟩] scope _ => plainE it' && okI S it it' tg' && blkC S.N S.sc scope (own.map fun i => (S.N.getD i "", i)) && okTg (blkS S scope) tg tg' && tg.ix.all (fun i => own.contains i) && okE (blkS S scope) el el' && (match ifs with
      | [] => c.isNop
      | [x] => okE (blkS S scope) c x
      | _ => false)
    | _ => false)
  | .lc2 it tg it1 tg1 c el own, e => (match e with
    | .ListComp el' [⟨tg', it', [], 0⟩, ⟨tg1', it1', ifs, 0⟩] scope _ => plainE it' && plainE it1' && okI S it it' tg' && blkC S.N S.sc scope (own.map fun i => (S.N.getD i "", i)) && okTg (blkS S scope) tg tg' && tg.ix.all (fun i => own.contains i) &&
        okI (blkS S scope) it1 it1' tg1' && okTg (blkS S scope) tg1 tg1' && tg1.ix.all (fun i => own.contains i) && okE (blkS S scope) el el' && (match ifs with
      | [] => c.isNop
      | [x] => okE (blkS S scope) c x
      | _ => false)
    | _ => false)
def okA (S : Sx) : IAs → List Expr → Bool
  | .nil, es => es.isEmpty
  | .cons a r, es => (match es with
    | e :: es => okE S a e && okA S r es
    | [] => false)
def okI (S : Sx) : II → Expr → Expr → Bool
  | .seq a, e, _ => okE S a e
  | .rng as, e, _ => (match e with
    | .Call (.Name x _) es [] _ => decide (x = ("range" : Str)) && isGl S.sc x && okA S as es && (match es with
      | [_] => true
      | [_, _] => true
      | _ => false)
    | _ => false)
  | .zip a b, e, tg => (match e, tg with
    | .Call (.Name x _) [y, z] [] _, .Tuple .. => decide (x = ("zip" : Str)) && isGl S.sc x && okE S a y && okE S b z
    | _, _ => false)
  | .enm a, e, tg => (match e, tg with
    | .Call (.Name x _) [y] [] _, .Tuple .. => decide (x = ("enumerate" : Str)) && isGl S.sc x && okE S a y
    | _, _ => false)
  | .rev a, e, _ => (match e with
    | .Call (.Name x _) [y] [] _ => decide (x = ("reversed" : Str)) && isGl S.sc x && okE S a y
    | _ => false)
  | .dit a, e, tg => (match e, tg with
    | .Call (.Attribute (.Name x p) n ap) [] [] cp, .Tuple .. => okE S a (.Name x p) && decide (n = ("items" : Str)) && (ap.endLine == cp.line)
    | _, _ => false)
end
end Fw

set_option maxHeartbeats 4000000
/-! Fw5: calls; what the context must be. -/
namespace Fw
open PySem PySem.Spec PyProof.Rows L2

/-! ### a call's two sides -/
structure ArgsOk (K : PySem.W.Frag) (G H : Hp) (vs : List V) (args : List Arg) : Prop where
  len : vs.length = args.length
  fr : ∀ (i : Nat) (d : D), args[i]? = some (Arg.fr d) → ∃ v, vs[i]? = some v ∧ Rep K G v d
  bo : ∀ (i : Nat) (o : O), args[i]? = some (Arg.bo o) → ∃ a, vs[i]? = some (V.ref a) ∧ ORep K G H a o
  inj : ∀ (i j : Nat) (o o' : O) (a : Addr), args[i]? = some (Arg.bo o) → args[j]? = some (Arg.bo o') → vs[i]? = some (V.ref a) → vs[j]? = some (V.ref a) → i = j
def Lent (vs : List V) (args : List Arg) (b : Addr) : Prop := ∃ (i : Nat) (o : O), args[i]? = some (Arg.bo o) ∧ vs[i]? = some (V.ref b)
structure CallPost (K : PySem.W.Frag) (G H : Hp) (vs : List V) (args : List Arg) (G' H' : Hp) (bs : List Sl) : Prop where
  same : Same G G'
  sub : Same G' H'
  keep : ∀ b o, H b = some o → ¬ Lent vs args b → H' b = some o ∧ (G b = none → G' b = none)
  alive : ∀ b, H b ≠ none → H' b ≠ none
  bs : ∀ (i : Nat) (o : O) (a : Addr) (s : Sl), args[i]? = some (Arg.bo o) → vs[i]? = some (V.ref a) → bs[i]? = some s → (∃ o', s = Sl.bor o' ∧ ORep K G' H' a o') ∨ (∃ d, s = Sl.fz d ∧ Rep K G' (.ref a) d)
def spF (K : PySem.W.Frag) (call : Str → List Arg → Option (T × List Sl)) (f : Str) (np : Nat) : Sp := fun vs H Q _ => ∃ G args t bs, Same G H ∧ ArgsOk K G H vs args ∧ call f args = some (t, bs) ∧ vs.length = np ∧
  ∀ v G' H', CallPost K G H vs args G' H' bs → PRep K H G' H' v t → Q v H'

/-- a method's promise: the object at p is what is known of it, its fields stand behind the arguments -/
def spM (K : PySem.W.Frag) (call : Str → List Arg → Option (T × List Sl)) (f : Str) (Ca : Addr) (gh : List Str) (np : Nat) : Sp := fun vs H Q _ => ∃ G args t bs p dx fvs us, vs = .ref p :: us ∧ us.length = np ∧ G p = some (.ins Ca dx fvs) ∧ fvs.map (·.1) = gh ∧
  Same G H ∧ ArgsOk K G H (vs ++ fvs.map (·.2)) args ∧ (∀ (k : Nat) (q : Str × V), fvs[k]? = some q → ∃ a, q.2 = V.ref a) ∧ call f args = some (t, bs) ∧
  ∀ v G' H', CallPost K G H (vs ++ fvs.map (·.2)) args G' H' bs → PRep K H G' H' v t → Q v H'
/-- what __init__ does: field by field -/
inductive Ini (us : List V) (x Ca dx : Addr) : List (Str × V) → List (Str × FI) → Hp → List (Str × V) → Hp → Prop
  | nil {fs : List (Str × V)} {H : Hp} : Ini us x Ca dx fs [] H fs H
  | arg {fs fvs : List (Str × V)} {H H' : Hp} {f : Str} {k : Nat} {v : V} {r : List (Str × FI)} : us[k]? = some v → Ini us x Ca dx (fs ++ [(f, v)]) r (upd H x (.ins Ca dx (fs ++ [(f, v)]))) fvs H' → Ini us x Ca dx fs ((f, .arg k) :: r) H fvs H'
  | dict {fs fvs : List (Str × V)} {H H' : Hp} {f : Str} {a : Addr} {r : List (Str × FI)} : H a = none → Ini us x Ca dx (fs ++ [(f, .ref a)]) r (upd (upd H a (.dK [])) x (.ins Ca dx (fs ++ [(f, .ref a)]))) fvs H' → Ini us x Ca dx fs ((f, .dict) :: r) H fvs H'
def spI (Ca : Addr) (cd : ClD) : Sp := fun vs H Q _ => ∃ x dx us, vs = .ref x :: us ∧ us.length = cd.na ∧ H x = some (.ins Ca dx []) ∧ ∀ fvs H', Ini us x Ca dx [] (cd.gh.zip cd.ini) H fvs H' → Q .non H'
/-- what is known of a class -/
structure ClsOk (n : Nat) (call : Str → List Arg → Option (T × List Sl)) (X : Cx) (cd : ClD) (Ca : Addr) : Prop where
  cls : Cls X.K Ca
  no : ∀ f ∈ cd.gh, NoAttr X.K Ca f
  lens : cd.gh.length = cd.ini.length
  me : ∀ m f np, (m, f, np) ∈ cd.meth → m ∉ cd.gh ∧ ∃ g fd ps, Meth X.K Ca m g ∧ Binds X.K fd ps [] ∧ FnOk X.prog X.w X.K X.mg X.base CX0 n g fd ps (spM X.K call f Ca cd.gh np)
structure CxOk (n : Nat) (C : Cfg) (B : Fb) (S : Sx) (X : Cx) : Prop where
  calm : X.calm = true
  room : Room n X.A
  N : X.N = S.N
  nd : S.N.Nodup
  sc : X.env.scope = S.sc
  fn : X.fn = S.fn
  xe : X.xe = fun _ _ => False
  gl : ∀ x, S.gl x = true → ∀ d, C.glo x = some d → ∃ u v, X.mg x = some u ∧ RelV v u ∧ ∀ G, Rep X.K G v d
  kd : ∀ x kv, C.kd x = some kv → ∃ p, X.mg x = some (.ref p) ∧ ∀ z d, kv.lookup z = some d → ∃ v, KDct X.K X.w p z v ∧ ∀ G, Rep X.K G v d
  bl : ∀ x, bltNames.contains x = true → X.mg x = none
  fns1 : 1 ≤ n → ∀ f np, S.fns f = some np → ∃ fa fd ps, X.mg f = some (.ref fa) ∧ Binds X.K fd ps [] ∧ FnOk X.prog X.w X.K X.mg X.base CX0 (n - 1) fa fd ps (spF X.K C.call1 f np)
  fn0 : C.up = n
  me : ∀ cd, S.me = some cd → ∃ p Ca dx fvs, B.p 0 = some p ∧ (∀ G, B.inv G → G p = some (.ins Ca dx fvs)) ∧ ClsOk n C.call X cd Ca ∧ fvs.map (·.1) = cd.gh ∧ cd.gh.Nodup ∧ ∀ (k : Nat) (q : Str × V), fvs[k]? = some q → ∃ a, q.2 = V.ref a ∧ B.p (S.gi + k) = some a
  cl : ∀ c cd, S.cl c = some cd → ∃ Ca fi fd ps, X.mg c = some (.ref Ca) ∧ ClsOk n C.call X cd Ca ∧ Mk X.K Ca fi ∧ Binds X.K fd ps [] ∧ ∀ k, FnOk X.prog X.w X.K X.mg X.base CX0 (k + 1) fi fd ps (spI Ca cd)
  fns : ∀ f np, S.fns f = some np → ∃ fa fd ps, X.mg f = some (.ref fa) ∧ PySem.W.keepIn X.K (.ref fa) = true ∧ Binds X.K fd ps [] ∧ FnOk X.prog X.w X.K X.mg X.base CX0 n fa fd ps (spF X.K C.call f np)
theorem CxOk.blk {n : Nat} {C : Cfg} {B : Fb} {S : Sx} {X : Cx} (c : CxOk n C B S X) (scope : Scope) (s : Shared) (H : Hp) (Ca : Addr) (cl : List (Str × Addr)) (fp : List Addr) : CxOk n C B (blkS S scope) (X.blk s H scope (compEnvC scope cl Ca X.env) fp) where
  calm := c.calm
  room := c.room
  N := c.N
  nd := c.nd
  sc := by
    show relS scope X.env.scope = relS scope S.sc
    rw [c.sc]
  fn := rfl
  xe := rfl
  gl := c.gl
  kd := c.kd
  bl := c.bl
  fns1 := c.fns1
  fn0 := c.fn0
  me := fun cd h => by
    obtain ⟨p, Ca, dx, fvs, h1, h2, h3, h4⟩ := c.me cd h
    exact ⟨p, Ca, dx, fvs, h1, h2, ⟨h3.cls, h3.no, h3.lens, h3.me⟩, h4⟩
  cl := fun x cd h => by
    obtain ⟨Ca, fi, fd, ps, h1, h2, h3⟩ := c.cl x cd h
    exact ⟨Ca, fi, fd, ps, h1, ⟨h2.cls, h2.no, h2.lens, h2.me⟩, h3⟩
  fns := c.fns

section
variable {n : Nat} {C : Cfg} {B : Fb} {S : Sx} {X : Cx} {env : Env} {e : Expr} {es : List Expr}
theorem CxOk.gl_of (c : CxOk n C B S X) {x : Str} (h : isGl S.sc x = true) : Gl X x := by
  unfold isGl at h
  show X.env.scope.names.lookup x = some .globalImplicit
  rw [c.sc]
  split at h
  · assumption
  · cases h
theorem CxOk.vis_of (c : CxOk n C B S X) {x : Str} (h : isVis S.sc x = true) : Vis X.env.scope x := by
  unfold isVis at h
  unfold Vis
  rw [c.sc]
  split at h
  · exact .inl (by assumption)
  · exact .inr (.inl (by assumption))
  · exact .inr (.inr (by assumption))
  · cases h
theorem CxOk.loc_of (c : CxOk n C B S X) {x : Str} (h : isLoc S x = true) : L2.Loc X.env.scope x ∧ (X.fn x = true ∨ X.env.scope.names.lookup x = some .local) := by
  unfold isLoc at h
  unfold L2.Loc
  rw [c.sc, c.fn]
  split at h
  · rename_i q; exact ⟨.inl q, .inr q⟩
  · rename_i q; exact ⟨.inr q, .inl h⟩
  · cases h
theorem star_ok (h : plainE e = true) : starEach (e :: es) env = (false, eval e env) :: starEach es env := by
  cases e <;> first | rfl | cases h
theorem plain_ix (h : plainE e = true) : PlainIx e := by
  intro o i
  cases e <;> first | rfl | cases h
theorem set_ok (h : plainE e = true) (x : Value) : foldedSetIterable e env x = pure x := by
  cases e <;> first | rfl | cases h
theorem mark_ok (op : CmpOp) (h : plainE e = true) : behindInMarks op e = false := by
  cases e <;> first | rfl | cases h
theorem assign_ok (h : plainE e = true) : (assignEach (e :: es) env).map (·.2) = assign e env :: (assignEach es env).map (·.2) := by
  cases e <;> first | rfl | cases h
theorem swap_ok (h : compE e = false) (t : Option Expr) (l : Nat) : swapsWith e t l env = pure false := by
  cases e <;> first | rfl | cases h
theorem okA_star {S : Sx} : ∀ {as : IAs} {es : List Expr}, (∀ a e, okE S a e = true → plainE e = true) → okA S as es = true → ∀ env, (starEach es env).any (·.1) = false
  | .nil, es, _, h, env => by
    unfold okA at h
    cases es with
    | nil => rfl
    | cons => cases h
  | .cons a r, es, hp, h, env => by
    unfold okA at h
    cases es with
    | nil => cases h
    | cons e es =>
      simp only [Bool.and_eq_true] at h
      rw [star_ok (hp a e h.1), List.any_cons, okA_star hp h.2 env]; rfl
theorem okE_plain {S : Sx} (a : IE) (e : Expr) (h : okE S a e = true) : plainE e = true := by
  cases a <;> cases e <;> first | rfl | (simp [okE] at h; done) | (simp [okE, plainE] at h; done)
theorem back_any {pos : Pos} {l : List (Bool × Sem Value)} (h : l.any (·.1) = false) : (backTo pos l).any (·.1) = false := by
  unfold backTo
  rw [List.any_map]
  exact h
theorem okA_any {S : Sx} {as : IAs} (h : okA S as es = true) {pos : Pos} : (backTo pos (starEach es env)).any (·.1) = false := back_any (okA_star okE_plain h env)
end

/-! ### lending -/
section
variable {K : PySem.W.Frag} {B : Fb} {H0 G H G' H' G1 H1 G2 H2 Gs Hs : Hp} {σ : St} {ρ ρ' ρs ρ1 ρ2 : List Sl}
theorem toArgs_len : ∀ {ts : List T} {args : List Arg}, toArgs ρ ts = some args → ts.length = args.length
  | [], args, h => by cases h; rfl
  | t :: ts, args, h => by
    unfold toArgs at h
    split at h
    · rename_i a as e1 e2; cases h
      rw [List.length_cons, List.length_cons, toArgs_len e2]
    · cases h
theorem toArgs_get : ∀ {ts : List T} {args : List Arg} {i : Nat} {a : Arg}, toArgs ρ ts = some args → args[i]? = some a → ∃ t, ts[i]? = some t ∧ toArg ρ t = some a
  | [], args, i, a, h, e => by cases h; simp at e
  | t :: ts, args, i, a, h, e => by
    unfold toArgs at h
    split at h
    · rename_i a' as e1 e2; cases h
      cases i with
      | zero => simp at e; subst e; exact ⟨t, rfl, e1⟩
      | succ i => obtain ⟨u, h1, h2⟩ := toArgs_get e2 (i := i) (a := a) (by simpa using e); exact ⟨u, by simpa using h1, h2⟩
    · cases h
theorem TRepL.len {vs : List V} {ts : List T} (h : TRepL K Hs G H σ vs ts) : vs.length = ts.length := by
  induction vs generalizing ts with
  | nil => cases ts with
    | nil => rfl
    | cons => exact h.elim
  | cons v vs ih => cases ts with
    | nil => exact h.elim
    | cons t ts => rw [List.length_cons, List.length_cons, ih h.2]
theorem TRepL.get {vs : List V} {ts : List T} {i : Nat} {t : T} (h : TRepL K Hs G H σ vs ts) (e : ts[i]? = some t) : ∃ v, vs[i]? = some v ∧ TRep K Hs G H σ v t := by
  induction vs generalizing ts i with
  | nil => cases ts with
    | nil => simp at e
    | cons => exact h.elim
  | cons v vs ih => cases ts with
    | nil => exact h.elim
    | cons u ts =>
      cases i with
      | zero => simp at e; subst e; exact ⟨v, rfl, h.1⟩
      | succ i => obtain ⟨w, h1, h2⟩ := ih h.2 (i := i) (by simpa using e); exact ⟨w, by simpa using h1, h2⟩
theorem toArg_bo {t : T} {o : O} (h : toArg ρ t = some (.bo o)) : t = .new o ∨ ∃ i, t = .sl i ∧ (ρ[i]? = some (.own o) ∨ ρ[i]? = some (.bor o)) := by
  unfold toArg at h
  split at h
  · cases h
  · cases h; exact .inl rfl
  · rename_i i
    split at h <;> first | (cases h; done) | skip
    · rename_i q; cases h; exact .inr ⟨i, rfl, .inl q⟩
    · rename_i q; cases h; exact .inr ⟨i, rfl, .inr q⟩
theorem news_pos : ∀ {ts : List T} {i : Nat} {o : O}, ts[i]? = some (.new o) → 1 ≤ news ts
  | [], i, o, h => by simp at h
  | t :: ts, i, o, h => by
    cases i with
    | zero => simp at h; subst h; exact Nat.le_add_left ..
    | succ i =>
      have q := news_pos (ts := ts) (i := i) (o := o) (by simpa using h)
      cases t with
      | d d => exact q
      | new d => exact Nat.le_add_left ..
      | sl k => exact q
theorem news_one : ∀ {ts : List T} {i j : Nat} {o o' : O}, news ts ≤ 1 → ts[i]? = some (.new o) → ts[j]? = some (.new o') → i = j
  | [], i, j, o, o', _, h, _ => by simp at h
  | t :: ts, i, j, o, o', n, hi, hj => by
    cases i with
    | zero =>
      cases j with
      | zero => rfl
      | succ j =>
        simp at hi; subst hi
        have q := news_pos (ts := ts) (i := j) (o := o') (by simpa using hj)
        have n' : news ts + 1 ≤ 1 := n
        omega
    | succ i =>
      have q := news_pos (ts := ts) (i := i) (o := o) (by simpa using hi)
      cases j with
      | zero =>
        simp at hj; subst hj
        have n' : news ts + 1 ≤ 1 := n
        omega
      | succ j =>
        have n' : news ts ≤ 1 := by
          cases t with
          | d d => exact n
          | sl k => exact n
          | new d =>
            have n' : news ts + 1 ≤ 1 := n
            omega
        rw [news_one (ts := ts) (i := i) (j := j) n' (by simpa using hi) (by simpa using hj)]
theorem lent_mem : ∀ {ts : List T} {i j : Nat} {o : O}, ts[j]? = some (.sl i) → (ρ[i]? = some (.own o) ∨ ρ[i]? = some (.bor o)) → i ∈ lent ρ ts
  | [], i, j, o, h, _ => by simp at h
  | t :: ts, i, j, o, h, q => by
    cases j with
    | zero =>
      simp at h; subst h
      unfold lent
      rcases q with q | q <;> rw [q] <;> simp
    | succ j =>
      have m := lent_mem (ts := ts) (i := i) (j := j) (o := o) (by simpa using h) q
      cases t with
      | d d => exact m
      | new d => exact m
      | sl k =>
        unfold lent
        split <;> first | exact List.mem_cons_of_mem _ m | exact m
theorem lent_inj : ∀ {ts : List T} {i j k : Nat} {o : O}, (lent ρ ts).Nodup → ts[j]? = some (.sl i) → ts[k]? = some (.sl i) → (ρ[i]? = some (.own o) ∨ ρ[i]? = some (.bor o)) → j = k
  | [], i, j, k, o, _, h, _, _ => by simp at h
  | t :: ts, i, j, k, o, nd, hj, hk, q => by
    have nd' : (lent ρ ts).Nodup := by
      cases t with
      | d d => exact nd
      | new d => exact nd
      | sl k =>
        unfold lent at nd
        split at nd <;> first | exact (List.nodup_cons.mp nd).2 | exact nd
    have out : t = .sl i → i ∉ lent ρ ts := fun e => by
      subst e
      unfold lent at nd
      rcases q with q | q <;> (rw [q] at nd; exact (List.nodup_cons.mp nd).1)
    cases j with
    | zero =>
      cases k with
      | zero => rfl
      | succ k => exact absurd (lent_mem (by simpa using hk) q) (out (by simpa using hj))
    | succ j =>
      cases k with
      | zero => exact absurd (lent_mem (by simpa using hj) q) (out (by simpa using hk))
      | succ k => rw [lent_inj nd' (i := i) (j := j) (k := k) (by simpa using hj) (by simpa using hk) q]
theorem args_ok {vs : List V} {ts : List T} {args : List Arg} (s : StRep K B H0 G H σ ρ) (h : TRepL K Hs G H σ vs ts) (al : ∀ b, Ow σ ρ b → Hs b ≠ none) (e : toArgs ρ ts = some args) (nd : (lent ρ ts).Nodup) (nw : news ts ≤ 1) : ArgsOk K G H vs args := by
  have own : ∀ {i : Nat} {o : O}, args[i]? = some (.bo o) → ∃ (a : Addr), vs[i]? = some (V.ref a) ∧ ORep K G H a o ∧ ((ts[i]? = some (.new o) ∧ Hs a = none) ∨ ∃ k, ts[i]? = some (T.sl k) ∧ (ρ[k]? = some (Sl.own o) ∨ ρ[k]? = some (Sl.bor o)) ∧ OwnAt σ ρ k a) := fun {i o} ea => by
    obtain ⟨t, e1, e2⟩ := toArgs_get e ea
    rcases toArg_bo e2 with rfl | ⟨k, rfl, q⟩
    · obtain ⟨v, e3, a, rfl, r, f⟩ := h.get e1
      exact ⟨a, e3, r, .inl ⟨e1, f⟩⟩
    · obtain ⟨v, e3, e4⟩ := h.get e1
      have e4' : σ[k]? = some (some v) := e4
      rcases q with q | q
      · obtain ⟨a, e5, r, _⟩ := s.at_ k _ q
        rw [e5] at e4'; cases e4'
        exact ⟨a, e3, r, .inr ⟨k, e1, .inl q, e5, _, q, rfl⟩⟩
      · obtain ⟨a, e5, r⟩ := s.at_ k _ q
        rw [e5] at e4'; cases e4'
        exact ⟨a, e3, r, .inr ⟨k, e1, .inr q, e5, _, q, rfl⟩⟩
  refine ⟨by rw [h.len, toArgs_len e], fun i d ea => ?_, fun i o ea => ?_, fun i j o o' a e1 e2 e3 e4 => ?_⟩
  · obtain ⟨t, e1, e2⟩ := toArgs_get e ea
    obtain ⟨v, e3, e4⟩ := h.get e1
    refine ⟨v, e3, ?_⟩
    unfold toArg at e2
    split at e2
    · cases e2; exact e4
    · cases e2
    · rename_i k
      have e4' : σ[k]? = some (some v) := e4
      split at e2 <;> first | (cases e2; done) | skip
      all_goals
        rename_i q; cases e2
        obtain ⟨w, e5, r⟩ := s.at_ k _ q
        rw [e5] at e4'; cases e4'
        exact r
  · obtain ⟨a, e3, r, _⟩ := own ea
    exact ⟨a, e3, r⟩
  · obtain ⟨b, f1, _, f2⟩ := own e1
    obtain ⟨c, g1, _, g2⟩ := own e2
    rw [e3] at f1; cases f1
    rw [e4] at g1; cases g1
    rcases f2 with ⟨f2, f3⟩ | ⟨k, f2, f3, f4⟩
    · rcases g2 with ⟨g2, _⟩ | ⟨k', _, _, g4⟩
      · exact news_one nw f2 g2
      · exact absurd f3 (al a ⟨k', g4⟩)
    · rcases g2 with ⟨_, g3⟩ | ⟨k', g2, g3, g4⟩
      · exact absurd g3 (al a ⟨k, f4⟩)
      · have ek := s.inj k k' a f4 g4
        subst ek
        exact lent_inj nd f2 g2 f3
theorem backs_keys : ∀ {ts : List T} {bs : List Sl} {l : List (Nat × Sl)}, backs ρ ts bs = some l → l.map (·.1) = lent ρ ts
  | [], [], l, h => by cases h; rfl
  | [], _ :: _, l, h => by cases h
  | .d _ :: ts, [], l, h => by cases h
  | .new _ :: ts, [], l, h => by cases h
  | .sl _ :: ts, [], l, h => by cases h
  | .d _ :: ts, b :: bs, l, h => backs_keys (ts := ts) (bs := bs) h
  | .new _ :: ts, b :: bs, l, h => backs_keys (ts := ts) (bs := bs) h
  | .sl i :: ts, b :: bs, l, h => by
    unfold backs at h
    unfold lent
    split at h
    · rename_i q
      obtain ⟨s, _, h⟩ := Option.bind_eq_some_iff.mp h
      obtain ⟨r, e2, h⟩ := Option.map_eq_some_iff.mp h
      subst h
      show i :: r.map (·.1) = i :: lent ρ ts
      rw [backs_keys e2]
    · rename_i q
      obtain ⟨s, _, h⟩ := Option.bind_eq_some_iff.mp h
      obtain ⟨r, e2, h⟩ := Option.map_eq_some_iff.mp h
      subst h
      show i :: r.map (·.1) = i :: lent ρ ts
      rw [backs_keys e2]
    · have e := backs_keys h
      first
        | exact e
        | (split <;> first | exact e | (rename_i q; exact absurd q (by assumption)))
theorem backs_mem : ∀ {ts : List T} {bs : List Sl} {l : List (Nat × Sl)} {i : Nat} {s : Sl}, backs ρ ts bs = some l → (i, s) ∈ l →
    ∃ (j : Nat) (b : Sl) (o : O), ts[j]? = some (T.sl i) ∧ bs[j]? = some b ∧ ((ρ[i]? = some (.own o) ∧ back1 (.own o) b = some s) ∨ (ρ[i]? = some (.bor o) ∧ back1 (.bor o) b = some s))
  | [], [], l, i, s, h, m => by cases h; cases m
  | [], _ :: _, l, i, s, h, m => by cases h
  | .d _ :: ts, [], l, i, s, h, m => by cases h
  | .new _ :: ts, [], l, i, s, h, m => by cases h
  | .sl _ :: ts, [], l, i, s, h, m => by cases h
  | .d _ :: ts, b :: bs, l, i, s, h, m => by
    obtain ⟨j, c, o, h1, h2, h3⟩ := backs_mem (ts := ts) (bs := bs) h m
    exact ⟨j + 1, c, o, by simpa using h1, by simpa using h2, h3⟩
  | .new _ :: ts, b :: bs, l, i, s, h, m => by
    obtain ⟨j, c, o, h1, h2, h3⟩ := backs_mem (ts := ts) (bs := bs) h m
    exact ⟨j + 1, c, o, by simpa using h1, by simpa using h2, h3⟩
  | .sl k :: ts, b :: bs, l, i, s, h, m => by
    have up : ∀ {r}, backs ρ ts bs = some r → (i, s) ∈ r → ∃ (j : Nat) (b' : Sl) (o : O), (T.sl k :: ts)[j]? = some (T.sl i) ∧ (b :: bs)[j]? = some b' ∧ ((ρ[i]? = some (.own o) ∧ back1 (.own o) b' = some s) ∨ (ρ[i]? = some (.bor o) ∧ back1 (.bor o) b' = some s)) := fun {r} h m => by
      obtain ⟨j, c, o, h1, h2, h3⟩ := backs_mem (ts := ts) (bs := bs) h m
      exact ⟨j + 1, c, o, by simpa using h1, by simpa using h2, h3⟩
    unfold backs at h
    split at h
    · rename_i o q
      obtain ⟨s', e1, h⟩ := Option.bind_eq_some_iff.mp h
      obtain ⟨r, e2, h⟩ := Option.map_eq_some_iff.mp h
      subst h
      rcases List.mem_cons.mp m with e | m
      · cases e; exact ⟨0, b, o, rfl, rfl, .inl ⟨q, e1⟩⟩
      · exact up e2 m
    · rename_i o q
      obtain ⟨s', e1, h⟩ := Option.bind_eq_some_iff.mp h
      obtain ⟨r, e2, h⟩ := Option.map_eq_some_iff.mp h
      subst h
      rcases List.mem_cons.mp m with e | m
      · cases e; exact ⟨0, b, o, rfl, rfl, .inr ⟨q, e1⟩⟩
      · exact up e2 m
    · exact up h m
theorem setAll_len : ∀ {l : List (Nat × Sl)}, (setAll ρ l).length = ρ.length
  | [] => rfl
  | p :: r => by unfold setAll; rw [List.length_set, setAll_len]
theorem setAll_get : ∀ {l : List (Nat × Sl)} {i : Nat} {s : Sl}, (setAll ρ l)[i]? = some s → (i, s) ∈ l ∨ (i ∉ l.map (·.1) ∧ ρ[i]? = some s)
  | [], i, s, h => .inr ⟨by simp, h⟩
  | p :: r, i, s, h => by
    unfold setAll at h
    rcases getset h with ⟨rfl, rfl, _⟩ | ⟨ne, h⟩
    · exact .inl List.mem_cons_self
    · rcases setAll_get h with m | ⟨m, e⟩
      · exact .inl (List.mem_cons_of_mem _ m)
      · refine .inr ⟨?_, e⟩
        rw [List.map_cons, List.mem_cons, not_or]
        exact ⟨fun z => ne z.symm, m⟩
theorem setAll_some {l : List (Nat × Sl)} {i : Nat} (h : i < ρ.length) : ∃ s, (setAll ρ l)[i]? = some s := by
  refine ⟨(setAll ρ l)[i]'(by rw [setAll_len]; exact h), List.getElem?_eq_getElem _⟩
theorem back_ok {vs : List V} {ts : List T} {args : List Arg} {bs : List Sl} {l : List (Nat × Sl)} (a : EI K B H0 σ Gs Hs ρs G H ρ) (h : TRepL K Hs G H σ vs ts) (e : toArgs ρ ts = some args) (nd : (lent ρ ts).Nodup)
    (p : CallPost K G H vs args G' H' bs) (hb : backs ρ ts bs = some l) : EI K B H0 σ Gs Hs ρs G' H' (setAll ρ l) := by
  have s := a.s1
  -- what is lent
  have lentOw : ∀ b, Lent vs args b → Hs b = none ∨ (Ow σ ρ b ∧ ∃ k, k ∈ lent ρ ts ∧ OwnAt σ ρ k b) := fun b ⟨j, o, e1, e2⟩ => by
    obtain ⟨t, f1, f2⟩ := toArgs_get e e1
    rcases toArg_bo f2 with rfl | ⟨k, rfl, q⟩
    · obtain ⟨v, f3, a', rfl, _, f⟩ := h.get f1
      rw [e2] at f3; cases f3
      exact .inl f
    right
    obtain ⟨v, f3, f4⟩ := h.get f1
    rw [e2] at f3; cases f3
    have f4' : σ[k]? = some (some (.ref b)) := f4
    have oa : OwnAt σ ρ k b := by
      rcases q with q | q
      · exact ⟨f4', _, q, rfl⟩
      · exact ⟨f4', _, q, rfl⟩
    exact ⟨⟨k, oa⟩, k, lent_mem f1 q, oa⟩
  have one : ∀ {i s'}, (i, s') ∈ l → ∃ a, σ[i]? = some (some (.ref a)) ∧ OwnAt σ ρ i a ∧ ((∃ o o', ρ[i]? = some (.own o) ∧ s' = .own o' ∧ ORep K G' H' a o' ∧ H0 a = none) ∨ (∃ o o', ρ[i]? = some (.bor o) ∧ s' = .bor o' ∧ ORep K G' H' a o') ∨
      (∃ o d, ρ[i]? = some (.own o) ∧ s' = .d d ∧ Rep K G' (.ref a) d) ∨ (∃ o d, ρ[i]? = some (.bor o) ∧ s' = .fz d ∧ Rep K G' (.ref a) d)) := fun {i s'} m => by
    obtain ⟨j, b, o, f1, f2, f3⟩ := backs_mem hb m
    obtain ⟨v, g1, g2⟩ := h.get f1
    have g2' : σ[i]? = some (some v) := g2
    have hj : j < args.length := by
      rw [← toArgs_len e]
      exact (List.getElem?_eq_some_iff.mp f1).1
    obtain ⟨t, k1, k2⟩ := toArgs_get e (List.getElem?_eq_getElem hj)
    rw [f1] at k1; cases k1
    rcases f3 with ⟨q, w⟩ | ⟨q, w⟩
    · obtain ⟨a, z1, z2, z3⟩ := s.at_ i _ q
      rw [z1] at g2'; cases g2'
      have ea : args[j]? = some (.bo o) := by
        rw [List.getElem?_eq_getElem hj, ← k2]
        unfold toArg
        simp [q]
      refine ⟨a, z1, ⟨z1, _, q, rfl⟩, ?_⟩
      rcases p.bs j o a b ea g1 f2 with ⟨o', rfl, r⟩ | ⟨d, rfl, r⟩
      · cases w; exact .inl ⟨o, o', q, rfl, r, z3⟩
      · cases w; exact .inr (.inr (.inl ⟨o, d, q, rfl, r⟩))
    · obtain ⟨a, z1, z2⟩ := s.at_ i _ q
      rw [z1] at g2'; cases g2'
      have ea : args[j]? = some (.bo o) := by
        rw [List.getElem?_eq_getElem hj, ← k2]
        unfold toArg
        simp [q]
      refine ⟨a, z1, ⟨z1, _, q, rfl⟩, ?_⟩
      rcases p.bs j o a b ea g1 f2 with ⟨o', rfl, r⟩ | ⟨d, rfl, r⟩
      · cases w; exact .inr (.inl ⟨o, o', q, rfl, r⟩)
      · cases w; exact .inr (.inr (.inr ⟨o, d, q, rfl, r⟩))
  have ownb : ∀ {i b}, OwnAt σ (setAll ρ l) i b → OwnAt σ ρ i b := fun {i b} ⟨e1, s1, e2, e3⟩ => by
    rcases setAll_get e2 with m | ⟨_, q⟩
    · obtain ⟨a, z1, z2, _⟩ := one m
      rw [e1] at z1; cases z1
      exact z2
    · exact ⟨e1, s1, q, e3⟩
  refine ⟨a.s0, ⟨fun i a hB => ?_, fun b z => p.alive b (s.ali b z), p.sub, by rw [setAll_len]; exact s.len, fun i s' q => ?_, fun i j a u1 u2 => s.inj i j a (ownb u1) (ownb u2), B.mono p.same s.bi⟩, ⟨a.st.same.trans p.same, fun b o eb nb => ?_, fun b z => p.alive b (a.st.alive b z)⟩, fun b ⟨i, hi⟩ => a.ow b ⟨i, ownb hi⟩⟩
  rotate_left 2
  · obtain ⟨k1, k2⟩ := a.st.keep b o eb nb
    obtain ⟨k3, k4⟩ := p.keep b o k1 fun z => (lentOw b z).elim (fun q => by rw [eb] at q; cases q) fun q => nb (a.ow b q.1)
    exact ⟨k3, fun z => k4 (k2 z)⟩
  · obtain ⟨z1, s1, z2, z3⟩ := s.pin i a hB
    refine ⟨z1, ?_⟩
    obtain ⟨s2, z4⟩ := setAll_some (ρ := ρ) (l := l) (List.getElem?_eq_some_iff.mp z2).1
    refine ⟨s2, z4, ?_⟩
    rcases setAll_get z4 with m | ⟨_, q⟩
    · obtain ⟨b, _, _, r⟩ := one m
      rcases r with ⟨o, o', q, rfl, _⟩ | ⟨o, o', q, rfl, _⟩ | ⟨o, d, q, rfl, _⟩ | ⟨o, d, q, rfl, _⟩
      · rw [z2] at q; cases q; cases z3
      · rfl
      · rw [z2] at q; cases q; cases z3
      · rfl
    · rw [z2] at q; cases q; exact z3
  · rcases setAll_get q with m | ⟨nm, q⟩
    · obtain ⟨a, z1, _, r⟩ := one m
      rcases r with ⟨o, o', _, rfl, r, f⟩ | ⟨o, o', _, rfl, r⟩ | ⟨o, d, _, rfl, r⟩ | ⟨o, d, _, rfl, r⟩
      · exact ⟨a, z1, r, f⟩
      · exact ⟨a, z1, r⟩
      · exact ⟨_, z1, r⟩
      · exact ⟨_, z1, r⟩
    · have z := s.at_ i s' q
      have nl : ∀ b, OwnAt σ ρ i b → ¬ Lent vs args b := fun b oa ln => by
        rcases lentOw b ln with f | ⟨_, k, hk, ok⟩
        · exact a.s0.alive (a.ow b ⟨i, oa⟩) f
        have := s.inj i k b oa ok
        subst this
        exact nm (by rw [backs_keys hb]; exact hk)
      cases s' with
      | no => trivial
      | d d => obtain ⟨v, e5, r⟩ := z; exact ⟨v, e5, r.mono p.same⟩
      | own o1 => obtain ⟨b, e5, r, f⟩ := z; exact ⟨b, e5, r.move p.same fun y ey => p.keep b y ey (nl b ⟨e5, _, q, rfl⟩), f⟩
      | bor o1 => obtain ⟨b, e5, r⟩ := z; exact ⟨b, e5, r.move p.same fun y ey => p.keep b y ey (nl b ⟨e5, _, q, rfl⟩)⟩
      | fz d => obtain ⟨v, e5, r⟩ := z; exact ⟨v, e5, r.mono p.same⟩
end
end Fw

set_option maxHeartbeats 4000000
/-! FwS: sorted of a list, of a dict; by a key that a def of the program gives. -/
namespace Fw
open PySem PySem.Calls PySem.Spec PyProof.Rows L2
open PySem.W (EachIs AllAlike Sortable dataKind dataLe SortsAt sortingHeap KeepsBut KeyedOut)
theorem vals_get : ∀ {ws : List V} {us : List Value}, ws.length = us.length → (∀ (i : Nat) (v : V), ws[i]? = some v → ∃ u, us[i]? = some u ∧ RelV v u) → Vals ws us
  | [], [], _, _ => .nil
  | [], _ :: _, e, _ => by simp at e
  | _ :: _, [], e, _ => by simp at e
  | w :: ws, u :: us, e, h => by
    obtain ⟨u', e1, r⟩ := h 0 w rfl
    simp at e1; subst e1
    exact .cons r (vals_get (by simpa using e) fun i v q => by
      obtain ⟨u', e2, r'⟩ := h (i + 1) v (by simpa using q)
      exact ⟨u', by simpa using e2, r'⟩)
/-- what collect gives of r -/
def Coll (X : Cx) (s : Shared) (ws : List V) (r : Addr) : Prop := ∀ (E : Value → Shared → Prop) (R : List Value → Shared → Prop),
  (∀ h' tk us, (∀ b o, s.heap.get? b = some o → h'.get? b = some o) → Vals ws us → R us { s with heap := h', toks := tk }) → wpAny (model X.prog X.w) X.A.in1 (collect (.ref r)) R E s
theorem repKeys {K : PySem.W.Frag} {G : Hp} : ∀ (kvs : List (Key × V)), RepL K G (kvs.map fun p => kV p.1) (kvs.map fun p => keyD p.1)
  | [] => .nil
  | ⟨.inl i, v⟩ :: kvs => .cons (.int i) (repKeys kvs)
  | ⟨.inr x, v⟩ :: kvs => .cons (.str x) (repKeys kvs)
section
variable {X : Cx} {pins : List (Addr × Obj)} {σ : St} {H G : Hp} {s : Shared} {v : V} {ks vs : List D} {ds : List D} {a : Addr} {ws : List V}
theorem coll_list (I : Inv X pins σ H s) (h : SqL X.K H a ws) : Coll X s ws a := fun E R k => by
  obtain ⟨its, r, pl, hz⟩ := I.list h
  refine collect_list pl.isList ?_ (by rw [← r.length]; exact hz)
  exact k _ s.toks its (fun b o e => by
    rw [Heap.get?_update_ne _ _ _ _ (Nat.ne_of_lt (Heap.lt_size e))]
    exact Heap.get?_push_of_some _ e) r
theorem coll_dict (I : Inv X pins σ H s) (hh : X.A.handled = none) (sg : Same G H) (hd : VRep X.K G H v (.dic ks vs)) : ∃ a ws, v = .ref a ∧ RepL X.K G ws ks ∧ ws.length ≤ sizeLine ∧ Coll X s ws a := by
  obtain ⟨a, u, rfl, rd, du⟩ := hd
  have go : ∀ {ws : List V} {es : Array DictEntry} {ep : Nat}, (a == sysModules) = false → s.heap.DictRaw a es ep → es.size = ws.length → ws.length ≤ sizeLine → (∀ i (hi : i < es.size) v, ws[i]? = some v → RelV v es[i].key) → Coll X s ws a := fun {ws es ep} lo rw' hs hz hk => fun E R k => by
    refine PySem.W.kdu_collect (A := X.A.in1) (KdlSrc.rawDict lo) hh rw' (by rw [hs]; exact hz) fun h' tk acc hkp hacc => ?_
    refine k h' tk _ hkp (vals_get (by have z := hacc.1; have z2 : acc.toList.length = acc.size := Array.length_toList; omega) fun i w e => ?_)
    have hi : i < es.size := by rw [hs]; exact (List.getElem?_eq_some_iff.mp e).1
    have hi' : i < acc.size := by rw [hacc.1]; exact hi
    obtain ⟨hi2, e2⟩ := hacc.2 i acc[i] (by simp [hi'])
    refine ⟨acc[i], by simp [hi'], ?_⟩
    rw [e2]
    exact hk i hi w e
  rcases du with ⟨kvs, rfl, rfl, l⟩ | ⟨xs, rfl, l1, ⟨m, _⟩, l2⟩
  · obtain ⟨z, lo, us, r, dd⟩ := dk_rd I.hok rd
    obtain ⟨es, ep, hr, hs, he⟩ := dd.raw
    refine ⟨a, kvs.map fun p => kV p.1, rfl, repKeys kvs, by rw [List.length_map]; exact z, go lo hr (by rw [hs, List.length_map]; exact (KV.length r).symm) (by rw [List.length_map]; exact z) fun i hi w e => ?_⟩
    rw [List.getElem?_map] at e
    obtain ⟨p, e1, rfl⟩ := Option.map_eq_some_iff.mp e
    obtain ⟨u, e2, _⟩ := kv_get r (i := i) (k := p.1) (v := p.2) e1
    exact relV_key (show keyIs p.1 es[i].key = true from (he i hi _ _ e2).1)
  · have t := tdP_of I.hok rd
    obtain ⟨us, r, dd⟩ := tdP_H t (refs_keys I sg t.2.2.1 l1 m)
    obtain ⟨es, ep, hr, hs, he⟩ := dd.raw
    refine ⟨a, xs.map fun x => V.ref x.2.1, rfl, l1, by rw [List.length_map]; exact t.1, go t.2.1 hr (by rw [hs, List.length_map]; exact r.length.symm) (by rw [List.length_map]; exact t.1) fun i hi w e => ?_⟩
    rw [List.getElem?_map] at e
    obtain ⟨x, e1, rfl⟩ := Option.map_eq_some_iff.mp e
    obtain ⟨u, e2, _⟩ := r.get e1
    obtain ⟨y, e3, e4, _⟩ := he i hi
    rw [e2] at e3; cases e3
    exact e4
/-- the items stand for the trees -/
def ItR (K : PySem.W.Frag) (G : Hp) (u : Value) (d : D) : Prop := ∃ v, RelV v u ∧ Rep K G v d
theorem each_of {K : PySem.W.Frag} : ∀ {ws : List V} {ds : List D} {us : List Value}, RepL K G ws ds → Vals ws us → EachIs (ItR K G) us ds
  | _, _, _, .nil, .nil => .nil
  | _, _, _, .cons h l, .cons r t => .cons ⟨_, r, h⟩ (each_of l t)
theorem each_back {K : PySem.W.Frag} : ∀ {us : List Value} {ds : List D}, EachIs (ItR K G) us ds → ∃ ws, RepL K G ws ds ∧ Vals ws us
  | _, _, .nil => ⟨[], .nil, .nil⟩
  | _, _, .cons ⟨v, r, h⟩ t => by
    obtain ⟨ws, l, rs⟩ := each_back t
    exact ⟨v :: ws, .cons h l, .cons r rs⟩
theorem each_reads (I : Inv X pins σ H s) (sg : Same G H) {h' : Heap} (kp : ∀ b o, s.heap.get? b = some o → h'.get? b = some o) : ∀ {ws : List V} {ds : List D} {us : List Value}, (∀ d ∈ ds, d.pd.canLay0 = true) → RepL X.K G ws ds → Vals ws us →
    EachIs (fun u d => ∃ as, Reads h' u d as) us (ds.map D.pd)
  | _, _, _, _, .nil, .nil => .nil
  | _, _, _, c, .cons h l, .cons r t => by
    obtain ⟨as, q⟩ := Dp.reads I _ _ _ (Rep.dp (c _ List.mem_cons_self) (h.mono sg)) r
    exact .cons ⟨as, PyProof.Rows.Reads.keeps kp q⟩ (each_reads I sg kp (fun d hd => c d (List.mem_cons_of_mem _ hd)) l t)
theorem sortOk_inv (h : sortOk ds = true) : (∀ d ∈ ds, d.pd.canLay0 = true ∧ d.pd.depth ≤ 8) ∧ AllAlike (ds.map D.pd) ∧ Sortable (ds.map D.pd) ∧ ds.length ≤ sizeLine := by
  unfold sortOk at h
  simp only [Bool.and_eq_true, Bool.or_eq_true, List.all_eq_true, decide_eq_true_eq] at h
  obtain ⟨⟨h1, h2⟩, h3⟩ := h
  refine ⟨fun d hd => (h1 d hd).1, fun x hx y hy => ?_, ?_, h3⟩
  · obtain ⟨d, hd, rfl⟩ := List.mem_map.mp hx
    obtain ⟨e, he, rfl⟩ := List.mem_map.mp hy
    exact (h1 d hd).2 e he
  · rcases h2 with h2 | h2
    · refine .inl fun x hx => ?_
      obtain ⟨d, hd, rfl⟩ := List.mem_map.mp hx
      have := h2 d hd
      unfold PdTup at this
      split at this
      · rename_i y r e; exact ⟨y, r, e⟩
      · cases this
    · refine .inr fun x hx => ?_
      obtain ⟨d, hd, rfl⟩ := List.mem_map.mp hx
      have := h2 d hd
      unfold PdOth at this
      split at this
      · cases this
      · cases this
      · rename_i n1 n2; exact ⟨n1, n2⟩
theorem relvs_len {us : List Value} (r : Vals ws us) (z : ws.length ≤ sizeLine) : us.length ≤ sizeLine := by rw [← r.length]; exact z
/-- sorted(..) -/
theorem sort_plain {Q : VK} (I : Inv X pins σ H s) (hu : X.A.units + 80 < cLine) (sg : Same G H) (coll : Coll X s ws a) (l : RepL X.K G ws ds) (ok : sortOk ds = true)
    (q : ∀ p out, H p = none → RepL X.K G out (sortD ds) → Q (.ref p) (upd H p (.lst out))) : wpAny (model X.prog X.w) X.A (call (.builtin "sorted") [.ref a]) (EP X pins σ Q) X.xe s := by
  obtain ⟨c1, c2, c3, c4⟩ := sortOk_inv ok
  refine call_function_entry kind_sorted plain_sorted entry_sorted (args_sorted1 _) ?_
  unfold Builtin.«sorted»
  refine wpAny_bind (m := checkCount "sorted" 1 1 _) (wpAny_pure ?_)
  refine wpAny_bind (coll _ _ fun h' tk us kp r => ?_)
  have hz : us.length ≤ sizeLine := relvs_len r (by rw [l.length]; exact c4)
  refine wpAny_bind (wpAny_newList ?_ hz)
  have hD : (h'.push (seqObj "list" us.toArray 0)).get? h'.objs.size = some (seqObj "list" us.toArray 0) := Heap.get?_push_size _ rfl
  have kp2 : ∀ b o, s.heap.get? b = some o → (h'.push (seqObj "list" us.toArray 0)).get? b = some o ∧ b ≠ h'.objs.size := fun b o e =>
    ⟨Heap.get?_push_of_some _ (kp b o e), Nat.ne_of_lt (Heap.lt_size (kp b o e))⟩
  have kp3 : ∀ b o, s.heap.get? b = some o → (sortingHeap (h'.push (seqObj "list" us.toArray 0)) h'.objs.size us).get? b = some o := fun b o e => PySem.W.sortingHeap_old (kp2 b o e).2 (kp2 b o e).1
  have er := each_reads I sg kp3 (fun d hd => (c1 d hd).1) l r
  have hR : EachIs (ItR X.K G) us ds := each_of l r
  refine wpAny_bind (wpAny_holding (wpAny_call_entry_kw slot_list_sort ⟨_, hD, rfl⟩ entry_list_sort ?body (args_list_sort _)))
  case body =>
    refine PySem.W.list_sort_vals (n := 0) (s := { s with heap := h'.push (seqObj "list" us.toArray 0), toks := tk }) (κ := dataKind (sortingHeap (h'.push (seqObj "list" us.toArray 0)) h'.objs.size us) (ds.map D.pd)) hD
      (SortsAt.data (s := { s with heap := sortingHeap (h'.push (seqObj "list" us.toArray 0)) h'.objs.size us, toks := tk }) er c2 c3 fun d hd => ?_) hz ⟨.none, rfl, wpAny_pure ⟨_, rfl, ?_⟩⟩
    · obtain ⟨e, he, rfl⟩ := List.mem_map.mp hd
      have := (c1 e he).2
      show X.A.units + 1 + 1 + _ < _
      omega
    · have hout := PySem.W.keyedOut_each (rev := false) D.pd (vs := us) ⟨_, us, c2, rfl, er⟩ hR
      obtain ⟨out, lo, ro⟩ := each_back hout
      obtain ⟨ep, he⟩ := sortedHeap_at (vs := us) (out := (PySem.W.sortVals (dataKind (sortingHeap (h'.push (seqObj "list" us.toArray 0)) h'.objs.size us) (ds.map D.pd)) false us us).toArray) hD
      have I1 : Inv X pins σ H { s with heap := h', toks := tk } := I.kept kp
      have hp : H h'.objs.size = none := I1.hok.fresh (Nat.le_refl _)
      have hlen : out.length ≤ sizeLine := by
        rw [lo.length]
        unfold sortD at *
        rw [List.length_mergeSort]
        exact c4
      refine ⟨.ref h'.objs.size, _, I1.laid (o := .lst out) (fun b o e => ?_) (Nat.le_refl _) ⟨hlen, _, ep, ro, he⟩, rfl, q _ _ hp lo⟩
      have hb : b ≠ h'.objs.size := Nat.ne_of_lt (Heap.lt_size e)
      have e2 : (h'.push (seqObj "list" us.toArray 0)).get? b = some o := Heap.get?_push_of_some _ e
      rw [sortedHeap_old hb (Heap.lt_size e2)]
      exact e2

def hole (H : Hp) (p : Addr) : Hp := fun b => if b = p then none else H b
theorem hole_self {H : Hp} {p : Addr} : hole H p p = none := if_pos rfl
theorem hole_ne {H : Hp} {p b : Addr} (h : b ≠ p) : hole H p b = H b := if_neg h
theorem keysF_len {call : Str → List Arg → Option (T × List Sl)} {f : Str} : ∀ {ds ks : List D}, keysF call f ds = some ks → ks.length = ds.length
  | [], ks, h => by cases h; rfl
  | d :: ds, ks, h => by
    unfold keysF at h
    split at h
    · obtain ⟨r, e, rfl⟩ := Option.map_eq_some_iff.mp h
      rw [List.length_cons, List.length_cons, keysF_len e]
    · cases h
theorem keysF_get {call : Str → List Arg → Option (T × List Sl)} {f : Str} : ∀ {ds ks : List D} {i : Nat} {d : D}, keysF call f ds = some ks → ds[i]? = some d → ∃ k bs, ks[i]? = some k ∧ call f [.fr d] = some (.d k, bs)
  | [], ks, i, d, h, e => by simp at e
  | x :: ds, ks, i, d, h, e => by
    unfold keysF at h
    split at h
    · rename_i k bs e1
      obtain ⟨r, e2, rfl⟩ := Option.map_eq_some_iff.mp h
      cases i with
      | zero => simp at e; subst e; exact ⟨k, bs, rfl, e1⟩
      | succ i =>
        obtain ⟨k', bs', h1, h2⟩ := keysF_get e2 (i := i) (d := d) (by simpa using e)
        exact ⟨k', bs', by simpa using h1, h2⟩
    · cases h
theorem each_fst {K : PySem.W.Frag} : ∀ {us : List Value} {ds ks : List D}, ks.length = ds.length → EachIs (ItR K G) us ds → EachIs (fun u (p : D × D) => ItR K G u p.1) us (ds.zip ks)
  | _, [], _, _, .nil => .nil
  | _, d :: ds, [], e, .cons h t => by simp at e
  | _, d :: ds, k :: ks, e, .cons h t => .cons h (each_fst (by simpa using e) t)
theorem each_unfst {K : PySem.W.Frag} : ∀ {us : List Value} {ps : List (D × D)}, EachIs (fun u (p : D × D) => ItR K G u p.1) us ps → EachIs (ItR K G) us (ps.map fun p => p.1)
  | _, [], .nil => .nil
  | _, p :: ps, .cons h t => .cons h (each_unfst t)
theorem zip_snd : ∀ {ds ks : List D}, ks.length = ds.length → (ds.zip ks).map (fun p => p.2.pd) = ks.map D.pd
  | [], [], _ => rfl
  | [], _ :: _, e => by simp at e
  | _ :: _, [], e => by simp at e
  | d :: ds, k :: ks, e => by
    rw [List.zip_cons_cons, List.map_cons, List.map_cons, zip_snd (by simpa using e)]
/-- the state of the key loop -/
structure KLoop (X : Cx) (pins : List (Addr × Obj)) (σ : St) (G H : Hp) (Dl kS : Addr) (e1 : Nat) (ks : List D) (j : Nat) (Gj Hj : Hp) (kvs : List V) (s : Shared) : Prop where
  I : Inv X pins σ Hj s
  g : Same G Gj
  sub : Same Gj Hj
  hD : Hj Dl = some (.frz (seqObj "list" #[] e1) (.lst []))
  gD : Gj Dl = none
  hk : Hj kS = some (.lst kvs)
  gk : Gj kS = none
  l : RepL X.K Gj kvs (ks.take j)
  keep : ∀ b o, H b = some o → Hj b = some o ∧ (G b = none → Gj b = none)
/-- one key -/
theorem key_turn {call : Str → List Arg → Option (T × List Sl)} {f : Str} {fa : Addr} {fd : FuncData} {ps : List Str} {k : Nat} {Dl kS : Addr} {e1 j : Nat} {Gj Hj : Hp} {kvs : List V} {sj : Shared} {d kd : D} {u : Value} {w : V} {bs : List Sl} {A : Around}
    (F : FnOk X.prog X.w X.K X.mg X.base CX0 k fa fd ps (spF X.K call f 1)) (hb : Binds X.K fd ps []) (hr : Room k A) (L : KLoop X pins σ G H Dl kS e1 ks j Gj Hj kvs sj) (env : Env0 X.prog X.w X.K X.mg X.base A X.stack sj Hj)
    (r : RelV w u) (h : Rep X.K G w d) (hc : call f [.fr d] = some (.d kd, bs)) (hkd : ks[j]? = some kd) {Q : Value → Shared → Prop} {E : Value → Shared → Prop}
    (q : ∀ G' H' v' u' s', KLoop X pins σ G H Dl kS e1 ks j G' H' kvs s' → RelV v' u' → Rep X.K G' v' kd → Q u' s') : wpAny (model X.prog X.w) A (PySem.call (.ref fa) [u]) Q E sj := by
  have sp : spF X.K call f 1 [w] Hj (fun v' H' => ∃ G', Same Gj G' ∧ Same G' H' ∧ (∀ b o, Hj b = some o → H' b = some o ∧ (Gj b = none → G' b = none)) ∧ Rep X.K G' v' kd) E0 := by
    refine ⟨Gj, [.fr d], .d kd, bs, L.sub, ⟨rfl, fun i d' hd => ?_, fun i o hd => ?_, fun i j o o' b hd => ?_⟩, hc, rfl, fun v G' H' cp pr => ⟨G', cp.same, cp.sub, fun b o e => cp.keep b o e ?_, pr⟩⟩
    · cases i with
      | zero => cases hd; exact ⟨w, rfl, h.mono L.g⟩
      | succ i => cases hd
    · cases i with
      | zero => cases hd
      | succ i => cases hd
    · cases i with
      | zero => cases hd
      | succ i => cases hd
    · rintro ⟨i, o, z, _⟩
      cases i with
      | zero => cases z
      | succ i => cases z
  have hl : ([u] ++ ([] : List Value)).length = ps.length := F.len _ _ _ _ sp
  refine wpAny_call (codeAny_mono (F.run A X.stack sj Hj ⟨[u], []⟩ [u] [w] _ E0 hr env (hb sj [u] L.I.kIn hl) (.cons r .nil) sp) fun res s' hq => ?_)
  cases res with
  | error e => exact hq.elim
  | ok fl =>
    cases fl with
    | ret u' =>
      obtain ⟨v', H', I', rv, G', g1, g2, kp, rp⟩ := L.I.after hq
      exact q G' H' v' u' s' ⟨I', L.g.trans g1, g2, (kp _ _ L.hD).1, (kp _ _ L.hD).2 L.gD, (kp _ _ L.hk).1, (kp _ _ L.hk).2 L.gk, L.l.mono g1, fun b o e => ⟨(kp _ _ (L.keep b o e).1).1, fun z => (kp _ _ (L.keep b o e).1).2 ((L.keep b o e).2 z)⟩⟩ rv rp
    | next => exact hq.elim
    | brk => exact hq.elim
    | cont => exact hq.elim
/-- the end: the list is laid, the keys' list is let go -/
theorem key_done {Dl kS : Addr} {e1 c j : Nat} {Gj Hj : Hp} {kvs outV : List V} {out : List Value} {sj : Shared} {h' : Heap} {tk : Nat} (L : KLoop X pins σ G H Dl kS e1 ks j Gj Hj kvs sj) (hn : ∀ o' u', X.H_0 Dl ≠ some (.frz o' u')) (hs : X.s_0.heap.objs.size ≤ kS) (ne : kS ≠ Dl)
    (kp : ∀ b o, b ≠ Dl → b ≠ kS → sj.heap.get? b = some o → h'.get? b = some o) (hD : h'.get? Dl = some (seqObj "list" out.toArray c)) (ro : Vals outV out) (hl : outV.length ≤ sizeLine) :
    Inv X pins σ (upd (hole Hj kS) Dl (.lst outV)) { sj with heap := h', toks := tk } := by
  have Iu := L.I.unlock L.hD hn
  have hu1 : ∀ b, b ≠ Dl → upd Hj Dl (.lst []) b = Hj b := fun b hb => upd_ne hb
  have eqv : ∀ b o, upd Hj Dl (.lst []) b = some o → (∀ xs, o ≠ .lst xs) → b ≠ Dl ∧ b ≠ kS ∧ upd (hole Hj kS) Dl (.lst outV) b = some o := fun b o e hno => by
    have h1 : b ≠ Dl := fun z => by subst z; rw [upd_same] at e; cases e; exact hno _ rfl
    have h2 : b ≠ kS := fun z => by subst z; rw [hu1 _ h1, L.hk] at e; cases e; exact hno _ rfl
    refine ⟨h1, h2, ?_⟩
    rw [upd_ne h1, hole_ne h2, ← hu1 b h1]
    exact e
  have ex : ∃ o, sj.heap.get? kS = some o := by
    obtain ⟨_, its, n, _, e⟩ := L.I.hok _ _ L.hk
    exact ⟨_, e⟩
  refine Iu.call (h' := h') (g' := sj.gens) (d' := sj.drawn) (t' := tk) (ch := [kS]) ⟨fun b o e n _ hx => ?_, fun b o e n _ hx => ⟨o.slots, ?_⟩, fun b o e n hx => ?_, fun b o e hx => ?_, fun b xs e => (eqv b _ e fun _ z => nomatch z).2.2, fun b o x e => (eqv b _ e fun _ z => nomatch z).2.2, fun b ps e => ⟨#[], ?_⟩⟩ (fun b o e => ?_) Iu.bare fun b hb => ?_
  · have h1 : b ≠ Dl := fun z => by subst z; rw [upd_same] at n; cases n
    exact kp b o h1 (by simpa using hx) e
  · have h1 : b ≠ Dl := fun z => by subst z; rw [upd_same] at n; cases n
    exact kp b o h1 (by simpa using hx) e
  · have h1 : b ≠ Dl := fun z => by subst z; rw [upd_same] at n; cases n
    have h2 : b ≠ kS := by simpa using hx
    rw [upd_ne h1, hole_ne h2, ← hu1 b h1]
    exact n
  · by_cases h1 : b = Dl
    · subst h1; exact ⟨_, hD⟩
    · exact ⟨o, kp b o h1 (by simpa using hx) e⟩
  · rw [Array.append_empty]
    exact (eqv b _ e fun _ z => nomatch z).2.2
  · by_cases h1 : b = Dl
    · subst h1
      rw [upd_same] at e; cases e
      exact ⟨hl, out, c, ro, hD⟩
    · rw [upd_ne h1] at e
      have h2 : b ≠ kS := fun z => by subst z; rw [hole_self] at e; cases e
      rw [hole_ne h2, ← hu1 b h1] at e
      refine (Iu.hok b o e).stay (fun c' u hc eu => ?_) (fun c' ec => (eqv c' _ ec fun _ z => nomatch z).2.2) fun c' xs ec => (eqv c' _ ec fun _ z => nomatch z).2.2
      rcases hc with rfl | hc
      · exact kp _ u h1 h2 eu
      · obtain ⟨z1, z2, _⟩ := eqv c' _ hc fun _ z => nomatch z
        exact kp c' u z1 z2 eu
  · have eb : b = kS := by simpa using hb
    subst eb
    refine ⟨.inr hs, fun z => ?_, fun x c' ec z => ?_, fun p hp z => ?_⟩
    · have := L.I.free; rw [← z, L.hk] at this; cases this
    · have := L.I.freeC x c' ec; rw [z, L.hk] at this; cases this
    · have := (L.I.pin p hp).2.1; rw [z, L.hk] at this; cases this

/-- sorted(.., key=f) -/
theorem sort_key {call : Str → List Arg → Option (T × List Sl)} {f : Str} {fa : Addr} {fd : FuncData} {ps : List Str} {k : Nat} {Q : VK} (F : FnOk X.prog X.w X.K X.mg X.base CX0 k fa fd ps (spF X.K call f 1)) (hb : Binds X.K fd ps []) (hr : Room (k + 1) X.A)
    (I : Inv X pins σ H s) (sg : Same G H) (coll : Coll X s ws a) (l : RepL X.K G ws ds) (hz0 : ws.length ≤ sizeLine) (hk : keysF call f ds = some ks) (ok : sortOk ks = true)
    (q : ∀ G' H' p out, Same G G' → Same G' H' → (∀ b o, H b = some o → H' b = some o ∧ (G b = none → G' b = none)) → G' p = none → H' p = some (.lst out) → H p = none → RepL X.K G' out (((ds.zip ks).mergeSort (dataLe false fun p => p.2.pd)).map fun p => p.1) → Q (.ref p) H') :
    wpAny (model X.prog X.w) X.A (PySem.call (.builtin "sorted") [.ref a] [(Str.ofString "key", .ref fa)]) (EP X pins σ Q) X.xe s := by
  obtain ⟨c1, c2, c3, c4⟩ := sortOk_inv ok
  have kl := keysF_len hk
  refine call_function_entry_kw kind_sorted plain_sorted entry_sorted (ksk_s1 _ _) ?_
  unfold Builtin.«sorted»
  refine wpAny_bind (m := checkCount "sorted" 1 1 _) (wpAny_pure ?_)
  refine wpAny_bind (coll _ _ fun h' tk us kp r => ?_)
  have hz : us.length ≤ sizeLine := relvs_len r hz0
  have ul : us.length = ks.length := by rw [kl, ← l.length, r.length]
  refine wpAny_bind (wpAny_newList ?_ hz)
  have I1 : Inv X pins σ H { s with heap := h', toks := tk } := I.kept kp
  have hD : (h'.push (seqObj "list" us.toArray 0)).get? h'.objs.size = some (seqObj "list" us.toArray 0) := Heap.get?_push_size _ rfl
  generalize hDl : h'.objs.size = Dl at *
  refine wpAny_bind (wpAny_holding (wpAny_call_entry_kw slot_list_sort ⟨_, hD, rfl⟩ entry_list_sort ?body (ksk_l1 _ _)))
  case body =>
    rw [ksk_t1]
    unfold ksk_tree
    refine wpAny_bind (listItems_at hD rfl ?_)
    refine wpAny_bind (listUpdate_at hD rfl ?_ (by rw [List.size_toArray]; exact hz) (Nat.zero_le _))
    obtain ⟨e1, hD2⟩ : ∃ e1, ((h'.push (seqObj "list" us.toArray 0)).update Dl (Obj.mapSeq fun _ => #[])).get? Dl = some (seqObj "list" #[] e1) := ⟨_, get?_update_seq hD fun _ => #[]⟩
    refine wpAny_bind (seqEpoch_at hD2 rfl ?_)
    refine wpAny_bind (wpAny_newTuple ?_ hz)
    refine wpAny_bind (wpAny_newList ?_ (Nat.zero_le _))
    refine wpAny_holding ?_
    generalize hh2 : (h'.push (seqObj "list" us.toArray 0)).update Dl (Obj.mapSeq fun _ => #[]) = h2 at *
    have kp2 : ∀ b o, h'.get? b = some o → h2.get? b = some o := fun b o e => by
      have hb : b ≠ Dl := by rw [← hDl]; exact Nat.ne_of_lt (Heap.lt_size e)
      rw [← hh2, Heap.get?_update_ne _ _ _ _ hb]
      exact Heap.get?_push_of_some _ e
    generalize hh3 : h2.push (seqObj "tuple" us.toArray 0) = h3 at *
    have kp3 : ∀ b o, h2.get? b = some o → h3.get? b = some o := fun b o e => by rw [← hh3]; exact Heap.get?_push_of_some _ e
    have hD3 := kp3 _ _ hD2
    have I2 : Inv X pins σ (upd H Dl (.lst [])) { s with heap := h3, toks := tk } := I1.laid (t' := tk) (fun b o e => kp3 b o (kp2 b o e)) (by rw [← hDl]; exact Nat.le_refl _) ⟨Nat.zero_le _, [], e1, .nil, hD3⟩
    have hp : H Dl = none := I1.hok.fresh (by rw [← hDl]; exact Nat.le_refl _)
    generalize hkS : h3.objs.size = kS at *
    have neK : kS ≠ Dl := by rw [← hkS]; exact Nat.ne_of_gt (Heap.lt_size hD3)
    have hk4 : (h3.push (seqObj "list" #[] 0)).get? kS = some (seqObj "list" #[] 0) := by rw [← hkS]; exact Heap.get?_push_size _ rfl
    have I3 : Inv X pins σ (upd (upd H Dl (.lst [])) kS (.lst [])) { s with heap := h3.push (seqObj "list" #[] 0), toks := tk } := I2.laid (t' := tk) (fun b o e => Heap.get?_push_of_some _ e) (by rw [← hkS]; exact Nat.le_refl _) ⟨Nat.zero_le _, [], 0, .nil, hk4⟩
    have fk : H kS = none := by
      have := I2.hok.fresh (a := kS) (by rw [← hkS]; exact Nat.le_refl _)
      rw [upd_ne neK] at this
      exact this
    have d3 : upd (upd H Dl (.lst [])) kS (.lst []) Dl = some (.lst []) := by rw [upd_ne neK.symm, upd_same]
    have nf := I3.nofrz d3 True.intro
    obtain ⟨od, I4⟩ := I3.lock d3 True.intro
    have eod : od = seqObj "list" #[] e1 := by
      obtain ⟨e, _⟩ := I4.hok Dl _ upd_same
      have e' : (h3.push (seqObj "list" #[] 0)).get? Dl = some (seqObj "list" #[] e1) := Heap.get?_push_of_some _ hD3
      rw [e'] at e
      exact (Option.some.inj e).symm
    subst eod
    have hsK : X.s_0.heap.objs.size ≤ kS := by
      obtain ⟨m, ⟨o, _, _, ho, _⟩, _⟩ := I3.loc
      have h1 := I3.ok.above
      have h2' : X.env.locals ≠ kS := fun z => by
        have := I3.free; rw [z, upd_same] at this; cases this
      have h3' : X.env.locals < (h3.push (seqObj "list" #[] 0)).objs.size := Heap.lt_size ho
      rw [size_push', hkS] at h3'
      exact Nat.le_trans h1 (Nat.le_of_lt_succ h3')
    have gD : G Dl = none := sg.free hp
    have gK : G kS = none := sg.free fk
    have keep0 : ∀ b o, H b = some o → b ≠ Dl ∧ b ≠ kS := fun b o e => ⟨fun z => (by rw [z, hp] at e; cases e), fun z => (by rw [z, fk] at e; cases e)⟩
    have L0 : KLoop X pins σ G H Dl kS e1 ks 0 G (upd (upd (upd H Dl (.lst [])) kS (.lst [])) Dl (.frz (seqObj "list" #[] e1) (.lst []))) [] { s with heap := h3.push (seqObj "list" #[] 0), toks := tk } := by
      refine ⟨I4, Same.refl _, fun b o e => ?_, upd_same, gD, by rw [upd_ne neK, upd_same], gK, by rw [List.take_zero]; exact .nil, fun b o e => ⟨?_, fun z => z⟩⟩
      · obtain ⟨n1, n2⟩ := keep0 b o (sg b o e)
        rw [upd_ne n1, upd_ne n2, upd_ne n1]; exact sg b o e
      · obtain ⟨n1, n2⟩ := keep0 b o e
        rw [upd_ne n1, upd_ne n2, upd_ne n1]; exact e
    unfold ksk_rest
    refine wpAny_bind (wpAny_rule ?_)
    first
      | rw [List.forIn_toArray]
      | (rw [← Array.forIn_toList]; simp only [List.toList_toArray])
    refine wpAny_bind (ksk_fold (fun j s' => ∃ Gj Hj kvs, KLoop X pins σ G H Dl kS e1 ks j Gj Hj kvs s') us 0 _ ⟨_, _, _, L0⟩ (fun j x s' hx hL => ?_) fun s' hL => ?_)
    · simp only [Nat.zero_add] at hL ⊢
      obtain ⟨Gj, Hj, kvs, L⟩ := hL
      have hj : j < us.length := (List.getElem?_eq_some_iff.mp hx).1
      have hj2 : j < ws.length := by rw [r.length]; exact hj
      obtain ⟨d, hd, rd⟩ := l.getV (i := j) (v := ws[j]) (List.getElem?_eq_getElem hj2)
      obtain ⟨u', hu', ru⟩ := r.get (i := j) (x := ws[j]) (List.getElem?_eq_getElem hj2)
      rw [hx] at hu'; cases hu'
      obtain ⟨kd, bs, hkd, hc⟩ := keysF_get hk hd
      have hroom : Room k X.A.in1.in1 := ⟨hr.hd, by have := hr.dp; show X.A.depth + 3 * k + 5 < _; omega, by have := hr.un; show X.A.units + 1 + 1 + 16 * k + 200 < _; omega⟩
      refine wpAny_bind (wpAny_attempt (key_turn F hb hroom L L.I.env0.in1.in1 ru rd hc hkd fun G' H' v' u' s2 L2' rv rp => ?_))
      obtain ⟨hzk, its, n, rk, hkk⟩ := L2'.I.hok _ _ L2'.hk
      have lk : kvs.length = j := by rw [L2'.l.length, List.length_take]; omega
      have li : its.length = j := by rw [← rk.length, lk]
      have hsz1 : its.toArray.size ≤ sizeLine := by rw [List.size_toArray]; omega
      refine wpAny_bind (listUpdate_at hkk rfl ?_ hsz1 (by rw [Array.size_push]; omega))
      obtain ⟨c', hc'⟩ : ∃ c', (s2.heap.update kS (Obj.mapSeq (·.push u'))).get? kS = some (seqObj "list" (its.toArray.push u') c') := ⟨_, get?_update_seq hkk (·.push u')⟩
      have up : ∀ b, b ≠ kS → upd H' kS (.lst (kvs ++ [v'])) b = H' b := fun b hb => upd_ne hb
      refine wpAny_pure ⟨rfl, G', upd H' kS (.lst (kvs ++ [v'])), kvs ++ [v'], ?_⟩
      have Iw : Inv X pins σ (upd H' kS (.lst (kvs ++ [v']))) { s2 with heap := s2.heap.update kS (Obj.mapSeq (·.push u')), toks := s2.toks } :=
        L2'.I.write (e := kS) (t' := s2.toks) (by rw [L2'.hk]; trivial) (.inl rfl) (fun b o hb e => (Heap.get?_update_ne _ _ _ _ hb).trans e) ⟨_, hc'⟩
          ⟨by rw [List.length_append, List.length_singleton]; omega, its ++ [u'], c', Vals.append rk (.cons rv .nil), by rw [hc']; simp⟩
      refine ⟨Iw, L2'.g, fun b o e => ?_, by rw [up _ neK.symm]; exact L2'.hD, L2'.gD, upd_same, L2'.gk, ?_, fun b o e => ⟨?_, (L2'.keep b o e).2⟩⟩
      · have hb : b ≠ kS := fun z => by subst z; rw [L2'.gk] at e; cases e
        rw [up b hb]; exact L2'.sub b o e
      · have et : ks.take (j + 1) = ks.take j ++ [kd] := by rw [List.take_add_one, hkd]; rfl
        rw [et]
        exact L2'.l.append (.cons rp .nil)
      · rw [up b (keep0 b o e).2]; exact (L2'.keep b o e).1
    · simp only [Nat.zero_add] at hL
      obtain ⟨Gj, Hj, kvs, L⟩ := hL
      have et : ks.take us.length = ks := List.take_of_length_le (by omega)
      have Ll := L.l
      rw [et] at Ll
      obtain ⟨hzk, its, n, rk, hkk⟩ := L.I.hok _ _ L.hk
      obtain ⟨hDD, _⟩ := L.I.hok _ _ L.hD
      try dsimp only
      refine wpAny_bind (listItems_at hkk rfl ?_)
      have er := each_reads L.I L.sub (h' := s'.heap) (fun b o e => e) (fun d hd => (c1 d hd).1) Ll rk
      have li : its.length = us.length := by rw [← rk.length, Ll.length]; omega
      refine PySem.W.keyH_end (κ := dataKind s'.heap (ks.map D.pd)) (h₁ := PySem.W.hideAll s'.heap [kS]) (fun b o hb e => PySem.W.of_hideAll _ e) (PySem.W.hideAll_none _ (by simp)) hkk hDD neK
        (SortsAt.data (s := s') (by simpa using er) c2 c3 fun d hd => ?_) (by rw [List.size_toArray]; exact li) hz fun h5 tk5 c5 kp5 hD5 => ⟨.none, rfl, wpAny_pure ⟨_, rfl, ?_⟩⟩
      · obtain ⟨e, he, rfl⟩ := List.mem_map.mp hd
        have h1 := (c1 e he).2
        have h2 := hr.un
        show X.A.units + 1 + 1 + _ < _
        omega
      · have hR : EachIs (fun u (p : D × D) => ItR X.K Gj u p.1) us (ds.zip ks) := each_fst kl (each_of (l.mono L.g) r)
        have hout := PySem.W.keyedOut_each (rev := false) (β := D × D) (fun p => p.2.pd) (vs := us) (out := PySem.W.sortVals (dataKind s'.heap (ks.map D.pd)) false its.toArray.toList us) ⟨s'.heap, its, by rw [zip_snd kl]; exact c2, by rw [zip_snd kl], by rw [zip_snd kl]; exact er⟩ hR
        obtain ⟨outV, lo, ro⟩ := each_back (each_unfst hout)
        have hlen : outV.length ≤ sizeLine := by
          rw [lo.length, List.length_map, List.length_mergeSort, List.length_zip, kl, Nat.min_self, ← l.length]
          exact hz0
        have IF := key_done (tk := tk5) L nf hsK neK (fun b o n1 n2 e => kp5 b o n1 (PySem.W.hideAll_get _ e (by simpa using n2))) hD5 ro hlen
        refine ⟨.ref Dl, _, IF, rfl, q Gj _ Dl outV L.g (fun b o e => ?_) (fun b o e => ⟨?_, (L.keep b o e).2⟩) L.gD upd_same hp lo⟩
        · have n1 : b ≠ Dl := fun z => by subst z; rw [L.gD] at e; cases e
          have n2 : b ≠ kS := fun z => by subst z; rw [L.gk] at e; cases e
          rw [upd_ne n1, hole_ne n2]; exact L.sub b o e
        · obtain ⟨n1, n2⟩ := keep0 b o e
          rw [upd_ne n1, hole_ne n2]; exact (L.keep b o e).1
end
end Fw

set_option maxHeartbeats 4000000
/-! Fw6: built-ins by trees; an expression's soundness, step by step. -/
namespace Fw
open PySem PySem.Spec PyProof.Rows L2

section
variable {X : Cx}
theorem cr_len : CallR X (.builtin "len") (rDn X.K (bltF .len)) := by
  intro pins s σ H xs us Q I r ⟨G, ds, t, sg, hx, hf, q⟩
  unfold bltF at hf
  split at hf <;> first | (cases hf; done) | (rename_i e; cases e; done) | skip
  · cases hf; obtain ⟨v, rfl, h⟩ := hx.one
    cases r with
    | cons r1 rs =>
      cases rs
      exact dq_len I sg h r1 fun t s' I' => ⟨.int _, H, I', ⟨t, rfl⟩, fin_d sg q (.int _)⟩
  · cases hf; obtain ⟨v, rfl, h⟩ := hx.one; obtain ⟨a, vs, rfl, q1, _, l⟩ := VRep.tupI sg h
    exact call_len_seq pins s σ H _ us Q I r ⟨a, vs, rfl, .inr q1, by rw [l.length]; exact fin_d sg q (.int _)⟩
  · cases hf; obtain ⟨v, rfl, h⟩ := hx.one; obtain ⟨a, vs, rfl, q1, l⟩ := h
    exact call_len_seq pins s σ H _ us Q I r ⟨a, vs, rfl, .inl (.inl (.inl q1)), by rw [l.length]; exact fin_d sg q (.int _)⟩
  · cases hf; obtain ⟨v, rfl, h⟩ := hx.one
    cases (show Rep X.K G v (.rd _) from h) with
    | rd q1 l => exact call_len_seq pins s σ H _ us Q I r ⟨_, _, rfl, .inl (sqL_mono sg q1), by rw [l.length]; exact fin_d sg q (.int _)⟩
  · split at hf
    · rename_i hz; cases hf; obtain ⟨v, rfl, h⟩ := hx.one; cases VRep.str h
      exact call_len_str pins s σ H _ us Q I r ⟨_, rfl, hz, fin_d sg q (.int _)⟩
    · cases hf
theorem bools_rep {K : PySem.W.Frag} {G : Hp} : ∀ {vs : List V} {ds : List D} {bs : List Bool}, RepL K G vs ds → D.bools ds = some bs → vs = bs.map V.bl
  | _, _, _, .nil, e => by cases e; rfl
  | _, _, _, .cons h l, e => by
    cases h with
    | bl b =>
      obtain ⟨r, e1, rfl⟩ := Option.map_eq_some_iff.mp (show (D.bools _).map (b :: ·) = some _ from e)
      rw [bools_rep l e1]; rfl
    | _ => cases e
theorem ints_rep {K : PySem.W.Frag} {G : Hp} : ∀ {vs : List V} {ds : List D} {bs : List Int}, RepL K G vs ds → D.ints ds = some bs → vs = bs.map V.int
  | _, _, _, .nil, e => by cases e; rfl
  | _, _, _, .cons h l, e => by
    cases h with
    | int b =>
      obtain ⟨r, e1, rfl⟩ := Option.map_eq_some_iff.mp (show (D.ints _).map (b :: ·) = some _ from e)
      rw [ints_rep l e1]; rfl
    | _ => cases e
theorem cr_anyD (hc : X.calm = true) : CallR X (.builtin "any") (rDn X.K (bltF .any)) := by
  intro pins s σ H xs us Q I r ⟨G, ds, t, sg, hx, hf, q⟩
  unfold bltF at hf
  split at hf <;> first | (cases hf; done) | (rename_i e; cases e; done) | skip
  obtain ⟨bs, e1, e2⟩ := Option.map_eq_some_iff.mp hf
  cases e2
  obtain ⟨v, rfl, h⟩ := hx.one; obtain ⟨a, vs, rfl, q1, l⟩ := h
  have := bools_rep l e1
  subst this
  exact cr_any hc pins s σ H _ us Q I r ⟨a, bs, rfl, .inl (.inl q1), fin_d sg q (.bl _)⟩
theorem cr_allD (hc : X.calm = true) : CallR X (.builtin "all") (rDn X.K (bltF .all)) := by
  intro pins s σ H xs us Q I r ⟨G, ds, t, sg, hx, hf, q⟩
  unfold bltF at hf
  split at hf <;> first | (cases hf; done) | (rename_i e; cases e; done) | skip
  obtain ⟨bs, e1, e2⟩ := Option.map_eq_some_iff.mp hf
  cases e2
  obtain ⟨v, rfl, h⟩ := hx.one; obtain ⟨a, vs, rfl, q1, l⟩ := h
  have := bools_rep l e1
  subst this
  exact cr_all hc pins s σ H _ us Q I r ⟨a, bs, rfl, .inl (.inl q1), fin_d sg q (.bl _)⟩
theorem cr_sumD (hc : X.calm = true) : CallR X (.builtin "sum") (rDn X.K (bltF .sum)) := by
  intro pins s σ H xs us Q I r ⟨G, ds, t, sg, hx, hf, q⟩
  unfold bltF at hf
  split at hf <;> first | (cases hf; done) | (rename_i e; cases e; done) | skip
  obtain ⟨bs, e1, e2⟩ := Option.map_eq_some_iff.mp hf
  cases e2
  obtain ⟨v, rfl, h⟩ := hx.one; obtain ⟨a, vs, rfl, q1, l⟩ := h
  have := ints_rep l e1
  subst this
  exact cr_sum hc pins s σ H _ us Q I r ⟨a, bs, rfl, .inl (.inl q1), fin_d sg q (.int _)⟩
theorem cr_sortedD (hu : X.A.units + 80 < cLine) (hh : X.A.handled = none) : CallR X (.builtin "sorted") (rDn X.K (bltF .sorted)) := by
  intro pins s σ H xs us Q I r ⟨G, ds, t, sg, hx, hf, q⟩
  unfold bltF at hf
  split at hf <;> first | (cases hf; done) | (rename_i e; cases e; done) | skip
  · unfold srtF at hf
    split at hf
    · rename_i hok
      cases hf
      obtain ⟨v, rfl, h⟩ := hx.one; obtain ⟨a, vs, rfl, q1, l⟩ := h
      rw [Vals.ref1 r]
      exact sort_plain I hu sg (coll_list I (.inl (.inl q1))) l hok fun p out hp lo => fin_lst sg q lo p hp
    · cases hf
  · unfold srtF at hf
    split at hf
    · rename_i hok
      cases hf
      obtain ⟨v, rfl, h⟩ := hx.one
      obtain ⟨a, ws, rfl, l, hz, coll⟩ := coll_dict I hh sg h
      rw [Vals.ref1 r]
      exact sort_plain I hu sg coll l hok fun p out hp lo => fin_lst sg q lo p hp
    · cases hf
theorem max_fold : ∀ (r : List Int) (n : Int), r.foldl max n ∈ n :: r ∧ ∀ y ∈ n :: r, y ≤ r.foldl max n
  | [], n => ⟨by simp, by simp⟩
  | a :: r, n => by
    obtain ⟨h1, h2⟩ := max_fold r (max n a)
    show r.foldl max (max n a) ∈ _ ∧ ∀ y ∈ _, y ≤ r.foldl max (max n a)
    refine ⟨?_, fun y hy => ?_⟩
    · rcases List.mem_cons.mp h1 with h | h
      · rw [h]
        rcases Int.le_total n a with g | g
        · rw [Int.max_eq_right g]; simp
        · rw [Int.max_eq_left g]; simp
      · exact List.mem_cons_of_mem _ (List.mem_cons_of_mem _ h)
    · have h3 := h2 (max n a) List.mem_cons_self
      rcases List.mem_cons.mp hy with rfl | hy
      · omega
      · rcases List.mem_cons.mp hy with rfl | hy
        · omega
        · exact h2 y (List.mem_cons_of_mem _ hy)
theorem min_fold : ∀ (r : List Int) (n : Int), r.foldl min n ∈ n :: r ∧ ∀ y ∈ n :: r, r.foldl min n ≤ y
  | [], n => ⟨by simp, by simp⟩
  | a :: r, n => by
    obtain ⟨h1, h2⟩ := min_fold r (min n a)
    show r.foldl min (min n a) ∈ _ ∧ ∀ y ∈ _, r.foldl min (min n a) ≤ y
    refine ⟨?_, fun y hy => ?_⟩
    · rcases List.mem_cons.mp h1 with h | h
      · rw [h]
        rcases Int.le_total n a with g | g
        · rw [Int.min_eq_left g]; simp
        · rw [Int.min_eq_right g]; simp
      · exact List.mem_cons_of_mem _ (List.mem_cons_of_mem _ h)
    · have h3 := h2 (min n a) List.mem_cons_self
      rcases List.mem_cons.mp hy with rfl | hy
      · omega
      · rcases List.mem_cons.mp hy with rfl | hy
        · omega
        · exact h2 y (List.mem_cons_of_mem _ hy)
theorem max_pos {ns : List Int} {m : Int} (h : mxI ns = some m) : 0 < ns.length := by
  cases ns with
  | nil => cases h
  | cons => simp
theorem min_pos {ns : List Int} {m : Int} (h : mnI ns = some m) : 0 < ns.length := by
  cases ns with
  | nil => cases h
  | cons => simp
theorem max_uniq {ns : List Int} {m k : Int} (h : mxI ns = some m) (h1 : k ∈ ns) (h2 : ∀ y, y ∈ ns → y ≤ k) : k = m := by
  cases ns with
  | nil => cases h
  | cons n r =>
    cases h
    obtain ⟨a, b⟩ := max_fold r n
    exact Int.le_antisymm (b k h1) (h2 _ a)
theorem min_uniq {ns : List Int} {m k : Int} (h : mnI ns = some m) (h1 : k ∈ ns) (h2 : ∀ y, y ∈ ns → k ≤ y) : k = m := by
  cases ns with
  | nil => cases h
  | cons n r =>
    cases h
    obtain ⟨a, b⟩ := min_fold r n
    exact Int.le_antisymm (h2 _ a) (b k h1)
theorem cr_abs : CallR X (.builtin "abs") (rDn X.K (bltF .abs)) := by
  intro pins s σ H xs us Q I r ⟨G, ds, t, sg, hx, hf, q⟩
  unfold bltF at hf
  split at hf <;> first | (cases hf; done) | (rename_i e; cases e; done) | skip
  cases hf; obtain ⟨v, rfl, h⟩ := hx.one; cases VRep.int h
  exact call_abs pins s σ H _ us Q I r ⟨_, rfl, fin_d sg q (.int _)⟩
theorem cr_min (hc : X.calm = true) : CallR X (.builtin "min") (rDn X.K (bltF .min)) := by
  intro pins s σ H xs us Q I r ⟨G, ds, t, sg, hx, hf, q⟩
  unfold bltF at hf
  split at hf <;> first | (cases hf; done) | (rename_i e; cases e; done) | skip
  · cases hf; obtain ⟨v, w, rfl, h1, h2⟩ := hx.two; cases VRep.int h1; cases VRep.int h2
    exact call_min2 hc pins s σ H _ us Q I r ⟨_, _, rfl, fin_d sg q (.int _)⟩
  · obtain ⟨ns, e1, e2⟩ := Option.bind_eq_some_iff.mp hf
    obtain ⟨m, e3, e4⟩ := Option.map_eq_some_iff.mp e2
    cases e4
    obtain ⟨v, rfl, h⟩ := hx.one; obtain ⟨a, vs, rfl, q1, l⟩ := h
    have := ints_rep l e1
    subst this
    refine L2.cr_min hc pins s σ H _ us Q I r ⟨a, ns, rfl, .inl (.inl q1), min_pos e3, fun k h1 h2 => ?_⟩
    rw [min_uniq e3 h1 h2]
    exact fin_d sg q (.int _)
theorem cr_max (hc : X.calm = true) : CallR X (.builtin "max") (rDn X.K (bltF .max)) := by
  intro pins s σ H xs us Q I r ⟨G, ds, t, sg, hx, hf, q⟩
  unfold bltF at hf
  split at hf <;> first | (cases hf; done) | (rename_i e; cases e; done) | skip
  · cases hf; obtain ⟨v, w, rfl, h1, h2⟩ := hx.two; cases VRep.int h1; cases VRep.int h2
    exact call_max2 hc pins s σ H _ us Q I r ⟨_, _, rfl, fin_d sg q (.int _)⟩
  · obtain ⟨ns, e1, e2⟩ := Option.bind_eq_some_iff.mp hf
    obtain ⟨m, e3, e4⟩ := Option.map_eq_some_iff.mp e2
    cases e4
    obtain ⟨v, rfl, h⟩ := hx.one; obtain ⟨a, vs, rfl, q1, l⟩ := h
    have := ints_rep l e1
    subst this
    refine L2.cr_max hc pins s σ H _ us Q I r ⟨a, ns, rfl, .inl (.inl q1), max_pos e3, fun k h1 h2 => ?_⟩
    rw [max_uniq e3 h1 h2]
    exact fin_d sg q (.int _)
theorem cr_int : CallR X (.type "int") (rDn X.K (bltF .int)) := by
  intro pins s σ H xs us Q I r ⟨G, ds, t, sg, hx, hf, q⟩
  unfold bltF at hf
  split at hf <;> first | (cases hf; done) | (rename_i e; cases e; done) | skip
  · cases hf; obtain ⟨v, rfl, h1⟩ := hx.one; cases VRep.int h1
    exact call_int1 pins s σ H _ us Q I r (.inl ⟨_, rfl, fin_d sg q (.int _)⟩)
  · cases hf; obtain ⟨v, rfl, h1⟩ := hx.one; cases VRep.bl h1
    exact call_int1 pins s σ H _ us Q I r (.inr ⟨_, rfl, fin_d sg q (.int _)⟩)
  · split at hf
    · rename_i hz
      obtain ⟨n, e1, e2⟩ := Option.map_eq_some_iff.mp hf
      cases e2
      obtain ⟨v, rfl, h1⟩ := hx.one; cases VRep.str h1
      exact call_int_str pins s σ H _ us Q I r ⟨_, n, rfl, e1, hz, fin_d sg q (.int _)⟩
    · cases hf
theorem cr_str : CallR X (.type "str") (rDn X.K (bltF .str)) := by
  intro pins s σ H xs us Q I r ⟨G, ds, t, sg, hx, hf, q⟩
  unfold bltF at hf
  split at hf <;> first | (cases hf; done) | (rename_i e; cases e; done) | skip
  split at hf
  · rename_i hz; cases hf; obtain ⟨v, rfl, h1⟩ := hx.one; cases VRep.int h1
    exact call_str_int pins s σ H _ us Q I r ⟨_, rfl, hz, fin_d sg q (.str _)⟩
  · cases hf
theorem cr_tuple : CallR X (.type "tuple") (rDn X.K (bltF .tuple)) := by
  intro pins s σ H xs us Q I r ⟨G, ds, t, sg, hx, hf, q⟩
  unfold bltF at hf
  split at hf <;> first | (cases hf; done) | (rename_i e; cases e; done) | skip
  · cases hf; obtain ⟨v, rfl, h⟩ := hx.one; obtain ⟨a, vs, rfl, q1, q1', l⟩ := VRep.tupI sg h
    exact call_tuple_of pins s σ H _ us Q I r ⟨a, vs, rfl, .inr ⟨q1, fin_d sg q (.tup q1' l)⟩⟩
  · cases hf; obtain ⟨v, rfl, h⟩ := hx.one; obtain ⟨a, vs, rfl, q1, l⟩ := h
    exact call_tuple_of pins s σ H _ us Q I r ⟨a, vs, rfl, .inl ⟨.inl (.inl q1), fun p hp => fin_tup sg q l p hp⟩⟩
theorem cr_list (hc : X.calm = true) : CallR X (.type "list") (rDn X.K (bltF .list)) := by
  intro pins s σ H xs us Q I r ⟨G, ds, t, sg, hx, hf, q⟩
  unfold bltF at hf
  split at hf <;> first | (cases hf; done) | (rename_i e; cases e; done) | skip
  · split at hf
    · rename_i hall
      cases hf; obtain ⟨v, rfl, h⟩ := hx.one
      obtain ⟨a, u, rfl, rd, du⟩ := h
      rcases du with ⟨kvs, rfl, rfl, l⟩ | ⟨xs, rfl, l1, ⟨m, ne⟩, l2⟩
      · exact call_listD hc pins s σ H _ us Q I r ⟨a, kvs, rfl, rd, fun p hp => fin_lst sg q (repKeys kvs) p hp⟩
      · exfalso
        cases xs with
        | nil => exact ne rfl
        | cons x xs =>
          cases l1 with
          | @cons _ _ d ds h l1 =>
            simp only [List.all_cons, Bool.and_eq_true] at hall
            have hn : d.key1 = none := by cases h <;> rfl
            rw [hn] at hall
            exact absurd hall.1 (by simp)
    · cases hf
  · cases hf; obtain ⟨v, rfl, h⟩ := hx.one; obtain ⟨a, vs, rfl, q1, _, l⟩ := VRep.tupI sg h
    exact call_list_of pins s σ H _ us Q I r ⟨a, vs, rfl, .inr q1, fun p hp => fin_lst sg q l p hp⟩
  · cases hf; obtain ⟨v, rfl, h⟩ := hx.one; obtain ⟨a, vs, rfl, q1, l⟩ := h
    exact call_list_of pins s σ H _ us Q I r ⟨a, vs, rfl, .inl (.inl (.inl q1)), fun p hp => fin_lst sg q l p hp⟩
/-- a built-in by its name -/
theorem pe_blt {n : Nat} {C : Cfg} {B : Fb} {S : Sx} (c : CxOk n C B S X) (f : Bl) {x : Str} {e : Expr} {es : List Expr} {p pos : Pos} {t : TA} (hx : f.nm = x) (hg : isGl S.sc x = true) (ha : PA X (e :: es) t)
    (hp : plainE e = true) (hany : (backTo pos (starEach es X.env)).any (·.1) = false) : PE X (.Call (.Name x p) (e :: es) [] pos) (tCB (rDn X.K (bltF f)) t) := by
  subst hx
  have g := c.gl_of hg
  have m : X.mg f.nm = none := c.bl _ (by cases f <;> decide)
  cases f with
  | len => exact pe_callB cr_len g m (by decide +kernel) ha (by decide) (by decide) (star_ok hp) hany
  | abs => exact pe_callB cr_abs g m (by decide +kernel) ha (by decide) (by decide) (star_ok hp) hany
  | min => exact pe_callB (cr_min c.calm) g m (by decide +kernel) ha (by decide) (by decide) (star_ok hp) hany
  | max => exact pe_callB (cr_max c.calm) g m (by decide +kernel) ha (by decide) (by decide) (star_ok hp) hany
  | int => exact pe_callTy cr_int g m (by decide +kernel) ha (by decide) (by decide) (star_ok hp) hany
  | str => exact pe_callTy cr_str g m (by decide +kernel) ha (by decide) (by decide) (star_ok hp) hany
  | tuple => exact pe_callTy cr_tuple g m (by decide +kernel) ha (by decide) (by decide) (star_ok hp) hany
  | list => exact pe_callTy (cr_list c.calm) g m (by decide +kernel) ha (by decide) (by decide) (star_ok hp) hany
  | any => exact pe_callB (cr_anyD c.calm) g m (by decide +kernel) ha (by decide) (by decide) (star_ok hp) hany
  | all => exact pe_callB (cr_allD c.calm) g m (by decide +kernel) ha (by decide) (by decide) (star_ok hp) hany
  | sum => exact pe_callB (cr_sumD c.calm) g m (by decide +kernel) ha (by decide) (by decide) (star_ok hp) hany
  | sorted => exact pe_callB (cr_sortedD (by have := c.room.un; omega) c.room.hd) g m (by decide +kernel) ha (by decide) (by decide) (star_ok hp) hany
/-- isinstance, one class -/
def Ty.s : Ty → String
  | .str => "str" | .int => "int" | .bool => "bool" | .tuple => "tuple" | .list => "list"
theorem kit_non (t : Ty) : kitB "NoneType" t.s = some false := by cases t <;> decide +kernel
theorem kit_bl (t : Ty) : kitB "bool" t.s = some (decide (t = .bool) || decide (t = .int)) := by cases t <;> decide +kernel
theorem kit_int (t : Ty) : kitB "int" t.s = some (decide (t = .int)) := by cases t <;> decide +kernel
theorem kit_str (t : Ty) : kitB "str" t.s = some (decide (t = .str)) := by cases t <;> decide +kernel
theorem kit_tup (t : Ty) : kitB "tuple" t.s = some (decide (t = .tuple)) := by cases t <;> decide +kernel
theorem kit_lst (t : Ty) : kitB "list" t.s = some (decide (t = .list)) := by cases t <;> decide +kernel
def rIsD (K : PySem.W.Frag) (t : Ty) : List V → Hp → VK → Prop := fun xs H Q => ∃ G x d b, xs = [x, V.ty t.s] ∧ Same G H ∧ VRep K G H x d ∧ d.isTy t = some b ∧ Q (.bl b) H
theorem cr_isi (t : Ty) : CallR X (.builtin "isinstance") (rIsD X.K t) := by
  intro pins s σ H xs us Q I r ⟨G, x, d, b, e, sg, h, hb, q⟩
  subst e
  refine call_isi pins s σ H _ us Q I r ⟨x, _, .type d.tyN, _, b, rfl, .ty _, VRep.tyX sg h (fun ys e => by subst e; cases hb) (fun ks vs e => by subst e; cases hb) (fun e => by subst e; cases hb), ?_, q⟩
  cases d with
  | rd _ => cases hb
  | dic _ _ => cases hb
  | obj => cases hb
  | non => cases hb; exact kit_ty (kit_non t)
  | bl _ => cases hb; exact kit_ty (kit_bl t)
  | int _ => cases hb; exact kit_ty (kit_int t)
  | str _ => cases hb; exact kit_ty (kit_str t)
  | tup _ => cases hb; exact kit_ty (kit_tup t)
  | lst _ => cases hb; exact kit_ty (kit_lst t)
end
end Fw

set_option maxHeartbeats 4000000
/-! Fw7: a construct's reading from its parts' (expressions). -/
namespace Fw
open PySem PySem.Spec PyProof.Rows L2

section
variable {K : PySem.W.Frag} {B : Fb} {H0 G H G' H' G1 H1 G2 H2 Gs Hs : Hp} {σ : St} {ρ ρ' ρs ρ1 ρ2 : List Sl}
theorem two_ok {F : D → D → Option T} {f g : List Sl → Rs T} {Q : VK} (h : tM K B H0 (fun ρ => (f ρ).bind fun r => (g r.2).bind fun s => vw2 F s.2 r.1 s.1) σ H Q) :
    tM K B H0 f σ H fun x H1 => tM K B H0 g σ H1 fun y H2 => rD2 K F x y H2 Q := by
  obtain ⟨G, ρ, t, ρ', s, e, q⟩ := h
  obtain ⟨⟨t1, ρ1⟩, e1, e⟩ := Option.bind_eq_some_iff.mp e
  obtain ⟨⟨t2, ρ2⟩, e2, e⟩ := Option.bind_eq_some_iff.mp e
  obtain ⟨x, y, v1, v2, hf, rfl⟩ := vw2_inv e
  refine ⟨G, ρ, t1, ρ1, s, e1, fun a G1 H1 E1 T1 => ⟨G1, ρ1, t2, _, E1.s1, e2, fun b G2 H2 E2 T2 => ?_⟩⟩
  have E := E1.trans E2
  exact ⟨G2, x, y, t, E.s1.sub, view_ok E.s1 (T1.move E1 E2) v1, view_ok E.s1 T2 v2, hf, fun v G3 H3 g p => q v G3 H3 (E.gro g) (p.t E)⟩
theorem one_ok {F : D → Option T} {f : List Sl → Rs T} {Q : VK} (h : tM K B H0 (fun ρ => (f ρ).bind fun r => vw1 F r.2 r.1) σ H Q) : tM K B H0 f σ H fun x H1 => rD1 K F x H1 Q := by
  obtain ⟨G, ρ, t, ρ', s, e, q⟩ := h
  obtain ⟨⟨t1, ρ1⟩, e1, e⟩ := Option.bind_eq_some_iff.mp e
  obtain ⟨x, v1, hf, rfl⟩ := vw1_inv e
  exact ⟨G, ρ, t1, _, s, e1, fun a G1 H1 E1 T1 => ⟨G1, x, t, E1.s1.sub, view_ok E1.s1 T1 v1, hf, fun v G3 H3 g p => q v G3 H3 (E1.gro g) (p.t E1)⟩⟩
theorem many_ok {F : List D → Option T} {f : List Sl → Rs (List T)} {Q : VK} (h : tM K B H0 (fun ρ => (f ρ).bind fun r => vws F r.2 r.1) σ H Q) : tMA K B H0 f σ H fun xs H1 => rDn K F xs H1 Q := by
  obtain ⟨G, ρ, t, ρ', s, e, q⟩ := h
  obtain ⟨⟨t1, ρ1⟩, e1, e⟩ := Option.bind_eq_some_iff.mp e
  obtain ⟨x, v1, hf, rfl⟩ := vws_inv e
  exact ⟨G, ρ, t1, _, s, e1, fun a G1 H1 E1 T1 => ⟨G1, x, t, E1.s1.sub, views_ok E1.s1 T1 v1, hf, fun v G3 H3 g p => q v G3 H3 (E1.gro g) (p.t E1)⟩⟩
theorem c_ok {d : D} {v : V} {Q : VK} (h : tM K B H0 (fun ρ => some (.d d, ρ)) σ H Q) (r : ∀ G, Rep K G v d) : Q v H := by
  obtain ⟨G, ρ, t, ρ', s, e, q⟩ := h
  cases e
  exact q v G H (EI.refl s) (r G)
theorem bind_okT {f : List Sl → Rs T} {g : Bool → List Sl → Rs T} {Q : VK} (h : tM K B H0 (fun ρ => (asB (f ρ)).bind fun r => g r.1 r.2) σ H Q) :
    tMB K B H0 (fun ρ => asB (f ρ)) σ H fun b H1 => tM K B H0 (g b) σ H1 Q := by
  obtain ⟨G, ρ, t, ρ', s, e, q⟩ := h
  obtain ⟨⟨b, ρ1⟩, e1, e⟩ := Option.bind_eq_some_iff.mp e
  exact ⟨G, ρ, b, ρ1, s, e1, fun G1 H1 E1 => ⟨G1, ρ1, t, ρ', E1.s1, e, fun v G2 H2 E2 T2 => q v G2 H2 (E1.trans E2) (T2.back E1)⟩⟩
theorem bind_okB {f : List Sl → Rs T} {g : Bool → List Sl → Rs T} {Q : Bool → Hp → Prop} (h : tMB K B H0 (fun ρ => asB ((asB (f ρ)).bind fun r => g r.1 r.2)) σ H Q) :
    tMB K B H0 (fun ρ => asB (f ρ)) σ H fun b H1 => tMB K B H0 (fun ρ => asB (g b ρ)) σ H1 Q := by
  obtain ⟨G, ρ, t, ρ', s, e, q⟩ := h
  have e' := asB_inv e
  obtain ⟨⟨b, ρ1⟩, e1, e2⟩ := Option.bind_eq_some_iff.mp e'
  exact ⟨G, ρ, b, ρ1, s, e1, fun G1 H1 E1 => ⟨G1, ρ1, t, ρ', E1.s1, by dsimp only at e2 ⊢; rw [e2]; rfl, fun G2 H2 E2 => q G2 H2 (E1.trans E2)⟩⟩
theorem if_t {b : Bool} {f g : List Sl → Rs T} {Q : VK} (h : tM K B H0 (fun ρ => if b = true then f ρ else g ρ) σ H Q) : if b = true then tM K B H0 f σ H Q else tM K B H0 g σ H Q := by
  cases b <;> exact h
theorem if_b {b : Bool} {f g : List Sl → Rs T} {Q : Bool → Hp → Prop} (h : tMB K B H0 (fun ρ => asB (if b = true then f ρ else g ρ)) σ H Q) : if b = true then tMB K B H0 (fun ρ => asB (f ρ)) σ H Q else tMB K B H0 (fun ρ => asB (g ρ)) σ H Q := by
  cases b <;> exact h
theorem cB_ok {b : Bool} {Q : Bool → Hp → Prop} (h : tMB K B H0 (fun ρ => asB (some (.d (.bl b), ρ))) σ H Q) : Q b H := by
  obtain ⟨G, ρ, t, ρ', s, e, q⟩ := h
  cases e
  exact q G H (EI.refl s)

/-! ### parts of a slice -/
theorem asP_none {f : List Sl → Rs T} {Q : Option Int → Hp → Prop} (h : tMP K B H0 (fun ρ => asP true (f ρ) ρ) σ H Q) : tNoPart σ H Q := by
  obtain ⟨G, ρ, t, ρ', s, e, q⟩ := h
  cases e
  exact q G H (EI.refl s)
theorem asP_some {f : List Sl → Rs T} {Q : Option Int → Hp → Prop} (h : tMP K B H0 (fun ρ => asP false (f ρ) ρ) σ H Q) : tPart (tM K B H0 f) σ H Q := by
  obtain ⟨G, ρ, t, ρ', s, e, q⟩ := h
  obtain ⟨⟨t1, ρ1⟩, e1, e2⟩ := Option.bind_eq_some_iff.mp e
  refine ⟨G, ρ, t1, ρ1, s, e1, fun v G1 H1 E T => ?_⟩
  dsimp only at e2
  split at e2
  · rename_i i
    cases e2
    cases (show Rep K G1 v (.int i) from T)
    exact ⟨i, rfl, q G1 H1 E⟩
  · cases e2
theorem slc_ok {f g h' : List Sl → Rs T} {b c : Bool} {Q : VK} (h : tM K B H0 (fun ρ => (f ρ).bind fun r => (asP b (g r.2) r.2).bind fun l => (asP c (h' l.2) l.2).bind fun u => vw1 (fun x => slF x l.1 u.1) u.2 r.1) σ H Q) :
    tM K B H0 f σ H fun x H1 => tMP K B H0 (fun ρ => asP b (g ρ) ρ) σ H1 fun l H2 => tMP K B H0 (fun ρ => asP c (h' ρ) ρ) σ H2 fun u H3 => rDsl K x l u H3 Q := by
  obtain ⟨G, ρ, t, ρ', s, e, q⟩ := h
  obtain ⟨⟨t1, ρ1⟩, e1, e⟩ := Option.bind_eq_some_iff.mp e
  obtain ⟨⟨l, ρ2⟩, e2, e⟩ := Option.bind_eq_some_iff.mp e
  obtain ⟨⟨u, ρ3⟩, e3, e⟩ := Option.bind_eq_some_iff.mp e
  obtain ⟨x, v1, hf, rfl⟩ := vw1_inv e
  refine ⟨G, ρ, t1, ρ1, s, e1, fun a G1 H1 E1 T1 => ⟨G1, ρ1, l, ρ2, E1.s1, e2, fun G2 H2 E2 => ⟨G2, ρ2, u, _, E2.s1, e3, fun G3 H3 E3 => ?_⟩⟩⟩
  have E := E1.trans (E2.trans E3)
  exact ⟨G3, x, t, E.s1.sub, view_ok E.s1 (T1.move E1 (E2.trans E3)) v1, hf, fun v G4 H4 g p => q v G4 H4 (E.gro g) (p.t E)⟩
/-- a op b op' c -/
theorem chn_ok {F F' : D → D → Option Bool} {f g h' : List Sl → Rs T} {Q : VK}
    (h : tM K B H0 (fun ρ => (f ρ).bind fun r => (g r.2).bind fun s => (asB (vw2 (fun x y => dB (F x y)) s.2 r.1 s.1)).bind fun q => if q.1 then (h' q.2).bind fun w => vw2 (fun x y => dB (F' x y)) w.2 s.1 w.1 else some (.d (.bl false), q.2)) σ H Q) :
    tChain (rD2 K fun x y => dB (F x y)) (rD2 K fun x y => dB (F' x y)) (tM K B H0 f) (tM K B H0 g) (tM K B H0 h') σ H Q := by
  obtain ⟨G, ρ, t, ρ', s, e, q⟩ := h
  obtain ⟨⟨t1, ρ1⟩, e1, e⟩ := Option.bind_eq_some_iff.mp e
  obtain ⟨⟨t2, ρ2⟩, e2, e⟩ := Option.bind_eq_some_iff.mp e
  obtain ⟨⟨b, ρ3⟩, e3, e⟩ := Option.bind_eq_some_iff.mp e
  obtain ⟨x, y, v1, v2, hf, rfl⟩ := vw2_inv (asB_inv e3)
  refine ⟨G, ρ, t1, ρ1, s, e1, fun a G1 H1 E1 T1 => ⟨G1, ρ1, t2, _, E1.s1, e2, fun b' G2 H2 E2 T2 => ?_⟩⟩
  have E := E1.trans E2
  refine ⟨G2, x, y, _, E.s1.sub, view_ok E.s1 (T1.move E1 E2) v1, view_ok E.s1 T2 v2, hf, fun v G3 H3 g p => ?_⟩
  cases (show Rep K G3 v (.bl b) from p)
  refine ⟨b, rfl, ?_⟩
  have E3 := E.gro g
  have g3 : EI K B H0 σ G2 H2 ρ3 G3 H3 ρ3 := (EI.refl E.s1).gro g
  dsimp only at e
  cases b with
  | false => rw [if_neg Bool.false_ne_true] at e ⊢; cases e; exact q _ G3 H3 E3 (.bl false)
  | true =>
    rw [if_pos rfl] at e ⊢
    obtain ⟨⟨t3, ρ4⟩, e4, e⟩ := Option.bind_eq_some_iff.mp e
    obtain ⟨x', y', w1, w2, hf', rfl⟩ := vw2_inv e
    refine ⟨G3, ρ3, t3, _, E3.s1, e4, fun c G4 H4 E4 T4 => ?_⟩
    have EE := E3.trans E4
    exact ⟨G4, x', y', t, EE.s1.sub, view_ok EE.s1 (TRep.move E (g3.trans E4) (T2.back E1)) w1, view_ok EE.s1 T4 w2, hf', fun v G5 H5 g p => q v G5 H5 (EE.gro g) (p.t EE)⟩

/-! ### lists of values -/
theorem taken_ok {m : Nat} {v : V} {t u : T} (a : EI K B H0 σ Gs Hs ρs G H ρ) (h : TRep K Hs G H σ v t) (e : taken m ρ t = some (u, ρ')) : ∃ G', EI K B H0 σ Gs Hs ρs G' H ρ' ∧ Same G G' ∧ TRep K Hs G' H σ v u := by
  unfold taken at e
  split at e
  · cases e; exact ⟨G, a, Same.refl _, h⟩
  · split at e
    · rename_i d ρ'' e1
      cases e
      obtain ⟨G', E, s, rp⟩ := settle_ok a h e1
      exact ⟨G', E, s, rp⟩
    · cases e
theorem cons_ok {m : Nat} {f : List Sl → Rs T} {g : List Sl → Rs (List T)} {Q : List V → Hp → Prop} (h : tMA K B H0 (fun ρ => (f ρ).bind fun x => (taken m x.2 x.1).bind fun y => (g y.2).bind fun z => some (y.1 :: z.1, z.2)) σ H Q) :
    tCons (tM K B H0 f) (tMA K B H0 g) σ H Q := by
  obtain ⟨G, ρ, t, ρ', s, e, q⟩ := h
  obtain ⟨⟨t1, ρ1⟩, e1, e⟩ := Option.bind_eq_some_iff.mp e
  obtain ⟨⟨u, ρ2⟩, e2, e⟩ := Option.bind_eq_some_iff.mp e
  obtain ⟨⟨us, ρ3⟩, e3, e⟩ := Option.bind_eq_some_iff.mp e
  cases e
  refine ⟨G, ρ, t1, ρ1, s, e1, fun a G1 H1 E1 T1 => ?_⟩
  obtain ⟨G2, E2, _, T2⟩ := taken_ok E1 T1 e2
  exact ⟨G2, ρ2, us, ρ3, E2.s1, e3, fun vs G3 H3 E3 T3 => q (a :: vs) G3 H3 (E2.trans E3) ⟨T2.move E2 E3, T3.back E2⟩⟩
theorem nil_ok {Q : List V → Hp → Prop} (h : tMA K B H0 (fun ρ => some ([], ρ)) σ H Q) : tNil σ H Q := by
  obtain ⟨G, ρ, t, ρ', s, e, q⟩ := h
  cases e
  exact q [] G H (EI.refl s) trivial
theorem Ds_ok {vs : List V} {ts : List T} {ds : List D} (h : TRepL K Hs G H σ vs ts) (e : Ds ts = some ds) : RepL K G vs ds := by
  induction vs generalizing ts ds with
  | nil => cases ts with
    | nil => cases e; exact .nil
    | cons => exact h.elim
  | cons v vs ih => cases ts with
    | nil => exact h.elim
    | cons t ts =>
      cases t with
      | d d =>
        obtain ⟨r, e1, e2⟩ := Option.map_eq_some_iff.mp (show (Ds ts).map (d :: ·) = some ds from e)
        subst e2
        exact .cons h.1 (ih h.2 e1)
      | new o => cases e
      | sl i => cases e
theorem tup_ok {g : List Sl → Rs (List T)} {Q : VK} (h : tM K B H0 (fun ρ => (g ρ).bind fun r => (tupF r.1).map fun t => (t, r.2)) σ H Q) : tTup (tMA K B H0 g) σ H Q := by
  obtain ⟨G, ρ, t, ρ', s, e, q⟩ := h
  obtain ⟨⟨ts, ρ1⟩, e1, e⟩ := Option.bind_eq_some_iff.mp e
  obtain ⟨u, e2, e⟩ := Option.map_eq_some_iff.mp e
  cases e
  obtain ⟨ds, e3, e⟩ := Option.bind_eq_some_iff.mp e2
  split at e
  · rename_i hz
    cases e
    refine ⟨G, ρ, ts, ρ1, s, e1, fun vs G1 H1 E T => ?_⟩
    have l := Ds_ok T e3
    exact ⟨by rw [l.length]; exact hz, fun p hp => q _ _ _ (E.gro (Gro.new E.s1.sub hp)) (Rep.newTup E.s1.sub hp l)⟩
  · cases e
theorem lst_ok {g : List Sl → Rs (List T)} {Q : VK} (h : tM K B H0 (fun ρ => (g ρ).bind fun r => (lstF r.1).map fun t => (t, r.2)) σ H Q) : tLst (tMA K B H0 g) σ H Q := by
  obtain ⟨G, ρ, t, ρ', s, e, q⟩ := h
  obtain ⟨⟨ts, ρ1⟩, e1, e⟩ := Option.bind_eq_some_iff.mp e
  obtain ⟨u, e2, e⟩ := Option.map_eq_some_iff.mp e
  cases e
  obtain ⟨ds, e3, e⟩ := Option.bind_eq_some_iff.mp e2
  split at e
  · rename_i hz
    cases e
    refine ⟨G, ρ, ts, ρ1, s, e1, fun vs G1 H1 E T => ?_⟩
    have l := Ds_ok T e3
    exact ⟨by rw [l.length]; exact hz, fun p hp => q _ _ _ (E.gro (Gro.tmp E.s1.sub hp)) ((PRep.newLst E.s1.sub hp l).t E)⟩
  · cases e
/-- a call of a def -/
def tGh (t : TE) : TE := fun σ H Q => t σ H fun v H' => Q v H' ∨ ∃ a u, H' a = some u ∧ Mut (some u) ∧ ∀ ob, Q v (upd H' a (.frz ob u))
/-- what a thing is may become known -/
theorem pe_ghost {X : Cx} {e : Expr} {t : TE} (h : PE X e t) : PE X e (tGh t) := ⟨fun pins s σ H Q I w => wpAny_mono (h.run pins s σ H _ I w) (fun v s' ⟨x, H', I', r, q⟩ => by
  rcases q with q | ⟨a, u, ha, mu, q⟩
  · exact ⟨x, H', I', r, q⟩
  · obtain ⟨od, I2⟩ := I'.lock ha mu
    exact ⟨x, _, I2, r, q od⟩) fun _ _ e => e⟩
theorem frz_ok {f : List Sl → Rs T} {Q : VK} (h : tM K B H0 (fun ρ => (asF (f ρ)).map fun r => (.d r.1, r.2)) σ H Q) : tGh (tM K B H0 f) σ H Q := by
  obtain ⟨G, ρ, t, ρ', s, e, q⟩ := h
  obtain ⟨⟨d, ρ1⟩, e1, e2⟩ := Option.map_eq_some_iff.mp e
  cases e2
  obtain ⟨⟨t1, ρ2⟩, e3, e4⟩ := Option.bind_eq_some_iff.mp e1
  refine ⟨G, ρ, t1, ρ2, s, e3, fun v G1 H1 E T => ?_⟩
  rcases settleF_ok E T e4 with ⟨G2, E2, _, r⟩ | ⟨p, u, hp, mu, k⟩
  · exact .inl (q v G2 H1 E2 r)
  · refine .inr ⟨p, u, hp, mu, fun ob => ?_⟩
    obtain ⟨G2, E2, _, r⟩ := k ob
    exact q v G2 _ E2 r
theorem call_ok {call : Str → List Arg → Option (T × List Sl)} {f : Str} {np : Nat} {g : List Sl → Rs (List T)} {Q : VK} (h : tM K B H0 (fun ρ => (g ρ).bind fun r => callF call f r.1 r.2) σ H Q)
    (hl : ∀ ρ ts ρ', g ρ = some (ts, ρ') → ts.length = np) : tCall (spF K call f np) [] E0 (tMA K B H0 g) σ H Q := by
  obtain ⟨G, ρ, t, ρ', s, e, q⟩ := h
  obtain ⟨⟨ts, ρ1⟩, e1, e⟩ := Option.bind_eq_some_iff.mp e
  dsimp only at e
  unfold callF at e
  obtain ⟨args, e2, e⟩ := Option.bind_eq_some_iff.mp e
  split at e
  · rename_i nd
    obtain ⟨⟨t0, bs⟩, e3, e⟩ := Option.bind_eq_some_iff.mp e
    refine ⟨G, ρ, ts, ρ1, s, e1, fun vs G1 H1 E T => ?_⟩
    have fin : ∀ l, t0 = t → backs ρ1 ts bs = some l → ρ' = setAll ρ1 l → spF K call f np (vs ++ []) H1 Q E0 := fun l ht hb hr => by
      subst ht hr
      rw [List.append_nil]
      exact ⟨G1, args, t0, bs, E.s1.sub, args_ok E.s1 T (fun b z => E.s0.alive (E.ow b z)) e2 nd.1 nd.2, e3, by rw [T.len]; exact hl _ _ _ e1, fun v G2 H2 cp pr => q v G2 H2 (back_ok E T e2 nd.1 cp hb) (pr.t E)⟩
    dsimp only at e
    split at e
    · cases e
    · rename_i t1 _
      obtain ⟨l, e4, e⟩ := Option.map_eq_some_iff.mp e
      cases e
      exact fin l rfl e4 rfl
  · cases e
end
end Fw

set_option maxHeartbeats 4000000
/-! FwX: two rules of the machine that the layer lacks: list(reversed(list)), list.extend(tuple). -/
namespace FwX
open PySem PySem.Spec PyProof.Rows L2 RT

section
variable {prog : Program} {w : World} {A : Around} {E : Value → Shared → Prop} {s : Shared}
theorem list_init_rev {R : Result → Shared → Prop} {it l S : Addr} {items : Array Value} (hh : A.handled = none) (hit : s.heap.IsRevIter it l ((items.size : Int) - 1)) (hl : s.heap.IsList l items) (hne : l ≠ it) (hn : items.size ≤ sizeLine)
    (hS : s.heap.get? S = some { cls := .type "list", data := .seq #[] }) (hSi : S ≠ it) (hSl : S ≠ l)
    (hR : ∀ (h' : Heap) (tk : Nat) (acc : Array Value) (c : Nat), (∀ b o, b ≠ it → b ≠ S → s.heap.get? b = some o → h'.get? b = some o) → h'.get? S = some { cls := .type "list", dict := none, data := .seq acc c, slots := #[] } →
      ItemsOf (fun i v => items[items.size - 1 - i]? = some v) acc items.size → R (.ok (.ret .none)) { s with heap := h', toks := tk }) :
    wpAny (model prog w) A.in1 (Builtin.«list.__init__» ⟨[.ref S, .ref it], []⟩)
      (fun fin s' => match fin with | .done f => R (.ok f) s' | .again c' => c'.quiet = true ∧ codeAny (model prog w) A c' R s') (fun e s' => R (.error e) s') s := by
  show wpAny _ _ (do let old ← Builtin.List.listItems (.ref S); Builtin.List.listUpdate (.ref S) (fun _ => #[]); letGo old.toList.reverse; Builtin.List.listExtendWith (.ref S) (.ref it) .none) _ _ s
  refine wpAny_bind ?_
  unfold Builtin.List.listItems
  refine wpAny_bind (wpAny_seqItems hS rfl (wpAny_pure ?_))
  show wpAny _ _ (updateSeq S (fun _ => #[]) >>= fun _ => letGo (#[] : Array Value).toList.reverse >>= fun _ => Builtin.List.listExtendWith (.ref S) (.ref it) .none) _ _ s
  refine wpAny_bind (wpAny_updateSeq hS rfl ?_)
  have z2 := Heap.get?_update_self (Obj.mapSeq (fun _ => (#[] : Array Value))) hS rfl
  have oth : ∀ b o, b ≠ S → s.heap.get? b = some o → (s.heap.update S (Obj.mapSeq (fun _ => (#[] : Array Value)))).get? b = some o := fun b o hb e => (Heap.get?_update_other _ _ (Ne.symm hb)).trans e
  refine wpAny_bind (wpAny_letGo ?_)
  have W := (Walks.listRev (prog := prog) (w := w) (A := A.in1) hh it l hne items).toS
  have hSf : S ∉ [it, l] := by simp only [List.mem_cons, List.not_mem_nil, or_false, not_or]; exact ⟨hSi, hSl⟩
  have i1 : (s.heap.update S (Obj.mapSeq (fun _ => (#[] : Array Value)))).IsRevIter it l ((items.size : Int) - 1) := hit.at fun o e => oth _ _ (Ne.symm hSi) e
  have l1 : (s.heap.update S (Obj.mapSeq (fun _ => (#[] : Array Value)))).IsList l items := by
    obtain ⟨o, ho, r⟩ := hl
    exact ⟨o, oth _ _ (Ne.symm hSl) ho, r⟩
  have hT : ({ s with heap := s.heap.update S (Obj.mapSeq (fun _ => (#[] : Array Value))) } : Shared).TypeIs (.ref it) "list_reverseiterator" := Heap.IsRevIter.typeIs (s := { s with heap := s.heap.update S (Obj.mapSeq (fun _ => (#[] : Array Value))) }) i1
  have h1 : Builtin.List.listSameRef (.ref S) (.ref it) = false := by simp [Builtin.List.listSameRef, hSi]
  unfold Builtin.List.listExtendWith
  refine wpAny_bind (wpAny_typeOf hT ?_)
  rw [if_neg (by rw [h1]; decide)]
  refine wpAny_bind (wpAny_pyIter_revIter (s := { s with heap := s.heap.update S (Obj.mapSeq (fun _ => (#[] : Array Value))) }) i1 ?_)
  refine wpAny_bind (wpAny_holding ?_)
  unfold Builtin.List.listLengthHint
  refine wpAny_bind (wpAny_specialOf hT nolen_lri ?_)
  show wpAny _ A.in1 (specialOf (Value.ref it) (Str.ofString "__length_hint__") >>= _) _ _ _
  refine wpAny_bind (wpAny_specialOf hT hint_lri ?_)
  generalize hid : ("list_reverseiterator.__length_hint__" : String) = id0
  wp_delta
  rw [show splitId id0 = some ("list_reverseiterator", "__length_hint__") from by subst hid; decide +kernel]
  subst hid
  refine wpAny_bind (wpAny_isInstance (b := true) hT (by rw [isSubtype_type]; kernel_rfl) ?_)
  refine wpAny_pure ?_
  rw [if_neg (by decide)]
  have e0 : ((items.size : Nat) : Int) - 1 - ((0 : Nat) : Int) = (items.size : Int) - 1 := by omega
  refine wpAny_pure ⟨plainId_quiet F.plain_extend_loop _, codeAny_extend_loopS W hn _ hSf _ items.size 0 _ _ _ rfl (Nat.zero_le _) ⟨Nat.zero_le _, by rw [e0]; exact i1, l1⟩ z2 (ItemsOf.nil _) fun s' acc' c' hm hS' hacc => ?_⟩
  rw [Moved.eq_with hm]
  refine hR s'.heap s'.toks acc' c' (fun b o hb hbS e => hm.heap b o (fun hmem => ?_) (oth _ _ hbS e)) hS' hacc
  rcases List.mem_cons.mp hmem with e' | hmem
  · exact hbS e'
  · exact hb (List.mem_singleton.mp hmem)
theorem call_list_rev {it l : Addr} {items : Array Value} {Q : Value → Shared → Prop} (hh : A.handled = none) (hit : s.heap.IsRevIter it l ((items.size : Int) - 1)) (hl : s.heap.IsList l items) (hne : l ≠ it) (hn : items.size ≤ sizeLine)
    (hQ : ∀ (h' : Heap) (tk : Nat) (acc : Array Value) (c : Nat), (∀ b o, b ≠ it → s.heap.get? b = some o → h'.get? b = some o) → h'.get? s.heap.objs.size = some { cls := .type "list", dict := none, data := .seq acc c, slots := #[] } →
      ItemsOf (fun i v => items[items.size - 1 - i]? = some v) acc items.size → Q (.ref s.heap.objs.size) { s with heap := h', toks := tk }) :
    wpAny (model prog w) A (call (.type "list") [.ref it]) Q E s := by
  obtain ⟨oi, hoi, _⟩ := id hit
  obtain ⟨ol, hol, _⟩ := id hl
  refine callType_codes (Q₁ := fun obj s₁ => obj = .ref s.heap.objs.size ∧ s₁ = { s with heap := s.heap.push { cls := .type "list", data := .seq #[] } }) F.called_list (F.typeCall_list_1 _) F.entry_list_init
    (code_list_new _ ⟨rfl, rfl⟩) fun obj s₁ h₁ => ?_
  obtain ⟨rfl, rfl⟩ := h₁
  have hS : (s.heap.push { cls := .type "list", data := .seq #[] }).get? s.heap.objs.size = some { cls := .type "list", data := .seq #[] } := Heap.get?_push_size _ rfl
  refine ⟨⟨_, hS, rfl⟩, F.args_list_init_2 _ _, list_init_rev (A := A.in1) (s := { s with heap := s.heap.push { cls := .type "list", data := .seq #[] } }) hh (hit.at fun o e => Heap.get?_push_of_some _ e) (hl.push _) hne hn hS (Nat.ne_of_gt (Heap.lt_size hoi)) (Nat.ne_of_gt (Heap.lt_size hol)) fun h' tk acc c hk hS' hacc => ?_⟩
  exact ⟨rfl, hQ h' tk acc c (fun b o hb e => hk b o hb (Nat.ne_of_lt (Heap.lt_size e)) (Heap.get?_push_of_some _ e)) hS' hacc⟩
end

section
variable {X : Cx}
/-- list(reversed(x)), x a list: a new list -/
def tLstRev (K : PySem.W.Frag) (te : TE) : TE := fun σ H Q => te σ H fun v H1 => ∃ (a : Addr) (xs : List V), v = .ref a ∧ SqL K H1 a xs ∧ ∀ q, H1 q = none → Q (.ref q) (upd H1 q (.lst xs.reverse))
theorem pe_lstRev {e : Expr} {te : TE} {p p2 pos pos2 : Pos} (hc : X.calm = true) (hg : Gl X "list") (hm : X.mg "list" = none) (hg2 : Gl X "reversed") (hm2 : X.mg "reversed" = none) (he : PE X e te)
    (hs : starEach [e] X.env = (false, eval e X.env) :: starEach [] X.env)
    (hs2 : starEach [.Call (.Name "reversed" p2) [e] [] pos2] X.env = (false, eval (.Call (.Name "reversed" p2) [e] [] pos2) X.env) :: starEach [] X.env := by rfl) :
    PE X (.Call (.Name "list" p) [.Call (.Name "reversed" p2) [e] [] pos2] [] pos) (tLstRev X.K te) := by
  refine ⟨fun pins s σ H Q I h => ?_⟩
  refine Call_ (ld_blt I hg hm boot_list (PyProof.Rows.callWith_type1 (args_cons (Call_ (ld_blt I hg2 hm2 PyProof.Rows.boot_reversed (PyProof.Rows.callWith_type1 (args_cons (thn (he.run pins s σ H _ I h) fun u s1 ⟨v, H1, I1, r1, q1⟩ => args_nil ?_) hs) hs rfl))) hs2) hs2 rfl))
  obtain ⟨a, xs, ev, hq, q⟩ := q1
  subst ev
  obtain rfl : u = Value.ref a := r1
  obtain ⟨its, rv, p', hz⟩ := I1.list hq
  refine call_reversed_list p'.isList (args_nil ?_)
  have k0 : ∀ b o, s1.heap.get? b = some o → (s1.heap.push (revObj a ((its.toArray.size : Int) - 1))).get? b = some o := fun b o e => Heap.get?_push_of_some _ e
  have I2 : Inv X pins σ H1 { s1 with heap := s1.heap.push (revObj a ((its.toArray.size : Int) - 1)) } := I1.kept (t' := s1.toks) k0
  obtain ⟨f0, f1, f2, f3, f4, f5⟩ := I1.fpOk (H' := H1) (b := s1.heap.objs.size) (Nat.le_refl _) (I1.hok.fresh (Nat.le_refl _))
  have hl := p'.isList
  obtain ⟨ol, hol, _⟩ := id hl
  have hne : a ≠ s1.heap.objs.size := Nat.ne_of_lt (Heap.lt_size hol)
  have hn : its.toArray.size ≤ sizeLine := by rw [List.size_toArray, ← rv.length]; exact hz
  refine call_list_rev (s := { s1 with heap := s1.heap.push (revObj a ((its.toArray.size : Int) - 1)) }) (I1.ok.hd hc) ⟨_, Heap.get?_push_size _ rfl, rfl, rfl⟩ (hl.push _) hne hn fun h' tk acc c hk hS' hi => ?_
  have hp : H1 (s1.heap.push (revObj a ((its.toArray.size : Int) - 1))).objs.size = none := I2.hok.fresh (Nat.le_refl _)
  have I3 : Inv X pins σ H1 { s1 with heap := h', toks := tk } := I2.turned (t' := tk) (fun b o hb e => hk b o hb e) f0 f1 f3 f4 f5
  generalize hz2 : s1.heap.push (revObj a ((its.toArray.size : Int) - 1)) = h2 at *
  have J : Inv X pins σ (upd H1 h2.objs.size (.lst xs.reverse)) { s1 with heap := h2.push { cls := .type "list", dict := none, data := .seq acc c, slots := #[] } } := by
    refine I2.laid (t' := s1.toks) (fun b o e => Heap.get?_push_of_some _ e) (Nat.le_refl _) (show ObjOk X.prog X.w _ _ _ (.lst xs.reverse) from ⟨by rw [List.length_reverse]; exact hz, acc.toList, c, vals_rev rv hi, ?_⟩)
    rw [Array.toArray_toList]
    exact Heap.get?_push_size _ rfl
  have ne : s1.heap.objs.size ≠ h2.objs.size := by
    rw [← hz2, Heap.size_push]
    exact Nat.ne_of_lt (Nat.lt_succ_self _)
  have I4 : Inv X pins σ (upd H1 h2.objs.size (.lst xs.reverse)) { s1 with heap := h', toks := tk } := by
    refine Inv.turned (s := { s1 with heap := h2.push { cls := .type "list", dict := none, data := .seq acc c, slots := #[] } }) (h' := h') J (it := s1.heap.objs.size) (t' := tk) (fun b o hb e => ?_) (by rw [upd_ne ne]; exact f0) f1 f3 f4 f5
    by_cases hbs : b = h2.objs.size
    · subst hbs
      have e3 := (Heap.get?_push_size h2 (o := { cls := .type "list", dict := none, data := .seq acc c, slots := #[] }) rfl).symm.trans e
      cases e3
      exact hS'
    · refine hk b o hb ?_
      rcases Heap.get?_push_cases e with ⟨e', _⟩ | e'
      · exact absurd e' hbs
      · exact e'
  exact ⟨.ref _, _, I4, rfl, q _ hp⟩
/-- list.extend of a tuple -/
def rExtendT (K : PySem.W.Frag) : V → List V → Hp → VK → Prop := fun x vs H Q => ∃ l b xs zs, x = .ref l ∧ vs = [.ref b] ∧ H l = some (.lst xs) ∧ SqT K H b zs ∧ xs.length + zs.length ≤ sizeLine ∧ Q .non (upd H l (.lst (xs ++ zs)))
end
section
theorem extend_tup (l : Addr) (items : Array Value) (n : Nat) (b : Addr) (ob : Obj) (items2 : Array Value) (n2 : Nat) (hc : ob.cls = .type "tuple") (hd : ob.data = .seq items2 n2)
    (z0 : ¬(!items.isEmpty && Builtin.List.listTooLong (items.size + items2.size)) = true) (z1 : items.size ≤ sizeLine) (z2 : items.size + items2.size ≤ sizeLine + 1) :
    Meets (Builtin.«list.extend» ⟨[.ref l, .ref b], []⟩) (fun _ R s => s.heap.get? l = some { cls := .type "list", dict := none, data := .seq items n, slots := #[] } ∧ s.heap.get? b = some ob ∧ R (.ok (.ret Value.none)) { s with heap := s.heap.update l (Obj.mapSeq fun x => x ++ items2), toks := s.toks }) :=
  .of_wp fun prog w A R s h => by
    obtain ⟨hp, g, d, tk, os⟩ := s
    obtain ⟨hl, hb, h⟩ := h
    obtain ⟨cls, dd, dt, sl⟩ := ob
    simp only at hc hd
    subst hc hd
    have f2 := sub_tuple_tuple; have f3 := sub_list_list; have f4 := sub_tuple_list; have f5 := sub_list_tuple
    have hz' : (items ++ items2).size ≤ sizeLine + 1 := by rw [Array.size_append]; exact z2
    wp_walk using (wpAny_updateSeq hl rfl (hz := z1) (_hz' := hz')), wpAny_loadPart' hl, wpAny_loadPart' hb
    exact ⟨_, rfl, h⟩
end
section
variable {X : Cx}
theorem mt_extendT : MtM X "list.extend" (rExtendT X.K) := by
  intro pins s σ H x vs v us Q I rx rv h
  obtain ⟨l, b, xs, zs, rfl, rfl, hH, hB, hz, q⟩ := h
  cases rx
  obtain ⟨u, rfl, ru⟩ := rv.one
  cases ru
  obtain ⟨z, its, n, r, hl, e⟩ := I.lstM hH
  obtain ⟨its2, r2, ⟨ob, e2, c2, n2, d2⟩, _⟩ := I.tuple hB
  have hl2 := r2.length
  have hsz : its.toArray.size + its2.toArray.size ≤ sizeLine := by rw [List.size_toArray, List.size_toArray]; omega
  refine call_meets F.slot_list_extend ⟨_, e, rfl⟩ F.entry_list_extend (F.args_list_extend_2 _ _)
    (extend_tup l its.toArray n b ob its2.toArray n2 c2 d2 (by rw [notLongL hsz, Bool.and_false]; exact Bool.false_ne_true) (by rw [List.size_toArray]; omega) (by omega)) ⟨e, e2, ?_⟩
  refine ⟨.non, _, I.lset (its' := its ++ its2) hH e (by simp) (r.append r2) (by rw [List.length_append]; omega), rfl, q⟩
end
end FwX

set_option maxHeartbeats 4000000
/-! FwK: a walk over the keys of a known dict whose keys are tuples. -/
namespace Fw
open PySem PySem.Spec PyProof.Rows L2
/-- the keys' own tuples, in order -/
def Itx (d : Addr) (ob : Obj) (xs : TX) : It :=
  ⟨fun n G => G d = some (.frz ob (tdO d xs)) ∧ n < xs.length, fun n G y G' => G' = G ∧ ∃ z, xs[n]? = some z ∧ y = .ref z.2.1, fun n G => G d = some (.frz ob (tdO d xs)) ∧ xs.length ≤ n⟩
theorem frzX {Y : Cx} {pp : List (Addr × Obj)} {τ : St} {G : Hp} {t : Shared} {d : Addr} {ob : Obj} {xs : TX} (J : Inv Y pp τ G t) (h : G d = some (.frz ob (tdO d xs))) :
    (d == sysModules) = false ∧ t.heap.get? d = some ob ∧ ob.ExactDict ∧ ∃ (es : Array DictEntry) (ep : Nat), ob.data = .dict es ep ∧ es.size = xs.length ∧ ∀ (n : Nat) (z : NestedKey × Addr × V), xs[n]? = some z → ∃ en : DictEntry, es[n]? = some en ∧ en.key = .ref z.2.1 := by
  obtain ⟨g, ⟨_, lo, _, vs, r, _, o', es, ep, e, ex, dt, en⟩, _⟩ := J.hok d _ h
  rw [g] at e
  cases e
  have sz : es.size = vs.length := by
    have := congrArg List.length (en Y.w)
    simpa using this
  refine ⟨lo, g, ex, es, ep, dt, by rw [sz, r.length], fun n z hz => ?_⟩
  obtain ⟨u, h1, _⟩ := r.get hz
  have h2 : es.toList[n]? = some (tEn Y.w (z.1, z.2.1, u)) := by rw [en Y.w, List.getElem?_map, h1]; rfl
  exact ⟨_, by simpa using h2, rfl⟩
section
variable {Pg : Program} {ww : World} {KK : PySem.W.Frag} {tt : Expr} {d : Addr} {ob : Obj} {es : Array DictEntry} {ep : Nat}
theorem same_ep {es' : Array DictEntry} {ep' : Nat} (a : ob.data = .dict es ep) (b : ob.data = .dict es' ep') : es' = es ∧ ep' = ep := by
  rw [a] at b; cases b; exact ⟨rfl, rfl⟩
theorem turn_x {xs : TX} (it : Addr) (dt : ob.data = .dict es ep) : Turn Pg ww KK tt (Itx d ob xs) [it] it (fun n g => g.IsKeyIter it d n xs.length ep) where
  mem := List.mem_singleton.mpr rfl
  obj := fun n g st b hb => by
    have eb : b = it := List.mem_singleton.mp hb
    subst eb
    obtain ⟨oi, e, c, dd⟩ := st
    refine ⟨oi, e, fun v z => ?_⟩
    rw [dd] at z
    cases z
  keep := fun n g g' st k => st.at fun oi e => k it (List.mem_singleton.mpr rfl) oi e
  item := fun Y e1 e2 e3 hc n pp t τ G E J hf st hg => by
    subst e1 e2 e3
    obtain ⟨hd, hn⟩ := hg
    have ff := hf it (List.mem_singleton.mpr rfl)
    obtain ⟨lo, gd, ex, es', ep', dt', sz, ent⟩ := frzX J hd
    obtain ⟨rfl, rfl⟩ := same_ep dt dt'
    obtain ⟨en, h1, h2⟩ := ent n xs[n] (List.getElem?_eq_getElem hn)
    refine next_key_item st gd dt sz h1 fun g' st' sb => ?_
    have J2 : Inv Y pp τ G { t with heap := g' } := J.turned (t' := t.toks) (fun b o hb e => (sb.2 b hb).trans e) ff.1 ff.2.1 ff.2.2.2.1 ff.2.2.2.2.1 ff.2.2.2.2.2
    obtain ⟨oi, e, c, dd⟩ := id st'
    exact ⟨en.key, rfl, go_of (s := { t with heap := g' }) e c dd (by decide) ⟨.ref (xs[n]).2.1, G, J2, h2, ⟨rfl, xs[n], List.getElem?_eq_getElem hn, rfl⟩, st', fun b hb => (hf b hb).1⟩⟩
  done := fun Y e1 e2 e3 hc n pp t τ G E J hf st hg => by
    subst e1 e2 e3
    obtain ⟨hd, hn⟩ := hg
    have ff := hf it (List.mem_singleton.mpr rfl)
    obtain ⟨lo, gd, ex, es', ep', dt', sz, ent⟩ := frzX J hd
    obtain ⟨rfl, rfl⟩ := same_ep dt dt'
    exact next_key_end (J.ok.hd hc) st gd dt sz hn fun g' eb => ⟨rfl, J.turned (t' := t.toks) (fun b o hb e => eb b o hb e) ff.1 ff.2.1 ff.2.2.2.1 ff.2.2.2.2.1 ff.2.2.2.2.2⟩
  self := fun A n t Q E st h => by
    refine wpAny_pyIter_slot st.typeIs F.slot_dict_keyiterator_iter (wpAny_call_entry F.slot_dict_keyiterator_iter st.typeIs F.entry_dict_keyiterator_iter ?w (F.args_dict_keyiterator_iter_1 _))
    case w => exact (show wpAny _ _ (ret (.ref it)) _ _ t from wpAny_pure ⟨_, rfl, "dict_keyiterator", _, st.typeIs, F.slot_dict_keyiterator_next.lookup, h⟩)
end
def iKeysX (td : TE) : TI := fun σ H R => td σ H fun x H1 => ∃ d o xs, x = .ref d ∧ H1 d = some (.frz o (tdO d xs)) ∧ R (Itx d o xs) H1
theorem pi_keysX {Y : Cx} {tt e : Expr} {td : TE} (he : PE Y e td) : PI Y tt e (iKeysX td) := ⟨fun pp t τ G R J h => thn (he.run pp t τ G _ J h) fun u t1 ⟨x, G1, J1, rx, d, o, xs, ex, hd, q⟩ => by
  subst ex
  obtain rfl : u = Value.ref d := rx
  obtain ⟨lo, gd, exd, es, ep, dt, sz, ent⟩ := frzX J1 hd
  refine iter_keys lo gd exd dt (pi_one (tk := t1.toks) J1 _ (turn_x _ dt) ⟨_, Heap.get?_push_size _ rfl, rfl, ?_⟩ q)
  rw [sz]
  rfl⟩
end Fw

set_option maxHeartbeats 4000000
/-! Fw8: methods that change a list; what is walked; targets; comprehensions. -/
namespace Fw
open PySem PySem.Spec PyProof.Rows L2

section
variable {K : PySem.W.Frag} {B : Fb} {H0 G H G' H' G1 H1 G2 H2 Gs Hs : Hp} {σ σ' σw σ2 : St} {ρ ρ' ρs ρ1 ρ2 : List Sl}
/-- the object of slot i and its change -/
theorem setO_upd {i : Nat} {o : O} {v : V} (s : StRep K B H0 G H σ ρ) (g : getO ρ i = some o) (hv : σ[i]? = some (some v)) :
    ∃ a, v = .ref a ∧ ORep K G H a o ∧ Ow σ ρ a ∧ ∀ o' x ρ', ORep K G (upd H a x) a o' → setO ρ i o' = some ρ' → EI K B H0 σ G H ρ G (upd H a x) ρ' := by
  have go : ∀ (s0 s1 : Sl) (a : Addr) (o' : O) (x : HO), ρ[i]? = some s0 → σ[i]? = some (some (.ref a)) → s0.isOwn = true → ORep K G H a o → (s1 = .own o' ∧ H0 a = none ∧ s0.pinned = false ∨ s1 = .bor o') → ORep K G (upd H a x) a o' → EI K B H0 σ G H ρ G (upd H a x) (ρ.set i s1) := by
    intro s0 s1 a o' x q ha ho r h1 rw'
    have e2 := r.gnone
    have own0 : OwnAt σ ρ i a := ⟨ha, s0, q, ho⟩
    have hs1 : s1.isOwn = true := by rcases h1 with ⟨rfl, _⟩ | rfl <;> rfl
    have ob : ∀ {j b}, OwnAt σ (ρ.set i s1) j b → OwnAt σ ρ j b := fun {j b} ⟨z1, s2, z2, z3⟩ => by
      rcases getset z2 with ⟨rfl, rfl, _⟩ | ⟨_, z4⟩
      · rw [ha] at z1; cases z1; exact own0
      · exact ⟨z1, s2, z4, z3⟩
    have alv : ∀ b, H b ≠ none → upd H a x b ≠ none := fun b z => by
      by_cases hb : b = a
      · subst hb; rw [upd_same]; simp
      · rw [upd_ne hb]; exact z
    refine ⟨s, ⟨fun j b hB => ?_, fun b z => alv b (s.ali b z), fun b o z => ?_, by rw [List.length_set]; exact s.len, fun j s2 z => ?_, fun j k b u1 u2 => s.inj j k b (ob u1) (ob u2), s.bi⟩, ⟨Same.refl _, fun b o z n => ?_, alv⟩, fun b ⟨j, hj⟩ => ⟨j, ob hj⟩⟩
    · obtain ⟨p1, s2, p2, p3⟩ := s.pin j b hB
      refine ⟨p1, ?_⟩
      by_cases hij : i = j
      · subst hij
        rw [q] at p2; cases p2
        refine ⟨s1, by rw [List.getElem?_set_self (List.getElem?_eq_some_iff.mp q).1], ?_⟩
        rcases h1 with ⟨_, _, n⟩ | rfl
        · rw [p3] at n; cases n
        · rfl
      · exact ⟨s2, by rw [List.getElem?_set_ne hij]; exact p2, p3⟩
    · have hb : b ≠ a := fun w => by subst w; rw [e2] at z; cases z
      rw [upd_ne hb]; exact s.sub _ _ z
    · rcases getset z with ⟨rfl, rfl, _⟩ | ⟨n, z4⟩
      · rcases h1 with ⟨rfl, f, _⟩ | rfl
        · exact ⟨a, ha, rw', f⟩
        · exact ⟨a, ha, rw'⟩
      · have y := s.at_ j s2 z4
        have nb : ∀ b, OwnAt σ ρ j b → b ≠ a := fun b hb w => n (s.inj i j a own0 (w ▸ hb))
        cases s2 with
        | no => trivial
        | d d => exact y
        | fz d => exact y
        | own o1 =>
          obtain ⟨b, e5, r, f⟩ := y
          exact ⟨b, e5, r.move (Same.refl _) fun x ex => ⟨by rw [upd_ne (nb b ⟨e5, _, z4, rfl⟩)]; exact ex, fun w => w⟩, f⟩
        | bor o1 =>
          obtain ⟨b, e5, r⟩ := y
          exact ⟨b, e5, r.move (Same.refl _) fun x ex => ⟨by rw [upd_ne (nb b ⟨e5, _, z4, rfl⟩)]; exact ex, fun w => w⟩⟩
    · have hb : b ≠ a := fun w => n (w ▸ ⟨i, own0⟩)
      rw [upd_ne hb]; exact ⟨z, fun w => w⟩
  unfold getO at g
  split at g
  · rename_i o q
    cases g
    obtain ⟨a, e1, r, f⟩ := s.at_ i _ q
    rw [hv] at e1; cases e1
    refine ⟨a, rfl, r, ⟨i, hv, _, q, rfl⟩, fun o' x ρ' r2 e => ?_⟩
    simp only [setO, q] at e
    cases e
    exact go _ _ a o' x q hv rfl r (.inl ⟨rfl, f, rfl⟩) r2
  · rename_i o q
    cases g
    obtain ⟨a, e1, r⟩ := s.at_ i _ q
    rw [hv] at e1; cases e1
    refine ⟨a, rfl, r, ⟨i, hv, _, q, rfl⟩, fun o' x ρ' r2 e => ?_⟩
    simp only [setO, q] at e
    cases e
    exact go _ _ a o' x q hv rfl r (.inr rfl) r2
  · cases g
/-- the list of slot i and its change -/
theorem setO_ok {i : Nat} {xs : List D} {v : V} (s : StRep K B H0 G H σ ρ) (g : getO ρ i = some (.lst xs)) (hv : σ[i]? = some (some v)) :
    ∃ a vs, v = .ref a ∧ H a = some (.lst vs) ∧ RepL K G vs xs ∧ Ow σ ρ a ∧ ∀ ws ys ρ', RepL K G ws ys → setO ρ i (.lst ys) = some ρ' → EI K B H0 σ G H ρ G (upd H a (.lst ws)) ρ' := by
  obtain ⟨a, rfl, ⟨vs, h1, h2, h3⟩, ow, up⟩ := setO_upd s g hv
  exact ⟨a, vs, rfl, h1, h3, ow, fun ws ys ρ' r e => up (.lst ys) _ _ ⟨ws, upd_same, h2, r⟩ e⟩
def rMut (K : PySem.W.Frag) (m : Mt) : V → List V → Hp → VK → Prop := fun x vs H Q => ∃ G a us xs ds d ys, x = .ref a ∧ H a = some (.lst us) ∧ G a = none ∧ Same G H ∧ RepL K G us xs ∧ VRepL K G H vs ds ∧ mutF m xs ds = some (d, ys) ∧
  (m = .append → ∀ v e, vs = [v] → ds = [e] → Rep K G v e) ∧ ∀ v ws, Rep K G v d → RepL K G ws ys → Q v (upd H a (.lst ws))
theorem mth_ok {m : Mt} {k : Nat} {f : List Sl → Rs T} {g : List Sl → Rs (List T)} {Q : VK} (hk : m = .append → k = 2) 
    (hg : m = .append → ∀ ρ ts ρ', g ρ = some (ts, ρ') → ∀ t ∈ ts, ∃ d, t = T.d d)
    (h : tM K B H0 (fun ρ => (f ρ).bind fun r => (slOf r.1).bind fun i => (chkL r.2 i).bind fun _ => (g r.2).bind fun s => mthF m i s.1 s.2) σ H Q) :
    tM K B H0 f σ H fun x H1 => tyV K "list" x H1 ∧ tMA K B H0 g σ H1 fun vs H2 => rMut K m x vs H2 Q := by
  obtain ⟨G, ρ, t, ρ', s, e, q⟩ := h
  obtain ⟨⟨t1, ρ1⟩, e1, e⟩ := Option.bind_eq_some_iff.mp e
  obtain ⟨i, ei, ea⟩ := Option.bind_eq_some_iff.mp e
  obtain ⟨_, ec0, ea⟩ := Option.bind_eq_some_iff.mp ea
  obtain ⟨⟨ts, ρ2⟩, e2, eb⟩ := Option.bind_eq_some_iff.mp ea
  have hL : ∃ xs, getO ρ1 i = some (.lst xs) := by
    unfold chkL at ec0
    split at ec0
    · rename_i hL
      unfold isL at hL
      unfold getO
      split at hL
      · rename_i xs eq; dsimp only at eq; rw [eq]; exact ⟨xs, rfl⟩
      · rename_i xs eq; dsimp only at eq; rw [eq]; exact ⟨xs, rfl⟩
      · cases hL
    · cases ec0
  have et : t1 = .sl i := by
    dsimp only at ei
    unfold slOf at ei
    split at ei
    · cases ei; rfl
    · cases ei
  dsimp only at eb e2
  clear ea ei e ec0
  subst et
  unfold mthF at eb
  obtain ⟨ds, e3, ec⟩ := Option.bind_eq_some_iff.mp eb
  obtain ⟨o, e4, ed⟩ := Option.bind_eq_some_iff.mp ec
  clear eb ec
  cases o with
  | dic _ _ => cases ed
  | lst xs =>
  obtain ⟨⟨d, ys⟩, e5, ef⟩ := Option.bind_eq_some_iff.mp ed
  obtain ⟨ρ3, e6, eg⟩ := Option.map_eq_some_iff.mp ef
  clear ed ef
  cases eg
  refine ⟨G, ρ, _, ρ1, s, e1, fun x G1 H1 E1 T1 => ⟨?_, G1, ρ1, ts, ρ2, E1.s1, e2, fun vs G2 H2 E2 T2 => ?_⟩⟩
  · have hv : σ[i]? = some (some x) := T1
    obtain ⟨zs, ho⟩ := hL
    obtain ⟨a, us, rfl, ha, _⟩ := setO_ok E1.s1 ho hv
    exact .inl ⟨rfl, us, .inl (.inl ha)⟩
  · have hv : σ[i]? = some (some x) := T1
    obtain ⟨a, us, rfl, ha, r, ow, up⟩ := setO_ok E2.s1 e4 hv
    refine ⟨G2, a, us, xs, ds, d, ys, rfl, ha, E2.s1.gnone ow, E2.s1.sub, r, views_ok E2.s1 T2 e3, e5, fun hm v y ev ed => ?_, fun v ws rv rw' => ?_⟩
    · subst ev ed
      match ts, T2, e3, hg hm _ _ _ e2 with
      | [t], T2, e3, hd =>
        obtain ⟨d', rfl⟩ := hd t (by simp)
        simp [views, view] at e3
        subst e3
        exact T2.1
    · have E := up ws ys _ rw' e6
      have EE := E1.trans (E2.trans E)
      exact q v _ _ EE rv

/-! ### what is walked -/
theorem asD_inv {f : List Sl → Rs T} {d : D} (h : asD (f ρ) = some (d, ρ')) : ∃ t ρ1, f ρ = some (t, ρ1) ∧ settle ρ1 t = some (d, ρ') := by
  obtain ⟨⟨t, ρ1⟩, e1, e2⟩ := Option.bind_eq_some_iff.mp h
  exact ⟨t, ρ1, e1, e2⟩
theorem itOk_list {a : Addr} {vs : List V} {ds : List D} (h : G a = some (.lst vs)) (l : RepL K G vs ds) : ItOk K G (Itl K a) ds := by
  intro i G' H' s1 s2
  have hH : SqL K H' a vs := .inl (.inl (s2 _ _ (s1 _ _ h)))
  refine ⟨fun d e => ?_, fun e => ⟨vs, hH, by rw [l.length]; exact e⟩⟩
  obtain ⟨v, e1, r⟩ := l.get e
  refine ⟨⟨vs, v, hH, e1⟩, fun x H'' ⟨z1, z2⟩ => ?_⟩
  subst z1
  have := z2 vs hH
  rw [e1] at this; cases this
  exact ⟨G', Gro.refl s2, r.mono s1⟩
theorem itOk_tup {a : Addr} {vs : List V} {ds : List D} (h : SqT K G a vs) (l : RepL K G vs ds) : ItOk K G (Itt K a) ds := by
  intro i G' H' s1 s2
  have hH : SqT K H' a vs := sqT_mono s2 (sqT_mono s1 h)
  refine ⟨fun d e => ?_, fun e => ⟨vs, hH, by rw [l.length]; exact e⟩⟩
  obtain ⟨v, e1, r⟩ := l.get e
  refine ⟨⟨vs, v, hH, e1⟩, fun x H'' ⟨z1, z2⟩ => ?_⟩
  subst z1
  have := z2 vs hH
  rw [e1] at this; cases this
  exact ⟨G', Gro.refl s2, r.mono s1⟩
theorem itOk_str (z : Str) : ItOk K G (Its z) (z.cps.toList.map fun c => D.str ⟨#[c]⟩) := by
  intro i G' H' s1 s2
  refine ⟨fun d e => ?_, fun e => by rw [List.length_map, Array.length_toList] at e; exact e⟩
  rw [List.getElem?_map] at e
  obtain ⟨c, e1, e2⟩ := Option.map_eq_some_iff.mp e
  subst e2
  have e1' : z.cps[i]? = some c := by rw [← Array.getElem?_toList]; exact e1
  refine ⟨?_, fun x H'' ⟨z1, c', z2, z3⟩ => ?_⟩
  · show i < z.cps.size
    have := (List.getElem?_eq_some_iff.mp e1).1
    rw [Array.length_toList] at this; exact this
  · subst z1 z3
    rw [e1'] at z2; cases z2
    exact ⟨G', Gro.refl s2, .str _⟩
theorem itOk_rng (a b : Int) : ItOk K G (Itr a (b - a).toNat) (rngL a b) := by
  intro i G' H' s1 s2
  have hl : (rngL a b).length = (b - a).toNat := by unfold rngL; rw [List.length_map, List.length_range]
  refine ⟨fun d e => ?_, fun e => by rw [hl] at e; exact e⟩
  have hi : i < (b - a).toNat := by rw [← hl]; exact (List.getElem?_eq_some_iff.mp e).1
  refine ⟨hi, fun x H'' ⟨z1, z2⟩ => ?_⟩
  subst z1 z2
  unfold rngL at e
  rw [List.getElem?_map, List.getElem?_range hi] at e
  cases e
  exact ⟨G', Gro.refl s2, .int _⟩
theorem allKey1 (kvs : List (Key × V)) : (kvs.map fun p => keyD p.1).all (fun k => k.key1.isSome) = true := by
  rw [List.all_map]
  exact List.all_eq_true.mpr fun p _ => by simp [key1_keyD]
theorem noKey1 {xs : TX} {ks : List D} (l : RepL K G (xs.map fun x => V.ref x.2.1) ks) (ne : xs ≠ []) : ¬ ks.all (fun k => k.key1.isSome) = true := fun h => by
  cases xs with
  | nil => exact ne rfl
  | cons x xs =>
    cases l with
    | @cons _ _ d ds h1 l =>
      rw [List.all_cons, Bool.and_eq_true] at h
      have hn : d.key1 = none := by cases h1 <;> rfl
      rw [hn] at h
      exact absurd h.1 (by simp)
theorem itOk_keys {a : Addr} {ob : Obj} {kvs : List (Key × V)} (h : G a = some (.frz ob (.dK kvs))) : ItOk K G (Itk a ob kvs) (kvs.map fun p => keyD p.1) := by
  intro i G' H' s1 s2
  have hH := s2 _ _ (s1 _ _ h)
  refine ⟨fun d e => ?_, fun e => ⟨hH, by simpa using e⟩⟩
  rw [List.getElem?_map] at e
  obtain ⟨p, e1, rfl⟩ := Option.map_eq_some_iff.mp e
  refine ⟨⟨hH, (List.getElem?_eq_some_iff.mp e1).1⟩, fun x H'' ⟨z1, k, v, z2, z3⟩ => ?_⟩
  subst z1 z3
  rw [e1] at z2; cases z2
  refine ⟨G', Gro.refl s2, ?_⟩
  cases k with
  | inl i => exact .int i
  | inr x => exact .str x
theorem itOk_keysX {a : Addr} {ob : Obj} {xs : TX} {ks : List D} (h : G a = some (.frz ob (tdO a xs))) (l : RepL K G (xs.map fun x => V.ref x.2.1) ks) : ItOk K G (Itx a ob xs) ks := by
  intro i G' H' s1 s2
  have hH := s2 _ _ (s1 _ _ h)
  have len := l.length
  rw [List.length_map] at len
  refine ⟨fun d e => ?_, fun e => ⟨hH, by omega⟩⟩
  obtain ⟨v, e1, r⟩ := l.get e
  rw [List.getElem?_map] at e1
  obtain ⟨z, e2, rfl⟩ := Option.map_eq_some_iff.mp e1
  refine ⟨⟨hH, (List.getElem?_eq_some_iff.mp e2).1⟩, fun x H'' ⟨z1, y, z2, z3⟩ => ?_⟩
  subst z1 z3
  rw [e2] at z2; cases z2
  exact ⟨G', Gro.refl s2, r.mono s1⟩
theorem itOk_items {a : Addr} {ob : Obj} {kvs : List (Key × V)} {ws : List D} (h : G a = some (.frz ob (.dK kvs))) (l : RepL K G (kvs.map fun p => p.2) ws) : ItOk K G (Iti a ob kvs) (((kvs.map fun p => keyD p.1).zip ws).map fun p => .tup [p.1, p.2]) := by
  intro i G' H' s1 s2
  have hH := s2 _ _ (s1 _ _ h)
  have len := l.length
  rw [List.length_map] at len
  refine ⟨fun d e => ?_, fun e => ⟨hH, by simp only [List.length_map, List.length_zip] at e; omega⟩⟩
  rw [List.getElem?_map] at e
  obtain ⟨p, e1, rfl⟩ := Option.map_eq_some_iff.mp e
  obtain ⟨e2, e3⟩ := List.getElem?_zip_eq_some.mp e1
  rw [List.getElem?_map] at e2
  obtain ⟨kv, e4, e5⟩ := Option.map_eq_some_iff.mp e2
  obtain ⟨v, e6, r⟩ := l.get e3
  rw [List.getElem?_map, e4] at e6
  simp only [Option.map_some, Option.some.injEq] at e6
  refine ⟨⟨hH, (List.getElem?_eq_some_iff.mp e4).1⟩, fun x H'' ⟨Tp, k, v', z2, z3, z4, z5⟩ => ?_⟩
  subst z3 z5
  rw [e4] at z2; cases z2
  subst e6
  refine ⟨upd G' Tp (.tup [kV k, v']), Gro.new s2 z4, ?_⟩
  have rk : Rep K G' (kV k) p.1 := by
    rw [← e5]
    cases k with
    | inl i => exact .int i
    | inr x => exact .str x
  exact Rep.newTup (K := K) s2 z4 (RepL.cons rk (RepL.cons (r.mono s1) RepL.nil))
theorem dit_ok {f : List Sl → Rs T} {R : It → Hp → Prop} (h : tMI K B H0 (fun ρ => (asD (f ρ)).bind fun r => (ditF r.1).map fun xs => (xs, r.2)) σ H R) : iItems (tM K B H0 f) σ H R := by
  obtain ⟨G, ρ, ds, ρ', s, e, q⟩ := h
  obtain ⟨⟨d, ρ1⟩, e1, e⟩ := Option.bind_eq_some_iff.mp e
  obtain ⟨xs, e2, e⟩ := Option.map_eq_some_iff.mp e
  cases e
  obtain ⟨t, ρ2, e3, e4⟩ := asD_inv e1
  dsimp only at e2
  unfold ditF at e2
  split at e2
  · rename_i ks ws _
    split at e2
    · rename_i hk
      cases e2
      refine ⟨G, ρ, t, ρ2, s, e3, fun v G1 H1 E1 T1 => ?_⟩
      obtain ⟨G2, E2, _, r⟩ := settle_ok E1 T1 e4
      generalize hh : D.dic ks ws = dd at r
      cases r with
      | @dicS a ob kvs ws h1 l =>
        cases hh
        exact ⟨_, _, _, rfl, E2.s1.sub _ _ h1, q _ G2 H1 E2 (itOk_items h1 l)⟩
      | @dicT a ob xs ks' vs' h1 l1 m l2 =>
        cases hh
        exact absurd hk (noKey1 l1 m.2)
      | _ => cases hh
    · cases e2
  · cases e2
theorem seq_ok {f : List Sl → Rs T} {R : It → Hp → Prop} (h : tMI K B H0 (fun ρ => (asD (f ρ)).bind fun r => (items r.1).map fun xs => (xs, r.2)) σ H R) :
    ((iList K (tM K B H0 f) σ H R ∨ iTup K (tM K B H0 f) σ H R) ∨ iStr (tM K B H0 f) σ H R) ∨ (iKeys (tM K B H0 f) σ H R ∨ iKeysX (tM K B H0 f) σ H R) := by
  obtain ⟨G, ρ, ds, ρ', s, e, q⟩ := h
  obtain ⟨⟨d, ρ1⟩, e1, e⟩ := Option.bind_eq_some_iff.mp e
  obtain ⟨xs, e2, e⟩ := Option.map_eq_some_iff.mp e
  cases e
  obtain ⟨t, ρ2, e3, e4⟩ := asD_inv e1
  dsimp only at e2
  unfold items at e2
  split at e2
  · cases e2
    refine .inl (.inl (.inr ⟨G, ρ, t, ρ2, s, e3, fun v G1 H1 E1 T1 => ?_⟩))
    obtain ⟨G2, E2, _, r⟩ := settle_ok E1 T1 e4
    obtain ⟨a, vs, rfl, h1, l⟩ := Rep.tupI r
    exact ⟨a, rfl, ⟨vs, sqT_mono E2.s1.sub h1⟩, q _ G2 H1 E2 (itOk_tup h1 l)⟩
  · cases e2
    refine .inl (.inl (.inl ⟨G, ρ, t, ρ2, s, e3, fun v G1 H1 E1 T1 => ?_⟩))
    obtain ⟨G2, E2, _, r⟩ := settle_ok E1 T1 e4
    cases r with
    | lst h1 l => exact ⟨_, rfl, ⟨_, .inl (.inl (E2.s1.sub _ _ h1))⟩, q _ G2 H1 E2 (itOk_list h1 l)⟩
  · cases e2
    refine .inl (.inr ⟨G, ρ, t, ρ2, s, e3, fun v G1 H1 E1 T1 => ?_⟩)
    obtain ⟨G2, E2, _, r⟩ := settle_ok E1 T1 e4
    cases r
    exact ⟨_, rfl, q _ G2 H1 E2 (itOk_str _)⟩
  · rename_i ks ws _
    cases e2
    by_cases hk : ds.all (fun k => k.key1.isSome) = true
    · refine .inr (.inl ⟨G, ρ, t, ρ2, s, e3, fun v G1 H1 E1 T1 => ?_⟩)
      obtain ⟨G2, E2, _, r⟩ := settle_ok E1 T1 e4
      generalize hh : D.dic ds ws = dd at r
      cases r with
      | @dicS a ob kvs ws h1 l =>
        cases hh
        exact ⟨_, _, rfl, .inl ⟨_, E2.s1.sub _ _ h1, q _ G2 H1 E2 (itOk_keys h1)⟩⟩
      | @dicT a ob xs ks' vs' h1 l1 m l2 =>
        cases hh
        exact absurd hk (noKey1 l1 m.2)
      | _ => cases hh
    · refine .inr (.inr ⟨G, ρ, t, ρ2, s, e3, fun v G1 H1 E1 T1 => ?_⟩)
      obtain ⟨G2, E2, _, r⟩ := settle_ok E1 T1 e4
      generalize hh : D.dic ds ws = dd at r
      cases r with
      | @dicS a ob kvs ws h1 l =>
        cases hh
        exact absurd (allKey1 kvs) hk
      | @dicT a ob xs ks' vs' h1 l1 m l2 =>
        cases hh
        exact ⟨_, _, _, rfl, E2.s1.sub _ _ h1, q _ G2 H1 E2 (itOk_keysX h1 l1)⟩
      | _ => cases hh
  · cases e2
theorem rngF_inv {ds zs : List D} (h : rngF ds = some zs) : (∃ b, ds = [.int b] ∧ -(2 ^ 62) ≤ b ∧ b < 2 ^ 62 ∧ zs = rngL 0 b) ∨ (∃ a b, ds = [.int a, .int b] ∧ (-(2 ^ 62) ≤ a ∧ a < 2 ^ 62 ∧ -(2 ^ 62) ≤ b ∧ b < 2 ^ 62) ∧ zs = rngL a b) := by
  unfold rngF at h
  split at h
  · split at h
    · rename_i b hz; cases h; exact .inl ⟨b, rfl, hz.1, hz.2, rfl⟩
    · cases h
  · split at h
    · rename_i a b hz; cases h; exact .inr ⟨a, b, rfl, hz, rfl⟩
    · cases h
  · cases h
theorem rng_ok {g : List Sl → Rs (List T)} {R : It → Hp → Prop} (h : tMI K B H0 (fun ρ => (g ρ).bind fun r => (views r.2 r.1).bind fun ds => (rngF ds).map fun xs => (xs, r.2)) σ H R) :
    tMA K B H0 g σ H fun vs H1 => (∃ j : Int, vs = [.int j] ∧ -(2 ^ 62) ≤ j ∧ j < 2 ^ 62 ∧ R (Itr 0 j.toNat) H1) ∨ (∃ i j : Int, vs = [.int i, .int j] ∧ (-(2 ^ 62) ≤ i ∧ i < 2 ^ 62 ∧ -(2 ^ 62) ≤ j ∧ j < 2 ^ 62) ∧ R (Itr i (j - i).toNat) H1) := by
  obtain ⟨G, ρ, ds, ρ', s, e, q⟩ := h
  obtain ⟨⟨ts, ρ1⟩, e1, e⟩ := Option.bind_eq_some_iff.mp e
  obtain ⟨xs, e2, e⟩ := Option.bind_eq_some_iff.mp e
  obtain ⟨zs, e3, e⟩ := Option.map_eq_some_iff.mp e
  cases e
  refine ⟨G, ρ, ts, ρ1, s, e1, fun vs G1 H1 E1 T1 => ?_⟩
  have w := views_ok E1.s1 T1 e2
  rcases rngF_inv e3 with ⟨b, rfl, h1, h2, rfl⟩ | ⟨a, b, rfl, h1, rfl⟩
  · obtain ⟨v, rfl, w1⟩ := w.one
    cases VRep.int w1
    refine .inl ⟨b, rfl, h1, h2, q _ G1 H1 E1 ?_⟩
    have := itOk_rng (K := K) (G := G1) 0 b
    rw [Int.sub_zero] at this; exact this
  · obtain ⟨v, v', rfl, w1, w2⟩ := w.two
    cases VRep.int w1; cases VRep.int w2
    exact .inr ⟨a, b, rfl, h1, q _ G1 H1 E1 (itOk_rng a b)⟩
end
end Fw

set_option maxHeartbeats 4000000
/-! FwZ: zip of a list or a tuple with a list or a tuple (the layer has the two even cases alone). A Bool says which: true is a tuple. -/
namespace FwZ
open PySem PySem.Spec PyProof.Rows L2 RZ

def ItrAt (k : Bool) (h : Heap) (it l : Addr) (i : Nat) : Prop := match k with
  | true => h.IsTupleIter it l i
  | false => h.IsListIter it l i
def SqAt (k : Bool) (h : Heap) (l : Addr) (xs : Array Value) : Prop := match k with
  | true => h.IsTuple l xs
  | false => h.IsList l xs
theorem ItrAt.mv {k : Bool} {h h' : Heap} {it l : Addr} {i : Nat} (p : ItrAt k h it l i) (e : ∀ o, h.get? it = some o → h'.get? it = some o) : ItrAt k h' it l i := by
  cases k with
  | true => obtain ⟨o, q, r⟩ := p; exact ⟨o, e o q, r⟩
  | false => obtain ⟨o, q, r⟩ := p; exact ⟨o, e o q, r⟩
theorem SqAt.mv {k : Bool} {h h' : Heap} {l : Addr} {xs : Array Value} (p : SqAt k h l xs) (e : ∀ o, h.get? l = some o → h'.get? l = some o) : SqAt k h' l xs := by
  cases k with
  | true => obtain ⟨o, q, r⟩ := p; exact ⟨o, e o q, r⟩
  | false => obtain ⟨o, q, r⟩ := p; exact ⟨o, e o q, r⟩
theorem ItrAt.lt {k : Bool} {h : Heap} {it l : Addr} {i : Nat} (p : ItrAt k h it l i) : it < h.objs.size := by
  cases k with
  | true => obtain ⟨o, q, r⟩ := p; exact Heap.lt_size q
  | false => obtain ⟨o, q, r⟩ := p; exact Heap.lt_size q
theorem SqAt.lt {k : Bool} {h : Heap} {l : Addr} {xs : Array Value} (p : SqAt k h l xs) : l < h.objs.size := by
  cases k with
  | true => obtain ⟨o, q, r⟩ := p; exact Heap.lt_size q
  | false => obtain ⟨o, q, r⟩ := p; exact Heap.lt_size q
section
variable {prog : Program} {w : World} {A : Around} {E : Value → Shared → Prop} {s : Shared} {k k1 k2 : Bool}
theorem nx_item {it l : Addr} {i : Nat} {items : Array Value} {x : Value} {Q : Value → Shared → Prop} (p : ItrAt k s.heap it l i) (q : SqAt k s.heap l items) (hx : items[i]? = some x)
    (hQ : ∀ h', ItrAt k h' it l (i + 1) → Heap.SameBut it s.heap h' → Q x { s with heap := h' }) : wpAny (model prog w) A (Builtin.SmallTypes.nextOf (.ref it)) Q E s := by
  cases k with
  | true => exact nextOf_tuple_item p q hx hQ
  | false => exact wpAny_nextOf_list_item p q hx hQ
theorem nx_end {it l : Addr} {i : Nat} {items : Array Value} {Q : Value → Shared → Prop} (hh : A.handled = none) (p : ItrAt k s.heap it l i) (q : SqAt k s.heap l items) (hx : items[i]? = none)
    (hE : ∀ h' e, Heap.ExtBut it s.heap h' → (∃ o, h'.get? e = some o ∧ o.cls = .type "StopIteration") → E (.ref e) { s with heap := h' }) : wpAny (model prog w) A (Builtin.SmallTypes.nextOf (.ref it)) Q E s := by
  cases k with
  | true => exact nextOf_tuple_end hh p q hx hE
  | false => exact wpAny_nextOf_list_end hh p q hx hE

/-- what is not one of the zip's own objects -/
def Off (z TO i1 i2 : Addr) (h h' : Heap) : Prop := ∀ c o, c ≠ z → c ≠ TO → c ≠ i1 → c ≠ i2 → h.get? c = some o → h'.get? c = some o
theorem mixed_item {z TI TO i1 i2 l1 l2 : Addr} {m : Nat} {xs ys : Array Value} {x y a b : Value} {Q : Value → Shared → Prop} (D : ZipApart z TI TO i1 i2 l1 l2)
    (gz : IsZip s.heap z TI TO .none) (gI : IsPair s.heap TI (.ref i1) (.ref i2)) (gO : IsPair s.heap TO a b)
    (p1 : ItrAt k1 s.heap i1 l1 m) (p2 : ItrAt k2 s.heap i2 l2 m) (q1 : SqAt k1 s.heap l1 xs) (q2 : SqAt k2 s.heap l2 ys) (hx : xs[m]? = some x) (hy : ys[m]? = some y)
    (fin : ∀ h', IsZip h' z TI TO (rawInt s.heap.objs.size) → IsPair h' TO x y → ItrAt k1 h' i1 l1 (m + 1) → ItrAt k2 h' i2 l2 (m + 1) → IsPair h' s.heap.objs.size x y → Off z TO i1 i2 s.heap h' → Q (.ref s.heap.objs.size) { s with heap := h' }) :
    wpAny (model prog w) A (Builtin.«zip.__next__» ⟨[.ref z], []⟩) (fun fin s' => ∃ v, fin = .done (.ret v) ∧ Q v s') E s := by
  show wpAny _ _ (field (.ref z) 2 >>= _) _ _ _
  refine wpAny_bind (wpAny_field gz rfl (x := .bool false) rfl ?_)
  show wpAny _ _ (field (.ref z) 3 >>= _) _ _ _
  refine wpAny_bind (wpAny_field gz rfl (x := .ref TI) rfl ?_)
  refine wpAny_bind (wpAny_seqItems gI rfl ?_)
  show wpAny _ _ (Builtin.SmallTypes.ownedTupleIsFree (.ref z) >>= _) _ _ _
  refine wpAny_bind ?_
  unfold Builtin.SmallTypes.ownedTupleIsFree
  refine wpAny_bind (wpAny_field gz rfl (x := .none) rfl (wpAny_pure ?_))
  simp only [if_true]
  refine wpAny_bind (wpAny_rule ?_)
  refine wpAny_bind (wpAny_field gz rfl (x := .ref TO) rfl ?_)
  refine wpAny_bind (wpAny_setField_rec gz (by simp) fun ha za sa => ?_)
  replace za : IsZip ha z TI TO .ellipsis := za
  have ea := sa.extBut
  refine wpAny_bind ?_
  simp only [List.zipIdx_cons, List.zipIdx_nil, List.forIn_cons, List.forIn_nil]
  refine wpAny_bind (wpAny_bind (wpAny_onRaise ?_))
  show wpAny _ _ (Builtin.SmallTypes.nextOf (.ref i1) >>= _) _ _ _
  refine wpAny_bind (nx_item (p1.mv fun o => ea _ o D.i1z) (q1.mv fun o => ea _ o D.l1z) hx fun hb pb sb => wpAny_pure ?_)
  have eb := sb.extBut
  have ob : IsPair hb TO a b := eb _ _ D.TOi1 (ea _ _ D.TOz gO)
  refine wpAny_bind (wpAny_seqItems ob rfl ?_)
  refine wpAny_bind (wpAny_updateSeq_pair ob fun hc oc sc => ?_)
  have ec := sc.extBut
  replace oc : IsPair hc TO x b := oc
  refine wpAny_bind (wpAny_letGo (wpAny_pure ?_))
  refine wpAny_bind (wpAny_bind (wpAny_onRaise ?_))
  show wpAny _ _ (Builtin.SmallTypes.nextOf (.ref i2) >>= _) _ _ _
  refine wpAny_bind (nx_item (p2.mv fun o q => ec _ o D.TOi2.symm (eb _ o D.i12.symm (ea _ o D.i2z q))) (q2.mv fun o q => ec _ o D.l2TO (eb _ o D.l2i1 (ea _ o D.l2z q))) hy fun hd pd sd => wpAny_pure ?_)
  have ed := sd.extBut
  have od : IsPair hd TO x b := ed _ _ D.TOi2 oc
  refine wpAny_bind (wpAny_seqItems od rfl ?_)
  refine wpAny_bind (wpAny_updateSeq_pair od fun he oe se => ?_)
  have ee := se.extBut
  replace oe : IsPair he TO x y := oe
  refine wpAny_bind (wpAny_letGo (wpAny_pure (wpAny_pure ?_)))
  refine wpAny_bind (wpAny_seqItems oe rfl ?_)
  refine wpAny_bind (wpAny_newTuple ?_)
  have sz : he.objs.size = s.heap.objs.size := by rw [se.1, sd.1, sc.1, sb.1, sa.1]
  have ze : IsZip he z TI TO .ellipsis := ee _ _ D.TOz.symm (ed _ _ D.i2z.symm (ec _ _ D.TOz.symm (eb _ _ D.i1z.symm za)))
  have off : Off z TO i1 i2 s.heap he := fun c o c1 c2 c3 c4 e => ee _ _ c2 (ed _ _ c4 (ec _ _ c2 (eb _ _ c3 (ea _ _ c1 e))))
  have pe1 : ItrAt k1 he i1 l1 (m + 1) := pb.mv fun o q => ee _ o D.TOi1.symm (ed _ o D.i12 (ec _ o D.TOi1.symm q))
  have pe2 : ItrAt k2 he i2 l2 (m + 1) := pd.mv fun o q => ee _ o D.TOi2.symm q
  have zl : z < he.objs.size := Heap.lt_size ze
  show wpAny _ _ (Builtin.SmallTypes.ownedTupleHandOut (.ref z) (.ref he.objs.size) >>= _) _ _ _
  refine wpAny_bind ?_
  unfold Builtin.SmallTypes.ownedTupleHandOut
  have zf : IsZip (he.push { cls := .type "tuple", data := .seq #[x, y] }) z TI TO .ellipsis := Heap.get?_push_of_some _ ze
  refine wpAny_bind (wpAny_setField_rec zf (by simp) fun hf zg sf => ?_)
  replace zg : IsZip hf z TI TO (rawInt he.objs.size) := zg
  refine wpAny_setField_rec zg (by simp) fun hg zh sg => ?_
  replace zh : IsZip hg z TI TO (rawInt he.objs.size) := zh
  have up : ∀ c o, c ≠ z → (he.push { cls := .type "tuple", data := .seq #[x, y] }).get? c = some o → hg.get? c = some o := fun c o c1 e => sg.extBut _ _ c1 (sf.extBut _ _ c1 e)
  have tg : IsPair hg he.objs.size x y := up _ _ (Nat.ne_of_gt zl) (Heap.get?_push_size _ rfl)
  have up' : ∀ c o, c ≠ z → he.get? c = some o → hg.get? c = some o := fun c o c1 e => up c o c1 (Heap.get?_push_of_some _ e)
  rw [sz] at zh tg
  refine wpAny_pure ⟨_, rfl, ?_⟩
  show Q (.ref he.objs.size) _
  rw [sz]
  exact fin hg zh (up' _ _ D.TOz oe) (pe1.mv fun o => up' _ o D.i1z) (pe2.mv fun o => up' _ o D.i2z) tg fun c o c1 c2 c3 c4 e => up' c o c1 (off c o c1 c2 c3 c4 e)

theorem mixed_end {z TI TO i1 i2 l1 l2 : Addr} {m : Nat} {xs ys : Array Value} {a b : Value} {Q : Fin → Shared → Prop} (hh : A.handled = none) (D : ZipApart z TI TO i1 i2 l1 l2)
    (gz : IsZip s.heap z TI TO .none) (gI : IsPair s.heap TI (.ref i1) (.ref i2)) (gO : IsPair s.heap TO a b)
    (p1 : ItrAt k1 s.heap i1 l1 m) (p2 : ItrAt k2 s.heap i2 l2 m) (q1 : SqAt k1 s.heap l1 xs) (q2 : SqAt k2 s.heap l2 ys) (hend : xs[m]? = none ∨ ys[m]? = none)
    (fin : ∀ h' e, Off z TO i1 i2 s.heap h' → (∃ o, h'.get? e = some o ∧ o.cls = .type "StopIteration") → E (.ref e) { s with heap := h' }) :
    wpAny (model prog w) A (Builtin.«zip.__next__» ⟨[.ref z], []⟩) Q E s := by
  show wpAny _ _ (field (.ref z) 2 >>= _) _ _ _
  refine wpAny_bind (wpAny_field gz rfl (x := .bool false) rfl ?_)
  show wpAny _ _ (field (.ref z) 3 >>= _) _ _ _
  refine wpAny_bind (wpAny_field gz rfl (x := .ref TI) rfl ?_)
  refine wpAny_bind (wpAny_seqItems gI rfl ?_)
  show wpAny _ _ (Builtin.SmallTypes.ownedTupleIsFree (.ref z) >>= _) _ _ _
  refine wpAny_bind ?_
  unfold Builtin.SmallTypes.ownedTupleIsFree
  refine wpAny_bind (wpAny_field gz rfl (x := .none) rfl (wpAny_pure ?_))
  simp only [if_true]
  refine wpAny_bind (wpAny_rule ?_)
  refine wpAny_bind (wpAny_field gz rfl (x := .ref TO) rfl ?_)
  refine wpAny_bind (wpAny_setField_rec gz (by simp) fun ha za sa => ?_)
  replace za : IsZip ha z TI TO .ellipsis := za
  have ea := sa.extBut
  refine wpAny_bind ?_
  simp only [List.zipIdx_cons, List.zipIdx_nil, List.forIn_cons, List.forIn_nil]
  refine wpAny_bind (wpAny_bind (wpAny_onRaise ?_))
  show wpAny _ _ (Builtin.SmallTypes.nextOf (.ref i1) >>= _) _ _ _
  have pa := p1.mv (h' := ha) fun o => ea _ o D.i1z
  have qa := q1.mv (h' := ha) fun o => ea _ o D.l1z
  cases hx : xs[m]? with
  | none =>
    refine wpAny_bind (nx_end (s := { s with heap := ha }) hh pa qa hx fun hb e eb re => ?_)
    obtain ⟨oe, ge, ce⟩ := re
    have zb : IsZip hb z TI TO .ellipsis := eb _ _ D.i1z.symm za
    have ne : e ≠ z := fun q => by subst q; rw [zb] at ge; cases ge; simp at ce
    refine wpAny_setField_rec zb (by simp) fun hc _ sc => fin hc e (fun c o c1 _ c3 _ q => sc.extBut _ _ c1 (eb _ _ c3 (ea _ _ c1 q))) ⟨oe, sc.extBut _ _ ne ge, ce⟩
  | some x =>
    have hy : ys[m]? = none := hend.elim (fun q => by rw [hx] at q; cases q) id
    refine wpAny_bind (nx_item (s := { s with heap := ha }) pa qa hx fun hb pb sb => wpAny_pure ?_)
    have eb := sb.extBut
    have ob : IsPair hb TO a b := eb _ _ D.TOi1 (ea _ _ D.TOz gO)
    refine wpAny_bind (wpAny_seqItems ob rfl ?_)
    refine wpAny_bind (wpAny_updateSeq_pair ob fun hc oc sc => ?_)
    have ec := sc.extBut
    refine wpAny_bind (wpAny_letGo (wpAny_pure ?_))
    refine wpAny_bind (wpAny_bind (wpAny_onRaise ?_))
    show wpAny _ _ (Builtin.SmallTypes.nextOf (.ref i2) >>= _) _ _ _
    refine wpAny_bind (nx_end (s := { s with heap := hc }) hh (p2.mv fun o q => ec _ o D.TOi2.symm (eb _ o D.i12.symm (ea _ o D.i2z q))) (q2.mv fun o q => ec _ o D.l2TO (eb _ o D.l2i1 (ea _ o D.l2z q))) hy fun hd e ed re => ?_)
    obtain ⟨oe, ge, ce⟩ := re
    have zd : IsZip hd z TI TO .ellipsis := ed _ _ D.i2z.symm (ec _ _ D.TOz.symm (eb _ _ D.i1z.symm za))
    have ne : e ≠ z := fun q => by subst q; rw [zd] at ge; cases ge; simp at ce
    refine wpAny_setField_rec zd (by simp) fun hf _ sf => fin hf e (fun c o c1 c2 c3 c4 q => sf.extBut _ _ c1 (ed _ _ c4 (ec _ _ c2 (eb _ _ c3 (ea _ _ c1 q))))) ⟨oe, sf.extBut _ _ ne ge, ce⟩

theorem mixed_next {z TI TO i1 i2 l1 l2 : Addr} {m : Nat} {xs ys : Array Value} {x y a b : Value} {Q : Option Value → Shared → Prop} (D : ZipApart z TI TO i1 i2 l1 l2)
    (gz : IsZip s.heap z TI TO .none) (gI : IsPair s.heap TI (.ref i1) (.ref i2)) (gO : IsPair s.heap TO a b)
    (p1 : ItrAt k1 s.heap i1 l1 m) (p2 : ItrAt k2 s.heap i2 l2 m) (q1 : SqAt k1 s.heap l1 xs) (q2 : SqAt k2 s.heap l2 ys) (hx : xs[m]? = some x) (hy : ys[m]? = some y)
    (fin : ∀ h', IsZip h' z TI TO (rawInt s.heap.objs.size) → IsPair h' TO x y → ItrAt k1 h' i1 l1 (m + 1) → ItrAt k2 h' i2 l2 (m + 1) → IsPair h' s.heap.objs.size x y → Off z TO i1 i2 s.heap h' → Q (some (.ref s.heap.objs.size)) { s with heap := h' }) :
    wpAny (model prog w) A (pyNext (.ref z)) Q E s := by
  have ty : s.TypeIs (.ref z) "zip" := ⟨_, gz, rfl⟩
  unfold pyNext
  refine wpAny_bind (wpAny_attempt (wpAny_callSpecial?_slot (name := Str.ofString "__next__") ty F.slot_zip_next (wpAny_call_entry F.slot_zip_next ty F.entry_zip_next ?_ (F.args_zip_next_1 _))))
  exact mixed_item D gz gI gO p1 p2 q1 q2 hx hy fun h' a1 a2 a3 a4 a5 a6 => wpAny_pure (fin h' a1 a2 a3 a4 a5 a6)
theorem mixed_over {z TI TO i1 i2 l1 l2 : Addr} {m : Nat} {xs ys : Array Value} {a b : Value} {Q : Option Value → Shared → Prop} (hh : A.handled = none) (D : ZipApart z TI TO i1 i2 l1 l2)
    (gz : IsZip s.heap z TI TO .none) (gI : IsPair s.heap TI (.ref i1) (.ref i2)) (gO : IsPair s.heap TO a b)
    (p1 : ItrAt k1 s.heap i1 l1 m) (p2 : ItrAt k2 s.heap i2 l2 m) (q1 : SqAt k1 s.heap l1 xs) (q2 : SqAt k2 s.heap l2 ys) (hend : xs[m]? = none ∨ ys[m]? = none)
    (fin : ∀ h', Off z TO i1 i2 s.heap h' → Q none { s with heap := h' }) : wpAny (model prog w) A (pyNext (.ref z)) Q E s := by
  have ty : s.TypeIs (.ref z) "zip" := ⟨_, gz, rfl⟩
  unfold pyNext
  refine wpAny_bind (wpAny_attempt (wpAny_callSpecial?_slot (name := Str.ofString "__next__") ty F.slot_zip_next (wpAny_call_entry F.slot_zip_next ty F.entry_zip_next ?_ (F.args_zip_next_1 _))))
  refine mixed_end hh D gz gI gO p1 p2 q1 q2 hend fun h' e off ⟨o, ho, hc⟩ => ?_
  exact wpAny_bind (wpAny_isInstance (T := "StopIteration") (b := true) ⟨o, ho, hc⟩ isSubtype_stop (wpAny_pure (fin _ off)))
end

/-! ### the call -/
def itObj (k : Bool) (l : Addr) : Obj := { cls := .type (match k with | true => "tuple_iterator" | false => "list_iterator"), data := .fields #[.ref l, .int 0 0] }
abbrev hz1 (k1 : Bool) (h : Heap) (l1 : Addr) : Heap := h.push (itObj k1 l1)
abbrev hz2 (k1 k2 : Bool) (h : Heap) (l1 l2 : Addr) : Heap := (hz1 k1 h l1).push (itObj k2 l2)
abbrev hz3 (k1 k2 : Bool) (h : Heap) (l1 l2 : Addr) : Heap := (hz2 k1 k2 h l1 l2).push { cls := .type "tuple", data := .seq #[.ref h.objs.size, .ref (hz1 k1 h l1).objs.size] }
abbrev hz4 (k1 k2 : Bool) (h : Heap) (l1 l2 : Addr) : Heap := (hz3 k1 k2 h l1 l2).push { cls := .type "tuple", data := .seq #[.none, .none] }
abbrev hz5 (k1 k2 : Bool) (h : Heap) (l1 l2 : Addr) : Heap := (hz4 k1 k2 h l1 l2).push { cls := .type "zip", data := .fields #[.none, .bool false, .bool false, .ref (hz2 k1 k2 h l1 l2).objs.size, .ref (hz3 k1 k2 h l1 l2).objs.size] }
theorem mixed_tl (l1 l2 : Addr) (xs ys : Array Value) :
    Meets (Builtin.«zip.__new__» ⟨[.type "zip", .ref l1, .ref l2], []⟩) (fun _ R s => s.heap.IsTuple l1 xs ∧ s.heap.IsList l2 ys ∧ R (.ok (.ret (.ref (hz4 true false s.heap l1 l2).objs.size))) { s with heap := hz5 true false s.heap l1 l2 }) :=
  .of_wp fun prog w A R s h => by
    obtain ⟨hp, g, d, tk, os⟩ := s; obtain ⟨t1, t2, h⟩ := h
    have hsub := sub_zip
    have u1 : Heap.IsTuple (Shared.heap ⟨hp, g, d, tk, os⟩) l1 xs := t1
    have u2 : Heap.IsList (Shared.heap ⟨hp.push { cls := .type "tuple_iterator", data := .fields #[.ref l1, .int 0 0] }, g, d, tk, os⟩) l2 ys := Heap.IsList.push t2 _
    wp_walk using wpAny_pyIter_tuple u1, wpAny_pyIter_list u2
    exact ⟨_, rfl, h⟩
theorem mixed_lt (l1 l2 : Addr) (xs ys : Array Value) :
    Meets (Builtin.«zip.__new__» ⟨[.type "zip", .ref l1, .ref l2], []⟩) (fun _ R s => s.heap.IsList l1 xs ∧ s.heap.IsTuple l2 ys ∧ R (.ok (.ret (.ref (hz4 false true s.heap l1 l2).objs.size))) { s with heap := hz5 false true s.heap l1 l2 }) :=
  .of_wp fun prog w A R s h => by
    obtain ⟨hp, g, d, tk, os⟩ := s; obtain ⟨t1, t2, h⟩ := h
    have hsub := sub_zip
    have u1 : Heap.IsList (Shared.heap ⟨hp, g, d, tk, os⟩) l1 xs := t1
    have u2 : Heap.IsTuple (Shared.heap ⟨hp.push { cls := .type "list_iterator", data := .fields #[.ref l1, .int 0 0] }, g, d, tk, os⟩) l2 ys := Heap.IsTuple.push t2 _
    wp_walk using wpAny_pyIter_list u1, wpAny_pyIter_tuple u2
    exact ⟨_, rfl, h⟩
theorem mixed_new (k1 k2 : Bool) (l1 l2 : Addr) (xs ys : Array Value) :
    Meets (Builtin.«zip.__new__» ⟨[.type "zip", .ref l1, .ref l2], []⟩) (fun _ R s => SqAt k1 s.heap l1 xs ∧ SqAt k2 s.heap l2 ys ∧ R (.ok (.ret (.ref (hz4 k1 k2 s.heap l1 l2).objs.size))) { s with heap := hz5 k1 k2 s.heap l1 l2 }) := by
  cases k1 with
  | true => cases k2 with
    | true => exact meets_zipT_new l1 l2 xs ys
    | false => exact mixed_tl l1 l2 xs ys
  | false => cases k2 with
    | true => exact mixed_lt l1 l2 xs ys
    | false => exact meets_zip_new l1 l2 xs ys
section
variable {prog : Program} {w : World} {A : Around} {E : Value → Shared → Prop} {s : Shared} {k1 k2 : Bool}
theorem call_mixed {l1 l2 : Addr} {xs ys : Array Value} {Q : Value → Shared → Prop} (q1 : SqAt k1 s.heap l1 xs) (q2 : SqAt k2 s.heap l2 ys)
    (h : ∀ h' n, n = s.heap.objs.size → IsZip h' (n + 4) (n + 2) (n + 3) .none → IsPair h' (n + 2) (.ref n) (.ref (n + 1)) → IsPair h' (n + 3) .none .none → ItrAt k1 h' n l1 0 → ItrAt k2 h' (n + 1) l2 0 →
      (∀ c o, s.heap.get? c = some o → h'.get? c = some o) → Q (.ref (n + 4)) { s with heap := h' }) :
    wpAny (model prog w) A (call (.type "zip") [.ref l1, .ref l2]) Q E s := by
  refine callType_new F.called_zip (by decide) (F.typeCall_zip_2 _ _) (F.newCall_zip_2 _ _) (fun obj => F.args_object_init_3 obj _ _) F.entry_zip_new (mixed_new k1 k2 l1 l2 xs ys) ⟨q1, q2, ?_⟩
  have n1 : (hz1 k1 s.heap l1).objs.size = s.heap.objs.size + 1 := Heap.size_push ..
  have n2 : (hz2 k1 k2 s.heap l1 l2).objs.size = s.heap.objs.size + 2 := by rw [Heap.size_push, n1]
  have n3 : (hz3 k1 k2 s.heap l1 l2).objs.size = s.heap.objs.size + 3 := by rw [Heap.size_push, n2]
  have n4 : (hz4 k1 k2 s.heap l1 l2).objs.size = s.heap.objs.size + 4 := by rw [Heap.size_push, n3]
  have o5 : (hz5 k1 k2 s.heap l1 l2).get? (hz4 k1 k2 s.heap l1 l2).objs.size = some _ := Heap.get?_push_size _ rfl
  have up5 : ∀ c o, (hz4 k1 k2 s.heap l1 l2).get? c = some o → (hz5 k1 k2 s.heap l1 l2).get? c = some o := fun c o => Heap.get?_push_of_some _
  have up4 : ∀ c o, (hz3 k1 k2 s.heap l1 l2).get? c = some o → (hz5 k1 k2 s.heap l1 l2).get? c = some o := fun c o q => up5 c o (Heap.get?_push_of_some _ q)
  have up3 : ∀ c o, (hz2 k1 k2 s.heap l1 l2).get? c = some o → (hz5 k1 k2 s.heap l1 l2).get? c = some o := fun c o q => up4 c o (Heap.get?_push_of_some _ q)
  have up2 : ∀ c o, (hz1 k1 s.heap l1).get? c = some o → (hz5 k1 k2 s.heap l1 l2).get? c = some o := fun c o q => up3 c o (Heap.get?_push_of_some _ q)
  have o4 : (hz5 k1 k2 s.heap l1 l2).get? (hz3 k1 k2 s.heap l1 l2).objs.size = some _ := up5 _ _ (Heap.get?_push_size _ rfl)
  have o3 : (hz5 k1 k2 s.heap l1 l2).get? (hz2 k1 k2 s.heap l1 l2).objs.size = some _ := up4 _ _ (Heap.get?_push_size _ rfl)
  have o2 : (hz5 k1 k2 s.heap l1 l2).get? (hz1 k1 s.heap l1).objs.size = some (itObj k2 l2) := up3 _ _ (Heap.get?_push_size _ (by cases k2 <;> rfl))
  have o1 : (hz5 k1 k2 s.heap l1 l2).get? s.heap.objs.size = some (itObj k1 l1) := up2 _ _ (Heap.get?_push_size _ (by cases k1 <;> rfl))
  show _ ∧ _
  rw [n2, n3, n4] at o5
  rw [n1, n2] at o3
  rw [n3] at o4
  rw [n1] at o2
  rw [n4]
  refine ⟨⟨_, o5, rfl⟩, h _ _ rfl o5 o3 o4 ?_ ?_ fun c o q => up2 c o (Heap.get?_push_of_some _ q)⟩
  · cases k1 with
    | true => exact ⟨_, o1, rfl, rfl⟩
    | false => exact ⟨_, o1, rfl, rfl⟩
  · cases k2 with
    | true => exact ⟨_, o2, rfl, rfl⟩
    | false => exact ⟨_, o2, rfl, rfl⟩
end

/-! ### the layer's rule -/
def SqK (k : Bool) (K : PySem.W.Frag) (H : Hp) (a : Addr) (xs : List V) : Prop := match k with
  | true => SqT K H a xs
  | false => SqL K H a xs
def ItzK (k1 k2 : Bool) (K : PySem.W.Frag) (a b : Addr) : It where
  go := fun i H => ∃ (xs ys : List V) (x y : V), SqK k1 K H a xs ∧ SqK k2 K H b ys ∧ xs[i]? = some x ∧ ys[i]? = some y
  yld := fun i H v H' => ∃ T x y, v = .ref T ∧ H T = none ∧ H' = upd H T (.tup [x, y]) ∧ (∀ xs, SqK k1 K H a xs → xs[i]? = some x) ∧ ∀ ys, SqK k2 K H b ys → ys[i]? = some y
  stop := fun i H => ∃ xs ys : List V, SqK k1 K H a xs ∧ SqK k2 K H b ys ∧ (xs.length ≤ i ∨ ys.length ≤ i)
theorem sqK_at {k : Bool} {X : Cx} {pins : List (Addr × Obj)} {σ : L2.St} {H : Hp} {s : Shared} {a : Addr} {xs : List V} (I : Inv X pins σ H s) (h : SqK k X.K H a xs) :
    ∃ its : List Value, Vals xs its ∧ SqAt k s.heap a its.toArray := by
  cases k with
  | true => obtain ⟨its, r, p, _⟩ := I.tuple h; exact ⟨its, r, p⟩
  | false => obtain ⟨its, r, p, _⟩ := I.list h; exact ⟨its, r, p.isList⟩
theorem sqK_inj {k : Bool} {X : Cx} {pins : List (Addr × Obj)} {σ : L2.St} {H : Hp} {s : Shared} {a : Addr} {xs ys : List V} (I : Inv X pins σ H s) (h : SqK k X.K H a xs) (h2 : SqK k X.K H a ys) : xs = ys := by
  cases k with
  | true => exact I.tuple_inj h h2
  | false => exact I.list_inj h h2
def zObjs (n : Nat) : List Addr := [n + 4, n + 2, n + 3, n, n + 1]
theorem zMem {z TI TO i1 i2 c : Addr} (h : c ∈ [z, TI, TO, i1, i2]) : c = z ∨ c = TI ∨ c = TO ∨ c = i1 ∨ c = i2 := by simpa using h
theorem zNot {z TI TO i1 i2 c : Addr} (h : c ∉ [z, TI, TO, i1, i2]) : c ≠ z ∧ c ≠ TI ∧ c ≠ TO ∧ c ≠ i1 ∧ c ≠ i2 := by simpa using h
theorem itr_obj {k : Bool} {h : Heap} {it l : Addr} {i : Nat} (p : ItrAt k h it l i) : ∃ o fs, h.get? it = some o ∧ o.data = .fields fs := by
  cases k with
  | true => obtain ⟨o, q, _, r⟩ := p; exact ⟨o, _, q, r⟩
  | false => obtain ⟨o, q, _, r⟩ := p; exact ⟨o, _, q, r⟩
theorem turn_mixed {P : Program} {w : World} {K : PySem.W.Frag} {k1 k2 : Bool} {elts : List Expr} {kk : Nat} {tpos : Pos} {a b z TI TO i1 i2 : Addr} (D : ZipApart z TI TO i1 i2 a b) :
    Turn P w K (.Tuple elts kk tpos) (ItzK k1 k2 K a b) [z, TI, TO, i1, i2] z (fun i h => IsZip h z TI TO .none ∧ IsPair h TI (.ref i1) (.ref i2) ∧ (∃ x y, IsPair h TO x y) ∧ ItrAt k1 h i1 a i ∧ ItrAt k2 h i2 b i) where
  mem := List.mem_cons_self ..
  obj := fun i h ⟨gz, gI, ⟨x, y, gO⟩, p1, p2⟩ c hc => by
    obtain ⟨o1, f1, e1, d1⟩ := itr_obj p1
    obtain ⟨o2, f2, e2, d2⟩ := itr_obj p2
    rcases zMem hc with rfl | rfl | rfl | rfl | rfl
    · exact ⟨_, gz, fun v q => nomatch q⟩
    · exact ⟨_, gI, fun v q => nomatch q⟩
    · exact ⟨_, gO, fun v q => nomatch q⟩
    · exact ⟨o1, e1, fun v q => by rw [d1] at q; cases q⟩
    · exact ⟨o2, e2, fun v q => by rw [d2] at q; cases q⟩
  keep := fun i h h' ⟨gz, gI, ⟨x, y, gO⟩, p1, p2⟩ k => ⟨k z (by simp) _ gz, k TI (by simp) _ gI, ⟨x, y, k TO (by simp) _ gO⟩, p1.mv fun o q => k i1 (by simp) o q, p2.mv fun o q => k i2 (by simp) o q⟩
  item := by
    intro X hP hw hK hc i pins s σ H E I hf ⟨gz, gI, ⟨x0, y0, gO⟩, p1, p2⟩ ⟨xs, ys, x, y, hx0, hy0, hx, hy⟩
    subst hP hw hK
    obtain ⟨its, r1, q1⟩ := sqK_at I hx0
    obtain ⟨its2, r2, q2⟩ := sqK_at I hy0
    obtain ⟨u, hu, ru⟩ := r1.get hx
    obtain ⟨u2, hu2, ru2⟩ := r2.get hy
    have zl : z < s.heap.objs.size := Heap.lt_size gz
    refine mixed_next D gz gI gO p1 p2 q1 q2 (x := u) (y := u2) (by simpa using hu) (by simpa using hu2) fun h' gz' gO' p1' p2' gT off => ⟨_, rfl, ?_⟩
    refine wpAny_letOwnedTupleGo_zip (s := { s with heap := h' }) gz' fun h2 gz2 sb => ?_
    have eb := sb.extBut
    have gT2 : h2.get? s.heap.objs.size = some { cls := .type "tuple", data := .seq #[u, u2] } := eb _ _ (Nat.ne_of_gt zl) gT
    have new : ObjOk X.prog X.w (upd H s.heap.objs.size (.tup [x, y])) h2 s.heap.objs.size (.tup [x, y]) := ⟨by show 2 ≤ sizeLine; decide, [u, u2], .cons ru (.cons ru2 .nil), ⟨_, gT2, rfl, _, rfl⟩⟩
    have J : Inv X pins σ (upd H s.heap.objs.size (.tup [x, y])) { s with heap := h2 } :=
      I.turnedNew (t' := s.toks) (ch := [z, TI, TO, i1, i2]) (fun c o hb q => by
        obtain ⟨n1, n2, n3, n4, n5⟩ := zNot hb
        exact eb _ _ n1 (off c o n1 n3 n4 n5 q)) hf (Nat.le_refl _) new
    refine ⟨.ref s.heap.objs.size, _, J, rfl, ⟨_, x, y, rfl, I.hok.fresh (Nat.le_refl _), rfl, fun l hl => by rw [sqK_inj I hl hx0]; exact hx, fun l hl => by rw [sqK_inj I hl hy0]; exact hy⟩,
      ⟨gz2, eb _ _ D.TIz (off _ _ D.TIz D.TITO D.TIi1 D.TIi2 gI), ⟨u, u2, eb _ _ D.TOz gO'⟩, p1'.mv fun o => eb _ o D.i1z, p2'.mv fun o => eb _ o D.i2z⟩, fun c hcm => ?_⟩
    have lt : c < s.heap.objs.size := by
      rcases zMem hcm with rfl | rfl | rfl | rfl | rfl
      · exact zl
      · exact Heap.lt_size gI
      · exact Heap.lt_size gO
      · exact p1.lt
      · exact p2.lt
    rw [upd_ne (Nat.ne_of_lt lt)]
    exact (hf c hcm).1
  done := by
    intro X hP hw hK hc i pins s σ H E I hf ⟨gz, gI, ⟨x0, y0, gO⟩, p1, p2⟩ ⟨xs, ys, hx0, hy0, hend⟩
    subst hP hw hK
    obtain ⟨its, r1, q1⟩ := sqK_at I hx0
    obtain ⟨its2, r2, q2⟩ := sqK_at I hy0
    have e1 := r1.length
    have e2 := r2.length
    refine mixed_over (I.ok.hd hc) D gz gI gO p1 p2 q1 q2 (hend.imp (fun q => by simp; omega) (fun q => by simp; omega)) fun h' off => ⟨rfl, I.turnedL (t' := s.toks) (ch := [z, TI, TO, i1, i2]) (fun c o hb q => ?_) hf⟩
    obtain ⟨n1, n2, n3, n4, n5⟩ := zNot hb
    exact off c o n1 n3 n4 n5 q
  self := fun A i s Q E st h => wpAny_pyIter_zip st.1 h
def iZipK (K : PySem.W.Frag) (ta : TA) : TI := fun σ H R => ta σ H fun vs H1 => ∃ k1 k2 a b xs ys, vs = [.ref a, .ref b] ∧ SqK k1 K H1 a xs ∧ SqK k2 K H1 b ys ∧ R (ItzK k1 k2 K a b) H1
theorem pi_zipK {X : Cx} {e e2 : Expr} {ta : TA} {p pos tpos : Pos} {elts : List Expr} {kk : Nat} (hg : Gl X "zip") (hm : X.mg "zip" = none) (ha : PA X [e, e2] ta)
    (hs : starEach [e, e2] X.env = (false, eval e X.env) :: starEach [e2] X.env) (hpl : (backTo pos (starEach [e2] X.env)).any (·.1) = false) :
    PI X (.Tuple elts kk tpos) (.Call (.Name "zip" p) [e, e2] [] pos) (iZipK X.K ta) := by
  refine ⟨fun pins s σ H R I h => Call_ (ld_blt I hg hm PyProof.Rows.boot_zip (PyProof.Rows.callWith_type1 (thn (ha.run pos pins s σ H _ I h) fun us s1 ⟨vs, H1, J, rv, k1, k2, a, b, xs, ys, ex, hx, hy, q⟩ => ?_) hs hpl))⟩
  subst ex
  obtain ⟨ua, ub, rfl, ra, rb⟩ := vals2 rv
  cases ra
  cases rb
  obtain ⟨its, _, q1⟩ := sqK_at J hx
  obtain ⟨its2, _, q2⟩ := sqK_at J hy
  refine call_mixed q1 q2 fun h' n en gz gI gO p1 p2 hk => wpAny_pyIter_zip gz ?_
  refine ⟨n + 4, zObjs n, _, _, H1, rfl, J.kept (t' := s1.toks) hk, turn_mixed (PySem.W.ktu_apart n a b (en ▸ q1.lt) (en ▸ q2.lt)), ⟨gz, gI, ⟨_, _, gO⟩, p1, p2⟩, fun c hc => ?_, q⟩
  have le : s1.heap.objs.size ≤ c := by
    rw [← en]
    rcases zMem hc with rfl | rfl | rfl | rfl | rfl
    · exact Nat.le_add_right _ _
    · exact Nat.le_add_right _ _
    · exact Nat.le_add_right _ _
    · exact Nat.le_refl _
    · exact Nat.le_add_right _ _
  exact J.fpOk le (J.hok.fresh le)
end FwZ

set_option maxHeartbeats 4000000
/-! FwD: a target of names takes a list apart, too. -/
namespace FwD
open PySem PySem.Spec PyProof.Rows L2
section
variable {prog : Program} {w : World} {A : Around} {E : Value → Shared → Prop} {s : Shared}
theorem draw_l {it l : Addr} {items : Array Value} (hne : l ≠ it) : ∀ (n i : Nat) (s : Shared) (Q : List Value → Shared → Prop), s.heap.IsListIter it l i → s.heap.IsList l items → i + n ≤ items.size →
    (∀ h', h'.IsListIter it l (i + n) → Heap.SameBut it s.heap h' → Q ((items.toList.drop i).take n) { s with heap := h' }) → wpAny (model prog w) A (draw (.ref it) n) Q E s
  | 0, i, s, Q, hit, _, _, k => by
    show wpAny _ _ (pure []) Q E s
    exact wpAny_pure (by simpa using k s.heap hit (Heap.SameBut.refl ..))
  | n + 1, i, s, Q, hit, hl, hle, k => by
    have lt : i < items.size := by omega
    show wpAny _ _ (pyNext (.ref it) >>= _) Q E s
    refine wpAny_bind (wpAny_pyNext_list_item hit hl (x := items[i]) (by simp [lt]) fun h1 it1 s1 => ?_)
    refine wpAny_bind (wpAny_holding (draw_l hne n (i + 1) _ _ it1 (hl.extBut s1.extBut hne) (by omega) fun h2 it2 s2 => wpAny_pure ?_))
    have z := k h2 (by rw [show i + (n + 1) = i + 1 + n by omega]; exact it2) (s1.trans s2)
    have e : items.toList.drop i = items[i] :: items.toList.drop (i + 1) := by simp [List.drop_eq_getElem_cons, lt]
    rw [e, List.take_succ_cons] at z
    exact z
theorem unpack_l {l : Addr} {items : Array Value} {targets : List (Bool × (Value → Sem Unit))} {Q : Unit → Shared → Prop} (hh : A.handled = none) (hl : s.heap.IsList l items)
    (hn : targets.length = items.size) (hs : targets.findIdx? (·.1) = none)
    (k : ∀ h', Heap.ExtBut s.heap.objs.size s.heap h' → wpAny (model prog w) A (assignInOrder (targets.map (·.2)) items.toList) Q E { s with heap := h' }) :
    wpAny (model prog w) A (unpack (.ref l) targets) Q E s := by
  have ne : l ≠ s.heap.objs.size := by obtain ⟨o, e, _⟩ := hl; exact Nat.ne_of_lt (Heap.lt_size e)
  unfold unpack
  rw [hn, hs]
  refine wpAny_bind (wpAny_holding ?_)
  unfold unpackItems
  refine wpAny_bind ?_
  unfold notIterableAtAll
  refine wpAny_bind (wpAny_specialOf hl.typeIs slot_list_iter.lookup (wpAny_pure ?_))
  simp only [Bool.false_eq_true, if_false]
  refine wpAny_bind (wpAny_holding (wpAny_pyIter_list hl ?_))
  refine wpAny_bind (wpAny_holding (draw_l ne items.size 0 _ _ ⟨_, Heap.get?_push_size _ rfl, rfl, rfl⟩ (hl.push _) (by omega) fun h1 it1 s1 => ?_))
  have all : (items.toList.drop 0).take items.size = items.toList := by rw [List.drop_zero]; exact List.take_of_length_le (by simp)
  rw [all, if_neg (by simp)]
  refine wpAny_bind (wpAny_holding (wpAny_pyNext_list_end hh it1 ((hl.push _).extBut s1.extBut ne) (by simp) fun h2 e2 => ?_))
  simp only [Option.isSome_none, Bool.false_eq_true, if_false]
  exact wpAny_pure (k h2 fun b o nb e => e2 b o nb (s1.extBut b o nb (Heap.get?_push_of_some _ e)))
end
/-- (a, b, ..) = a tuple or a list of that length -/
def gSeq (K : PySem.W.Frag) (n : Nat) (t : TGs) : TG := fun v σ H Q => ∃ a xs, v = .ref a ∧ (SqT K H a xs ∨ SqL K H a xs) ∧ xs.length = n ∧ t xs σ H Q
section
variable {X : Cx} {pos : Pos}
theorem pg_seq {es : List Expr} {k : Nat} {t : TGs} {n : Nat} (hc : X.calm = true) (h : PGs X es t) (hn : (assignEach es X.env).length = n) (hst : (assignEach es X.env).findIdx? (·.1) = none) : PG X (.Tuple es k pos) (gSeq X.K n t) := by
  refine ⟨fun pins s σ H v u Q I r ⟨a, xs, e1, hq, hl, hw⟩ => ?_⟩
  subst e1
  rcases hq with hq | hq
  · exact (pg_tup hc h hn hst).run pins s σ H _ u Q I r ⟨a, xs, rfl, hq, hl, hw⟩
  · obtain rfl : u = Value.ref a := r
    obtain ⟨its, rv, p, hz⟩ := I.list hq
    rw [assign_Tuple]
    refine wpAny_bind (wpAny_standAt (unpack_l (items := its.toArray) (I.ok.hd hc) p.isList (by rw [hn, List.size_toArray, ← rv.length, hl]) hst fun h' hx => ?_))
    have I1 : Inv X pins σ H { s with heap := h' } := I.kept (t' := s.toks) fun b o e => hx b o (Nat.ne_of_lt (Heap.lt_size e)) e
    exact h.run pins _ σ H xs _ Q I1 (by simpa using rv) hw
end
end FwD

set_option maxHeartbeats 4000000
/-! Fw9: targets; comprehensions. -/
namespace Fw
open PySem PySem.Spec PyProof.Rows L2

mutual
def gT (K : PySem.W.Frag) : Tg → TG
  | .nm i => gName i
  | .tp ts => FwD.gSeq K ts.length (gTs K ts)
def gTs (K : PySem.W.Frag) : List Tg → TGs
  | [] => gNil
  | t :: ts => gCons (gT K t) (gTs K ts)
end
theorem assignEach_len : ∀ (es : List Expr) (env : Env), (assignEach es env).length = es.length
  | [], _ => rfl
  | e :: es, env => by
    have ih := assignEach_len es env
    cases e <;> (show (assignEach es env).length + 1 = es.length + 1; rw [ih])
theorem assignEach_star : ∀ (es : List Expr) (env : Env), (∀ e ∈ es, plainE e = true) → (assignEach es env).findIdx? (·.1) = none
  | [], _, _ => rfl
  | e :: es, env, h => by
    have ih := assignEach_star es env fun x hx => h x (List.mem_cons_of_mem _ hx)
    have hp := h e List.mem_cons_self
    have e1 : ∃ f, assignEach (e :: es) env = (false, f) :: assignEach es env := by
      cases e <;> first | exact ⟨_, rfl⟩ | cases hp
    obtain ⟨f, e1⟩ := e1
    rw [e1, List.findIdx?_cons]
    simp [ih]
theorem okTgs_len {S : Sx} : ∀ {ts : List Tg} {es : List Expr}, okTgs S ts es = true → ts.length = es.length ∧ ∀ e ∈ es, plainE e = true
  | [], es, h => by
    unfold okTgs at h
    cases es with
    | nil => exact ⟨rfl, fun e he => by cases he⟩
    | cons => cases h
  | t :: ts, es, h => by
    unfold okTgs at h
    cases es with
    | nil => cases h
    | cons e es =>
      simp only [Bool.and_eq_true] at h
      obtain ⟨h1, h2⟩ := okTgs_len h.2
      refine ⟨by rw [List.length_cons, List.length_cons, h1], fun x hx => ?_⟩
      rcases List.mem_cons.mp hx with rfl | hx
      · exact h.1.1
      · exact h2 x hx
mutual
theorem pg_ok {n : Nat} {C : Cfg} {B : Fb} {S : Sx} {X : Cx} (c : CxOk n C B S X) : ∀ (t : Tg) (e : Expr), okTg S t e = true → PG X e (gT X.K t)
  | .nm i, e, h => by
    unfold okTg at h
    split at h
    · rename_i x _
      simp only [Bool.and_eq_true, decide_eq_true_eq] at h
      obtain ⟨l1, l2⟩ := c.loc_of h.2
      exact pg_name (by rw [c.N]; exact c.nd) (by rw [c.N]; exact h.1) l1 l2
    · cases h
  | .tp ts, e, h => by
    unfold okTg at h
    split at h
    · rename_i es _ _
      obtain ⟨h1, h2⟩ := okTgs_len h
      exact FwD.pg_seq c.calm (pgs_ok c ts es h) (by rw [assignEach_len, h1]) (assignEach_star _ _ h2)
    · cases h
theorem pgs_ok {n : Nat} {C : Cfg} {B : Fb} {S : Sx} {X : Cx} (c : CxOk n C B S X) : ∀ (ts : List Tg) (es : List Expr), okTgs S ts es = true → PGs X es (gTs X.K ts)
  | [], es, h => by
    unfold okTgs at h
    cases es with
    | nil => exact pgs_nil
    | cons => cases h
  | t :: ts, es, h => by
    unfold okTgs at h
    cases es with
    | nil => cases h
    | cons e es =>
      simp only [Bool.and_eq_true] at h
      exact pgs_cons (pg_ok c t e h.1.2) (pgs_ok c ts es h.2) (assign_ok h.1.1)
end

section
variable {K : PySem.W.Frag} {B : Fb} {H0 G H G' H' G1 H1 G2 H2 Gs Hs : Hp} {σ σ' σ1 σ2 σw : St} {ρ ρ' ρs ρ1 ρ2 : List Sl}
/-- some slots hold new values -/
structure Bd (K : PySem.W.Frag) (B : Fb) (H0 G H : Hp) (σ : St) (ρ : List Sl) (σ' : St) (ρ' : List Sl) (ix : List Nat) : Prop where
  s : StRep K B H0 G H σ' ρ'
  same : ∀ i, i ∉ ix → σ'[i]? = σ[i]? ∧ ρ'[i]? = ρ[i]?
  ow : ∀ b, Ow σ' ρ' b → Ow σ ρ b
  len : σ'.length = σ.length
  only : ∀ i, i ∈ ix → ∃ d, ρ'[i]? = some (.d d)
theorem bind1 {i : Nat} {d : D} {x : V} (s : StRep K B H0 G H σ ρ) (r : Rep K G x d) (hb : bindable ρ i = true) : Bd K B H0 G H σ ρ (σ.set i (some x)) (ρ.set i (.d d)) [i] := by
  have hi : i < ρ.length := by
    unfold bindable at hb
    split at hb <;> first | (cases hb; done) | skip
    rename_i q; exact (List.getElem?_eq_some_iff.mp q).1
  have hi' : i < σ.length := by rw [s.len]; exact hi
  have back : ∀ {j b}, OwnAt (σ.set i (some x)) (ρ.set i (.d d)) j b → OwnAt σ ρ j b := fun {j b} ⟨e1, s1, e2, e3⟩ => by
    rcases getset e2 with ⟨rfl, rfl, _⟩ | ⟨n, e4⟩
    · cases e3
    · rw [List.getElem?_set_ne n] at e1
      exact ⟨e1, s1, e4, e3⟩
  refine ⟨⟨fun j a hB => ?_, s.ali, s.sub, by rw [List.length_set, List.length_set]; exact s.len, fun j s1 e1 => ?_, fun j k b u1 u2 => s.inj j k b (back u1) (back u2), s.bi⟩, fun j hj => ?_, fun b ⟨j, hj⟩ => ⟨j, back hj⟩, by rw [List.length_set], fun j hj => ?_⟩
  · obtain ⟨p1, s1, p2, p3⟩ := s.pin j a hB
    have ne : i ≠ j := fun e => by
      subst e
      unfold bindable at hb
      rw [p2] at hb
      cases s1 <;> first | (cases p3; done) | (cases hb; done)
    exact ⟨by rw [List.getElem?_set_ne ne]; exact p1, s1, by rw [List.getElem?_set_ne ne]; exact p2, p3⟩
  · rcases getset e1 with ⟨rfl, rfl, _⟩ | ⟨n, e4⟩
    · exact ⟨x, by rw [List.getElem?_set_self hi'], r⟩
    · have z := s.at_ j s1 e4
      cases s1 with
      | no => trivial
      | d d => obtain ⟨v, e5, r⟩ := z; exact ⟨v, by rw [List.getElem?_set_ne n]; exact e5, r⟩
      | own o1 => obtain ⟨b, e5, r⟩ := z; exact ⟨b, by rw [List.getElem?_set_ne n]; exact e5, r⟩
      | bor o1 => obtain ⟨b, e5, r⟩ := z; exact ⟨b, by rw [List.getElem?_set_ne n]; exact e5, r⟩
      | fz d => obtain ⟨v, e5, r⟩ := z; exact ⟨v, by rw [List.getElem?_set_ne n]; exact e5, r⟩
  · have ne : i ≠ j := fun e => hj (by simp [e])
    exact ⟨List.getElem?_set_ne ne, List.getElem?_set_ne ne⟩
  · have e : j = i := by simpa using hj
    subst e
    exact ⟨d, by rw [List.getElem?_set_self hi]⟩
theorem Bd.trans {ix ix' : List Nat} (a : Bd K B H0 G H σ ρ σ1 ρ1 ix) (b : Bd K B H0 G H σ1 ρ1 σ2 ρ2 ix') : Bd K B H0 G H σ ρ σ2 ρ2 (ix ++ ix') where
  s := b.s
  same := fun i hi => by
    rw [List.mem_append, not_or] at hi
    exact ⟨(b.same i hi.2).1.trans (a.same i hi.1).1, (b.same i hi.2).2.trans (a.same i hi.1).2⟩
  ow := fun x z => a.ow x (b.ow x z)
  len := b.len.trans a.len
  only := fun i hi => by
    by_cases h : i ∈ ix'
    · exact b.only i h
    · rcases List.mem_append.mp hi with h1 | h1
      · obtain ⟨d, e⟩ := a.only i h1
        exact ⟨d, by rw [(b.same i h).2]; exact e⟩
      · exact absurd h1 h
mutual
theorem bind_ok : ∀ (t : Tg) {d : D} {x : V} {ρ ρ' : List Sl} {σ : St} {Q : St → Hp → Prop}, StRep K B H0 G H σ ρ → Rep K G x d → bindT t d ρ = some ρ' → (∀ σ', Bd K B H0 G H σ ρ σ' ρ' t.ix → Q σ' H) → gT K t x σ H Q
  | .nm i, d, x, ρ, ρ', σ, Q, s, r, e, q => by
    unfold bindT at e
    split at e
    · rename_i hb
      cases e
      have b := bind1 s r hb
      exact q _ (by unfold Tg.ix; exact b)
    · cases e
  | .tp ts, d, x, ρ, ρ', σ, Q, s, r, e, q => by
    cases d with
    | tup ds =>
      have e' : bindTs ts ds ρ = some ρ' := by rw [← e]; rfl
      obtain ⟨a, vs, rfl, h1, l⟩ := Rep.tupI r
      have hl := bindTs_len ts ds ρ e'
      refine ⟨a, vs, rfl, .inl (sqT_mono s.sub h1), by rw [l.length, hl], ?_⟩
      exact binds_ok ts s l e' (fun σ' b => q σ' (by unfold Tg.ix; exact b))
    | lst ds =>
      have e' : bindTs ts ds ρ = some ρ' := by rw [← e]; rfl
      cases r with
      | lst h1 l =>
        have hl := bindTs_len ts ds ρ e'
        refine ⟨_, _, rfl, .inr (.inl (.inl (s.sub _ _ h1))), by rw [l.length, hl], ?_⟩
        exact binds_ok ts s l e' (fun σ' b => q σ' (by unfold Tg.ix; exact b))
    | _ => cases e
theorem bindTs_len : ∀ (ts : List Tg) (ds : List D) (ρ : List Sl) {ρ' : List Sl}, bindTs ts ds ρ = some ρ' → ds.length = ts.length
  | [], ds, ρ, ρ', e => by
    cases ds with
    | nil => rfl
    | cons => cases e
  | t :: ts, ds, ρ, ρ', e => by
    cases ds with
    | nil => cases e
    | cons d ds =>
      unfold bindTs at e
      split at e
      · rename_i ρ1 _
        rw [List.length_cons, List.length_cons, bindTs_len ts ds ρ1 e]
      · cases e
theorem binds_ok : ∀ (ts : List Tg) {ds : List D} {vs : List V} {ρ ρ' : List Sl} {σ : St} {Q : St → Hp → Prop}, StRep K B H0 G H σ ρ → RepL K G vs ds → bindTs ts ds ρ = some ρ' → (∀ σ', Bd K B H0 G H σ ρ σ' ρ' (Tg.ixs ts) → Q σ' H) → gTs K ts vs σ H Q
  | [], ds, vs, ρ, ρ', σ, Q, s, l, e, q => by
    cases ds with
    | nil =>
      cases e
      cases l
      exact ⟨rfl, q σ ⟨s, fun i _ => ⟨rfl, rfl⟩, fun _ z => z, rfl, fun i hi => by unfold Tg.ixs at hi; cases hi⟩⟩
    | cons => cases e
  | t :: ts, ds, vs, ρ, ρ', σ, Q, s, l, e, q => by
    cases ds with
    | nil => cases e
    | cons d ds =>
      unfold bindTs at e
      split at e
      · rename_i ρ1 e1
        cases l with
        | cons h l =>
          refine ⟨_, _, rfl, bind_ok t s h e1 fun σ1 b1 => ?_⟩
          exact binds_ok ts b1.s l e fun σ2 b2 => q σ2 (by unfold Tg.ixs; exact b1.trans b2)
      · cases e
end

/-! ### wiping -/
theorem wipeS_len : ∀ {vs : List Nat}, (wipeS ρ vs).length = ρ.length
  | [] => rfl
  | v :: vs => by unfold wipeS; rw [List.length_set, wipeS_len]
theorem wipeS_get {i : Nat} : ∀ {vs : List Nat}, i ∉ vs → (wipeS ρ vs)[i]? = ρ[i]?
  | [], _ => rfl
  | v :: vs, h => by
    rw [List.mem_cons, not_or] at h
    unfold wipeS
    rw [List.getElem?_set_ne (fun e => h.1 e.symm), wipeS_get h.2]
theorem wipeS_in {i : Nat} {s : Sl} : ∀ {vs : List Nat}, i ∈ vs → (wipeS ρ vs)[i]? = some s → s = .no
  | [], h, _ => by cases h
  | v :: vs, h, e => by
    unfold wipeS at e
    rcases getset e with ⟨_, rfl, _⟩ | ⟨ne, e⟩
    · rfl
    · rcases List.mem_cons.mp h with rfl | h
      · exact absurd rfl ne
      · exact wipeS_in h e
theorem wipe_get {i : Nat} : ∀ {vs : List Nat}, i ∉ vs → (wipe σ vs)[i]? = σ[i]?
  | [], _ => rfl
  | v :: vs, h => by
    rw [List.mem_cons, not_or] at h
    unfold wipe
    rw [List.getElem?_set_ne (fun e => h.1 e.symm), wipe_get h.2]
theorem wipe_in {i : Nat} : ∀ {vs : List Nat}, i ∈ vs → i < σ.length → (wipe σ vs)[i]? = some none
  | [], h, _ => by cases h
  | v :: vs, h, hl => by
    unfold wipe
    by_cases e : v = i
    · subst e
      rw [List.getElem?_set_self (by rw [wipe_length]; exact hl)]
    · rw [List.getElem?_set_ne e]
      rcases List.mem_cons.mp h with rfl | h
      · exact absurd rfl e
      · exact wipe_in h hl
theorem wipe_eq {vs : List Nat} (hl : σ1.length = σ2.length) (h : ∀ i, i ∉ vs → σ1[i]? = σ2[i]?) : wipe σ1 vs = wipe σ2 vs := by
  apply List.ext_getElem?
  intro i
  by_cases hi : i ∈ vs
  · by_cases hk : i < σ1.length
    · rw [wipe_in hi hk, wipe_in hi (by rw [← hl]; exact hk)]
    · rw [List.getElem?_eq_none (by rw [wipe_length]; omega), List.getElem?_eq_none (by rw [wipe_length]; omega)]
  · rw [wipe_get hi, wipe_get hi, h i hi]
theorem restS_len {ρ0 : List Sl} : ∀ {vs : List Nat}, (restS ρ0 ρ vs).length = ρ.length
  | [] => rfl
  | v :: vs => by unfold restS; rw [List.length_set, restS_len]
theorem restS_get {ρ0 : List Sl} {i : Nat} : ∀ {vs : List Nat}, i ∉ vs → (restS ρ0 ρ vs)[i]? = ρ[i]?
  | [], _ => rfl
  | v :: vs, h => by
    rw [List.mem_cons, not_or] at h
    unfold restS
    rw [List.getElem?_set_ne (fun e => h.1 e.symm), restS_get h.2]
theorem restS_in {ρ0 : List Sl} {i : Nat} {s : Sl} : ∀ {vs : List Nat}, i ∈ vs → (restS ρ0 ρ vs)[i]? = some s → s = (ρ0[i]?).getD .no
  | [], h, _ => by cases h
  | v :: vs, h, e => by
    unfold restS at e
    rcases getset e with ⟨rfl, rfl, _⟩ | ⟨ne, e⟩
    · rfl
    · rcases List.mem_cons.mp h with rfl | h
      · exact absurd rfl ne
      · exact restS_in h e
theorem noOwn_at {vs : List Nat} (h : noOwn ρ vs = true) {i : Nat} (hi : i ∈ vs) : (∃ d, ρ[i]? = some (.d d)) ∨ ρ[i]? = some .no := by
  unfold noOwn at h
  have q := List.all_eq_true.mp h i hi
  cases e : ρ[i]? with
  | none => simp [e] at q
  | some s =>
    cases s with
    | no => exact .inr rfl
    | d d => exact .inl ⟨d, rfl⟩
    | own o => simp [e] at q
    | bor o => simp [e] at q
    | fz o => simp [e] at q
theorem StRep.pin_out {vs : List Nat} (s : StRep K B H0 G H σ ρ) (h : noOwn ρ vs = true) {i : Nat} {a : Addr} (hB : B.p i = some a) : i ∉ vs := fun hi => by
  obtain ⟨_, s1, p2, p3⟩ := s.pin i a hB
  rcases noOwn_at h hi with ⟨d, e⟩ | e <;> (rw [p2] at e; cases e; cases p3)
theorem slAt_move {i : Nat} {s : Sl} (h : SlAt K H0 G H σ i s) (e : σ'[i]? = σ[i]?) : SlAt K H0 G H σ' i s := by
  cases s with
  | no => trivial
  | d d => obtain ⟨v, e5, r⟩ := h; exact ⟨v, by rw [e]; exact e5, r⟩
  | own o1 => obtain ⟨b, e5, r⟩ := h; exact ⟨b, by rw [e]; exact e5, r⟩
  | bor o1 => obtain ⟨b, e5, r⟩ := h; exact ⟨b, by rw [e]; exact e5, r⟩
  | fz d => obtain ⟨v, e5, r⟩ := h; exact ⟨v, by rw [e]; exact e5, r⟩
/-- the own slots forgotten -/
theorem StRep.wiped {vs : List Nat} (s : StRep K B H0 G H σ ρ) (hp : ∀ i a, B.p i = some a → i ∉ vs) (hl : σw.length = σ.length) (hw : ∀ i, i ∉ vs → σw[i]? = σ[i]?) : StRep K B H0 G H σw (wipeS ρ vs) ∧ ∀ b, Ow σw (wipeS ρ vs) b → Ow σ ρ b := by
  have ob : ∀ {j b}, OwnAt σw (wipeS ρ vs) j b → OwnAt σ ρ j b := fun {j b} ⟨e1, s1, e2, e3⟩ => by
    by_cases hj : j ∈ vs
    · have := wipeS_in hj e2; subst this; cases e3
    · rw [wipeS_get hj] at e2
      rw [hw j hj] at e1
      exact ⟨e1, s1, e2, e3⟩
  refine ⟨⟨fun i a hB => ?_, s.ali, s.sub, by rw [wipeS_len, hl]; exact s.len, fun i s1 e => ?_, fun i j a u1 u2 => s.inj i j a (ob u1) (ob u2), s.bi⟩, fun b ⟨i, hi⟩ => ⟨i, ob hi⟩⟩
  · obtain ⟨p1, s1, p2, p3⟩ := s.pin i a hB
    have hi := hp i a hB
    exact ⟨by rw [hw i hi]; exact p1, s1, by rw [wipeS_get hi]; exact p2, p3⟩
  · by_cases hi : i ∈ vs
    · have := wipeS_in hi e; subst this; trivial
    · rw [wipeS_get hi] at e
      exact slAt_move (s.at_ i s1 e) (hw i hi)
theorem EI.tmpSet {p : Addr} {o : HO} (a : EI K B H0 σ Gs Hs ρs G H ρ) (f : Hs p = none) (hg : G p = none) : EI K B H0 σ Gs Hs ρs G (upd H p o) ρ := by
  have np : ∀ b, Ow σ ρ b → b ≠ p := fun b z e => absurd f (e ▸ a.s0.alive (a.ow b z))
  have alv : ∀ b, H b ≠ none → upd H p o b ≠ none := fun b z => by
    by_cases hb : b = p
    · subst hb; rw [upd_same]; simp
    · rw [upd_ne hb]; exact z
  refine ⟨a.s0, ⟨a.s1.pin, fun b z => alv b (a.s1.ali b z), fun b x e => ?_, a.s1.len, fun i s e => ?_, a.s1.inj, a.s1.bi⟩, ⟨a.st.same, fun b x e n => ?_, fun b z => alv b (a.st.alive b z)⟩, a.ow⟩
  · have hb : b ≠ p := fun z => by subst z; rw [hg] at e; cases e
    rw [upd_ne hb]; exact a.s1.sub _ _ e
  · have z := a.s1.at_ i s e
    cases s with
    | no => trivial
    | d d => exact z
    | fz d => exact z
    | own o1 =>
      obtain ⟨b, e5, r, f'⟩ := z
      exact ⟨b, e5, r.move (Same.refl _) fun x ex => ⟨by rw [upd_ne (np b ⟨i, e5, _, e, rfl⟩)]; exact ex, fun w => w⟩, f'⟩
    | bor o1 =>
      obtain ⟨b, e5, r⟩ := z
      exact ⟨b, e5, r.move (Same.refl _) fun x ex => ⟨by rw [upd_ne (np b ⟨i, e5, _, e, rfl⟩)]; exact ex, fun w => w⟩⟩
  · have hb : b ≠ p := fun z => by subst z; rw [f] at e; cases e
    rw [upd_ne hb]
    exact a.st.keep b x e n
/-- from within a turn back to the block's state -/
theorem EI.unwrap {vs : List Nat} {ix : List Nat} (s0 : StRep K B H0 G1 H1 σw ρ1) (b : Bd K B H0 G1 H1 σw ρ1 σ2 ρ2 ix) (hix : ∀ i ∈ ix, i ∈ vs) (hp : ∀ i a, B.p i = some a → i ∉ vs) (E : EI K B H0 σ2 G1 H1 ρ2 G H ρ) : EI K B H0 σw G1 H1 ρ1 G H (wipeS ρ vs) := by
  have hw : ∀ i, i ∉ vs → σw[i]? = σ2[i]? := fun i hi => (b.same i fun z => hi (hix i z)).1.symm
  obtain ⟨s, o⟩ := E.s1.wiped hp b.len.symm hw
  exact ⟨s0, s, ⟨E.st.same, fun x z e n => E.st.keep x z e fun w => n (b.ow x w), E.st.alive⟩, fun x z => b.ow x (E.ow x (o x z))⟩
/-- a comprehension's end: the slots as they were -/
theorem EI.rest {vs : List Nat} (a : StRep K B H0 G1 H1 σ ρ1) (no : noOwn ρ1 vs = true) (E : EI K B H0 (wipe σ vs) G1 H1 (wipeS ρ1 vs) G H ρ) : EI K B H0 σ G1 H1 ρ1 G H (restS ρ1 ρ vs) := by
  obtain ⟨_, ow0⟩ := a.wiped (vs := vs) (fun i x hB => a.pin_out no hB) (wipe_length σ vs) (fun i hi => wipe_get hi)
  have own1 : ∀ {j b}, OwnAt σ (restS ρ1 ρ vs) j b → OwnAt (wipe σ vs) ρ j b ∧ j ∉ vs := fun {j b} ⟨e1, s1, e2, e3⟩ => by
    by_cases hj : j ∈ vs
    · have h := restS_in hj e2
      rcases noOwn_at no hj with ⟨d, e⟩ | e <;> (rw [e] at h; subst h; cases e3)
    · rw [restS_get hj] at e2
      exact ⟨⟨by rw [wipe_get hj]; exact e1, s1, e2, e3⟩, hj⟩
  refine ⟨a, ⟨fun i x hB => ?_, E.s1.ali, E.s1.sub, by rw [restS_len, ← E.s1.len, wipe_length], fun i s e => ?_, fun i j x u1 u2 => E.s1.inj i j x (own1 u1).1 (own1 u2).1, E.s1.bi⟩, ⟨E.st.same, fun x z e n => E.st.keep x z e fun w => n (ow0 x w), E.st.alive⟩, fun x ⟨i, hi⟩ => ow0 x (E.ow x ⟨i, (own1 hi).1⟩)⟩
  · have hi := a.pin_out no hB
    obtain ⟨p1, s1, p2, p3⟩ := E.s1.pin i x hB
    exact ⟨by rw [← wipe_get hi]; exact p1, s1, by rw [restS_get hi]; exact p2, p3⟩
  · by_cases hi : i ∈ vs
    · have h := restS_in hi e
      rcases noOwn_at no hi with ⟨d, q⟩ | q
      · rw [q] at h; subst h
        obtain ⟨v, e1, r⟩ := a.at_ i _ q
        exact ⟨v, e1, r.mono E.st.same⟩
      · rw [q] at h; subst h; trivial
    · rw [restS_get hi] at e
      exact slAt_move (E.s1.at_ i s e) (wipe_get hi).symm
end
end Fw

set_option maxHeartbeats 4000000
/-! Fw10: a comprehension from its parts; zip, enumerate, reversed. -/
namespace Fw
open PySem PySem.Spec PyProof.Rows L2

section
variable {K : PySem.W.Frag} {B : Fb} {H0 G H G' H' G1 H1 G2 H2 Gs Hs : Hp} {σ σ' σ1 σ2 σw : St} {ρ ρ' ρs ρ1 ρ2 : List Sl}
theorem lc_ok {own : List Nat} {tg : Tg} {fI : List Sl → Rs (List D)} {fc : List Sl → Rs Bool} {fe : List Sl → Rs D} {tt : TT} {te : TE} {Q : VK}
    (hix : ∀ i ∈ tg.ix, i ∈ own) (htt : ∀ (σ : St) H Q, tMB K B H0 fc σ H Q → tt σ H Q) (hte : ∀ (σ : St) H Q, tMD K B H0 fe σ H Q → te σ H Q)
    (h : tM K B H0 (fun ρ => if noOwn ρ own then (fI ρ).bind fun r => if noOwn r.2 own then lcEnd r.2 own (turns (lcTurn own tg fc fe) r.1 (wipeS r.2 own)) else none else none) σ H Q) :
    tLc (tMI K B H0 fI) (gT K tg) tt te own σ H Q := by
  obtain ⟨G, ρ, t, ρ', s, e, q⟩ := h
  dsimp only at e
  split at e
  · rename_i no0
    obtain ⟨⟨ds, ρ1⟩, e1, e⟩ := Option.bind_eq_some_iff.mp e
    dsimp only at e
    split at e
    · rename_i no1
      unfold lcEnd at e
      obtain ⟨⟨ys, ρ7⟩, e2, e⟩ := Option.bind_eq_some_iff.mp e
      dsimp only at e
      split at e
      · rename_i hz
        cases e
        refine ⟨G, ρ, ds, ρ1, s, e1, fun J G1 H1 E1 itok Dl hD => ?_⟩
        have hp : ∀ i a, B.p i = some a → i ∉ own := fun i a hB => E1.s1.pin_out no1 hB
        obtain ⟨sw, _⟩ := E1.s1.wiped hp (wipe_length σ own) (fun i hi => wipe_get hi)
        refine ⟨fun i m H' => m = ds.length - i ∧ i ≤ ds.length ∧ ∃ G' ρ' vs acc rest, EI K B H0 (wipe σ own) G1 H1 (wipeS ρ1 own) G' H' ρ' ∧ H' Dl = some (.lst vs) ∧ G' Dl = none ∧ RepL K G' vs acc ∧ turns (lcTurn own tg fc fe) (ds.drop i) ρ' = some (rest, ρ7) ∧ acc ++ rest = ys,
          ⟨ds.length, by omega, Nat.zero_le _, G1, wipeS ρ1 own, [], [], ys, (EI.refl sw).gro (Gro.tmp sw.sub hD), upd_same, sw.sub.free hD, .nil, e2, rfl⟩, ?_⟩
        rintro i m H' ⟨rfl, hi, G', ρ', vs, acc, rest, E, hl, hg, l, ht, hy⟩
        obtain ⟨it1, it2⟩ := itok i G' H' E.st.same E.s1.sub
        by_cases hlt : i < ds.length
        · have e3 : ds[i]? = some ds[i] := List.getElem?_eq_getElem hlt
          obtain ⟨go, yl⟩ := it1 _ e3
          rw [List.drop_eq_getElem_cons hlt] at ht
          have ht' : (match lcTurn own tg fc fe ds[i] ρ' with
            | some (x, ρ1) => (match turns (lcTurn own tg fc fe) (ds.drop (i + 1)) ρ1 with
              | some (r, ρ2) => some (x ++ r, ρ2)
              | none => none)
            | none => none) = some (rest, ρ7) := ht
          split at ht'
          · rename_i x ρa e4
            split at ht'
            · rename_i r ρb e5
              cases ht'
              refine .inr ⟨go, fun H' => i + 1 ≤ ds.length ∧ ∃ G' ρ' vs acc rest, EI K B H0 (wipe σ own) G1 H1 (wipeS ρ1 own) G' H' ρ' ∧ H' Dl = some (.lst vs) ∧ G' Dl = none ∧ RepL K G' vs acc ∧ turns (lcTurn own tg fc fe) (ds.drop (i + 1)) ρ' = some (rest, ρ7) ∧ acc ++ rest = ys,
                fun H'' w => ⟨ds.length - (i + 1), by omega, rfl, w⟩, fun y H2 hyl => ?_⟩
              obtain ⟨G2, gr, ry⟩ := yl y H2 hyl
              have E2 := E.gro gr
              unfold lcTurn at e4
              obtain ⟨ρ3, f1, e4⟩ := Option.bind_eq_some_iff.mp e4
              obtain ⟨⟨b, ρ4⟩, f2, e4⟩ := Option.bind_eq_some_iff.mp e4
              refine bind_ok tg E2.s1 ry f1 fun σ2 bd => ⟨?_, ?_⟩
              · have w1 : wipe σ2 own = wipe (wipe σ own) own := wipe_eq bd.len fun j hj => (bd.same j fun z => hj (hix j z)).1
                have w2 : wipe (wipe σ own) own = wipe σ own := wipe_eq (wipe_length σ own) fun j hj => wipe_get hj
                rw [w1, w2]
              refine htt _ _ _ ⟨G2, ρ3, b, ρ4, bd.s, f2, fun G3 H3 E3 => ?_⟩
              have nD : ¬ Ow σ2 ρ3 Dl := fun z => by
                have := sw.alive (E2.ow _ (bd.ow _ z))
                exact this hD
              have k2 : H2 Dl = some (.lst vs) := gr.h _ _ hl
              have g2 : G2 Dl = none := gr.keep Dl (by rw [hl]; simp) hg
              obtain ⟨k3, g3⟩ := E3.st.keep Dl _ k2 nD
              dsimp only at e4
              cases b with
              | false =>
                rw [if_neg Bool.false_ne_true] at e4
                cases e4
                refine iteF (B := _ ∧ _) ?_
                exact ⟨hlt, G3, _, vs, acc, _, E2.trans (EI.unwrap E2.s1 bd hix hp E3), k3, g3 g2, l.mono (gr.g.trans E3.st.same), e5, hy⟩
              | true =>
                rw [if_pos rfl] at e4
                refine iteT (A := te _ _ _) ?_
                obtain ⟨⟨d', ρ6⟩, f3, e4⟩ := Option.bind_eq_some_iff.mp e4
                cases e4
                refine hte _ _ _ ⟨G3, ρ4, d', ρ6, E3.s1, f3, fun z G4 H4 E4 rz => ?_⟩
                have E34 := E3.trans E4
                obtain ⟨k4, g4⟩ := E34.st.keep Dl _ k2 nD
                have g4' := g4 g2
                have l4 : RepL K G4 vs acc := l.mono (gr.g.trans E34.st.same)
                have E5 := E2.trans (EI.unwrap E2.s1 bd hix hp E34)
                refine ⟨vs, k4, ?_, hlt, G4, _, vs ++ [z], acc ++ [d'], _, E5.tmpSet hD g4', upd_same, g4', l4.append (.cons rz .nil), e5, ?_⟩
                · rw [l.length]
                  have := congrArg List.length hy
                  rw [List.length_append, List.length_append, List.length_singleton] at this
                  omega
                · rw [List.append_assoc]; exact hy
            · cases ht'
          · cases ht'
        · have ei : i = ds.length := by omega
          subst ei
          rw [List.drop_length] at ht
          cases ht
          rw [List.append_nil] at hy
          subst hy
          exact .inl ⟨it2 (Nat.le_refl _), q _ G' H' (E1.trans (EI.rest E1.s1 no1 E)) ⟨Dl, rfl, ⟨vs, hl, hg, l⟩, E1.fresh hD⟩⟩
      · cases e
    · cases e
  · cases e

/-! ### two sources -/
def cut (H : Hp) (p : Addr) : Hp := fun b => if b = p then none else H b
theorem cut_self {H : Hp} {p : Addr} : cut H p p = none := if_pos rfl
theorem cut_ne {H : Hp} {p b : Addr} (h : b ≠ p) : cut H p b = H b := if_neg h
theorem cut_some {H : Hp} {p b : Addr} {o : HO} (h : cut H p b = some o) : b ≠ p ∧ H b = some o := by
  by_cases hb : b = p
  · subst hb; rw [cut_self] at h; cases h
  · rw [cut_ne hb] at h; exact ⟨hb, h⟩
theorem cut_upd {H : Hp} {p : Addr} {o : HO} (h : H p = some o) : H = upd (cut H p) p o := by
  funext b
  by_cases hb : b = p
  · subst hb; rw [upd_same]; exact h
  · rw [upd_ne hb, cut_ne hb]
theorem StRep.cut {p : Addr} (s : StRep K B H0 G H σ ρ) (h0 : H0 p = none) (hg : G p = none) (no : ¬ Ow σ ρ p) : StRep K B H0 G (cut H p) σ ρ where
  pin := s.pin
  ali := fun b z => by
    have hb : b ≠ p := fun e => z (e ▸ h0)
    rw [cut_ne hb]; exact s.ali b z
  sub := fun b o e => by
    have hb : b ≠ p := fun z => by subst z; rw [hg] at e; cases e
    rw [cut_ne hb]; exact s.sub b o e
  len := s.len
  inj := s.inj
  bi := s.bi
  at_ := fun i sl e => by
    have q := s.at_ i sl e
    have mv : ∀ {a o}, ORep K G H a o → a ≠ p → ORep K G (Fw.cut H p) a o := fun r ne => r.move (Same.refl _) fun x ex => ⟨by rw [cut_ne ne]; exact ex, fun z => z⟩
    cases sl with
    | no => trivial
    | d d => exact q
    | own o => obtain ⟨a, e1, r, f⟩ := q; exact ⟨a, e1, mv r fun z => no ⟨i, z ▸ e1, _, e, rfl⟩, f⟩
    | bor o => obtain ⟨a, e1, r⟩ := q; exact ⟨a, e1, mv r fun z => no ⟨i, z ▸ e1, _, e, rfl⟩⟩
    | fz d => exact q
theorem Stp.cutR {p : Addr} {P : Addr → Prop} (st : Stp G H P G1 H1) (h : H p = none) : Stp G H P G1 (cut H1 p) where
  same := st.same
  keep := fun b o e n => by
    have hb : b ≠ p := fun z => by subst z; rw [h] at e; cases e
    rw [cut_ne hb]; exact st.keep b o e n
  alive := fun b z => by
    have hb : b ≠ p := fun e => z (e ▸ h)
    rw [cut_ne hb]; exact st.alive b z
theorem Stp.cut2 {p : Addr} {P : Addr → Prop} (st : Stp G H P G1 H1) : Stp G (cut H p) P G1 (cut H1 p) where
  same := st.same
  keep := fun b o e n => by
    obtain ⟨hb, e⟩ := cut_some e
    rw [cut_ne hb]; exact st.keep b o e n
  alive := fun b z => by
    have hb : b ≠ p := fun e => z (by rw [e]; exact cut_self)
    rw [cut_ne hb] at z ⊢; exact st.alive b z
theorem yes_ok {σ : St} {H : Hp} {A A' : Hp → Prop} (h : A H) : tYes σ H (fun b H3 => if b = true then A H3 else A' H3) := by
  unfold tYes
  exact (if_pos rfl).mpr h
theorem lc2_ok {own vs1 : List Nat} {tg tg1 : Tg} {fI fI1 : List Sl → Rs (List D)} {fc : List Sl → Rs Bool} {fe : List Sl → Rs D} {tt : TT} {te : TE} {Q : VK}
    (hix : ∀ i ∈ tg.ix, i ∈ own) (hix1 : ∀ i ∈ tg1.ix, i ∈ vs1) (htt : ∀ (σ : St) H Q, tMB K B H0 fc σ H Q → tt σ H Q) (hte : ∀ (σ : St) H Q, tMD K B H0 fe σ H Q → te σ H Q)
    (h : tM K B H0 (fun ρ => if noOwn ρ own then (fI ρ).bind fun r => if noOwn r.2 own then lcEnd r.2 own (turns (lcTurn2 own tg vs1 fI1 tg1 fc fe) r.1 (wipeS r.2 own)) else none else none) σ H Q) :
    tLc2 (tMI K B H0 fI) (gT K tg) tYes (tMI K B H0 fI1) (gT K tg1) tt te own vs1 σ H Q := by
  obtain ⟨G, ρ, t, ρ', s, e, q⟩ := h
  dsimp only at e
  split at e
  · rename_i no0
    obtain ⟨⟨ds, ρ1⟩, e1, e⟩ := Option.bind_eq_some_iff.mp e
    dsimp only at e
    split at e
    · rename_i no1
      unfold lcEnd at e
      obtain ⟨⟨ys, ρ7⟩, e2, e⟩ := Option.bind_eq_some_iff.mp e
      dsimp only at e
      split at e
      · rename_i hz
        cases e
        refine ⟨G, ρ, ds, ρ1, s, e1, fun J G1 H1 E1 itok Dl hD => ?_⟩
        have hp : ∀ i a, B.p i = some a → i ∉ own := fun i a hB => E1.s1.pin_out no1 hB
        have h0D : H0 Dl = none := by
          cases z : H0 Dl with
          | none => rfl
          | some o => exact absurd hD (E1.s1.ali Dl (by rw [z]; simp))
        obtain ⟨sw, _⟩ := E1.s1.wiped hp (wipe_length σ own) (fun i hi => wipe_get hi)
        refine ⟨fun i m H' => m = ds.length - i ∧ i ≤ ds.length ∧ ∃ G' ρ' vs acc rest, EI K B H0 (wipe σ own) G1 H1 (wipeS ρ1 own) G' H' ρ' ∧ H' Dl = some (.lst vs) ∧ G' Dl = none ∧ RepL K G' vs acc ∧ turns (lcTurn2 own tg vs1 fI1 tg1 fc fe) (ds.drop i) ρ' = some (rest, ρ7) ∧ acc ++ rest = ys,
          ⟨ds.length, by omega, Nat.zero_le _, G1, wipeS ρ1 own, [], [], ys, (EI.refl sw).gro (Gro.tmp sw.sub hD), upd_same, sw.sub.free hD, .nil, e2, rfl⟩, ?_⟩
        rintro i m H' ⟨rfl, hi, G', ρ', vs, acc, rest, E, hl, hg, l, ht, hy⟩
        obtain ⟨it1, it2⟩ := itok i G' H' E.st.same E.s1.sub
        by_cases hlt : i < ds.length
        · have e3 : ds[i]? = some ds[i] := List.getElem?_eq_getElem hlt
          obtain ⟨go, yl⟩ := it1 _ e3
          rw [List.drop_eq_getElem_cons hlt] at ht
          have ht' : (match lcTurn2 own tg vs1 fI1 tg1 fc fe ds[i] ρ' with
            | some (x, ρ1) => (match turns (lcTurn2 own tg vs1 fI1 tg1 fc fe) (ds.drop (i + 1)) ρ1 with
              | some (r, ρ2) => some (x ++ r, ρ2)
              | none => none)
            | none => none) = some (rest, ρ7) := ht
          split at ht'
          · rename_i x ρa e4
            split at ht'
            · rename_i r ρb e5
              cases ht'
              refine .inr ⟨go, fun H' => i + 1 ≤ ds.length ∧ ∃ G' ρ' vs acc rest, EI K B H0 (wipe σ own) G1 H1 (wipeS ρ1 own) G' H' ρ' ∧ H' Dl = some (.lst vs) ∧ G' Dl = none ∧ RepL K G' vs acc ∧ turns (lcTurn2 own tg vs1 fI1 tg1 fc fe) (ds.drop (i + 1)) ρ' = some (rest, ρ7) ∧ acc ++ rest = ys,
                fun H'' w => ⟨ds.length - (i + 1), by omega, rfl, w⟩, fun y H2 hyl => ?_⟩
              obtain ⟨G2, gr, ry⟩ := yl y H2 hyl
              have E2 := E.gro gr
              unfold lcTurn2 at e4
              obtain ⟨ρ3, f1, e4⟩ := Option.bind_eq_some_iff.mp e4
              obtain ⟨⟨ds1, ρ4⟩, f2, e4⟩ := Option.bind_eq_some_iff.mp e4
              dsimp only at e4
              split at e4
              · rename_i no2
                obtain ⟨⟨zs, ρ6⟩, f3, e4⟩ := Option.bind_eq_some_iff.mp e4
                cases e4
                refine bind_ok tg E2.s1 ry f1 fun σ2 bd => ⟨?_, ?_⟩
                · have w1 : wipe σ2 own = wipe (wipe σ own) own := wipe_eq bd.len fun j hj => (bd.same j fun z => hj (hix j z)).1
                  have w2 : wipe (wipe σ own) own = wipe σ own := wipe_eq (wipe_length σ own) fun j hj => wipe_get hj
                  rw [w1, w2]
                refine yes_ok ?_
                refine ⟨G2, ρ3, ds1, ρ4, bd.s, f2, fun J1 G3 H3 E3 itok1 => ?_⟩
                have nD : ¬ Ow σ2 ρ3 Dl := fun z => by
                  have := sw.alive (E2.ow _ (bd.ow _ z))
                  exact this hD
                have k2 : H2 Dl = some (.lst vs) := gr.h _ _ hl
                have g2 : G2 Dl = none := gr.keep Dl (by rw [hl]; simp) hg
                obtain ⟨k3, g3⟩ := E3.st.keep Dl _ k2 nD
                replace g3 := g3 g2
                have nD4 : ¬ Ow σ2 ρ4 Dl := fun z => nD (E3.ow _ z)
                have nDw : ¬ Ow (wipe σ own) ρ' Dl := fun z => sw.alive (E.ow _ z) hD
                -- the list under way is cut out
                have s2c : StRep K B H0 G2 (cut H2 Dl) σ2 ρ3 := bd.s.cut h0D g2 nD
                have E2c : EI K B H0 (wipe σ own) G1 H1 (wipeS ρ1 own) G2 (cut H2 Dl) ρ' := ⟨E2.s0, E2.s1.cut h0D g2 nDw, E2.st.cutR hD, E2.ow⟩
                have E3c : EI K B H0 σ2 G2 (cut H2 Dl) ρ3 G3 (cut H3 Dl) ρ4 := ⟨s2c, E3.s1.cut h0D g3 nD4, E3.st.cut2, E3.ow⟩
                have bdc : Bd K B H0 G2 (cut H2 Dl) (wipe σ own) ρ' σ2 ρ3 tg.ix := ⟨s2c, bd.same, bd.ow, bd.len, bd.only⟩
                have hp1 : ∀ i a, B.p i = some a → i ∉ vs1 := fun i a hB => E3.s1.pin_out no2 hB
                obtain ⟨sw1, _⟩ := E3c.s1.wiped hp1 (wipe_length σ2 vs1) (fun i hi => wipe_get hi)
                have l3 : RepL K G3 vs acc := l.mono (gr.g.trans E3.st.same)
                refine ⟨fun j k H' => k = ds1.length - j ∧ j ≤ ds1.length ∧ ∃ G' ρ' vs acc' rest', EI K B H0 (wipe σ2 vs1) G3 (cut H3 Dl) (wipeS ρ4 vs1) G' H' ρ' ∧ H' Dl = some (.lst vs) ∧ G' Dl = none ∧ RepL K G' vs acc' ∧ turns (lcTurn vs1 tg1 fc fe) (ds1.drop j) ρ' = some (rest', ρ6) ∧ acc' ++ rest' = acc ++ zs,
                  ⟨ds1.length, by omega, Nat.zero_le _, G3, wipeS ρ4 vs1, vs, acc, zs, ?_, k3, g3, l3, f3, rfl⟩, ?_⟩
                · have z := (EI.refl sw1).gro (Gro.tmp (o := .lst vs) sw1.sub (cut_self (H := H3) (p := Dl)))
                  rw [← cut_upd k3] at z
                  exact z
                rintro j k H4 ⟨rfl, hj, G4, ρ8, vs4, acc4, rest4, E4, hl4, hg4, l4, ht4, hy4⟩
                obtain ⟨jt1, jt2⟩ := itok1 j G4 H4 E4.st.same E4.s1.sub
                by_cases hlt1 : j < ds1.length
                · have e6 : ds1[j]? = some ds1[j] := List.getElem?_eq_getElem hlt1
                  obtain ⟨go1, yl1⟩ := jt1 _ e6
                  rw [List.drop_eq_getElem_cons hlt1] at ht4
                  have ht5 : (match lcTurn vs1 tg1 fc fe ds1[j] ρ8 with
                    | some (x, ρ1) => (match turns (lcTurn vs1 tg1 fc fe) (ds1.drop (j + 1)) ρ1 with
                      | some (r, ρ2) => some (x ++ r, ρ2)
                      | none => none)
                    | none => none) = some (rest4, ρ6) := ht4
                  split at ht5
                  · rename_i x5 ρ9 e7
                    split at ht5
                    · rename_i r5 ρ10 e8
                      cases ht5
                      refine .inr ⟨go1, fun H' => j + 1 ≤ ds1.length ∧ ∃ G' ρ' vs acc' rest', EI K B H0 (wipe σ2 vs1) G3 (cut H3 Dl) (wipeS ρ4 vs1) G' H' ρ' ∧ H' Dl = some (.lst vs) ∧ G' Dl = none ∧ RepL K G' vs acc' ∧ turns (lcTurn vs1 tg1 fc fe) (ds1.drop (j + 1)) ρ' = some (rest', ρ6) ∧ acc' ++ rest' = acc ++ zs,
                        fun H'' w => ⟨ds1.length - (j + 1), by omega, rfl, w⟩, fun y5 H5 hyl5 => ?_⟩
                      obtain ⟨G5, gr5, ry5⟩ := yl1 y5 H5 hyl5
                      have E5 := E4.gro gr5
                      unfold lcTurn at e7
                      obtain ⟨ρ11, u1, e7⟩ := Option.bind_eq_some_iff.mp e7
                      obtain ⟨⟨b, ρ12⟩, u2, e7⟩ := Option.bind_eq_some_iff.mp e7
                      refine bind_ok tg1 E5.s1 ry5 u1 fun σ3 bd1 => ⟨?_, ?_⟩
                      · have w1 : wipe σ3 vs1 = wipe (wipe σ2 vs1) vs1 := wipe_eq bd1.len fun j hj => (bd1.same j fun z => hj (hix1 j z)).1
                        have w2 : wipe (wipe σ2 vs1) vs1 = wipe σ2 vs1 := wipe_eq (wipe_length σ2 vs1) fun j hj => wipe_get hj
                        rw [w1, w2]
                      refine htt _ _ _ ⟨G5, ρ11, b, ρ12, bd1.s, u2, fun G6 H6 E6 => ?_⟩
                      have nD5 : ¬ Ow σ3 ρ11 Dl := fun z => by
                        have := sw1.alive (E5.ow _ (bd1.ow _ z))
                        exact this cut_self
                      have k5 : H5 Dl = some (.lst vs4) := gr5.h _ _ hl4
                      have g5 : G5 Dl = none := gr5.keep Dl (by rw [hl4]; simp) hg4
                      obtain ⟨k6, g6⟩ := E6.st.keep Dl _ k5 nD5
                      dsimp only at e7
                      cases b with
                      | false =>
                        rw [if_neg Bool.false_ne_true] at e7
                        cases e7
                        refine iteF (B := _ ∧ _) ?_
                        exact ⟨hlt1, G6, _, vs4, acc4, _, E5.trans (EI.unwrap E5.s1 bd1 hix1 hp1 E6), k6, g6 g5, l4.mono (gr5.g.trans E6.st.same), e8, hy4⟩
                      | true =>
                        rw [if_pos rfl] at e7
                        refine iteT (A := te _ _ _) ?_
                        obtain ⟨⟨d', ρ13⟩, u3, e7⟩ := Option.bind_eq_some_iff.mp e7
                        cases e7
                        refine hte _ _ _ ⟨G6, ρ12, d', ρ13, E6.s1, u3, fun z G7 H7 E7 rz => ?_⟩
                        have E67 := E6.trans E7
                        obtain ⟨k7, g7⟩ := E67.st.keep Dl _ k5 nD5
                        have g7' := g7 g5
                        have l7 : RepL K G7 vs4 acc4 := l4.mono (gr5.g.trans E67.st.same)
                        have E8 := E5.trans (EI.unwrap E5.s1 bd1 hix1 hp1 E67)
                        refine ⟨vs4, k7, ?_, hlt1, G7, _, vs4 ++ [z], acc4 ++ [d'], _, E8.tmpSet cut_self g7', upd_same, g7', l7.append (.cons rz .nil), e8, ?_⟩
                        · rw [l7.length]
                          have c1 := congrArg List.length hy
                          have c2 := congrArg List.length hy4
                          simp only [List.length_append, List.length_singleton] at c1 c2
                          omega
                        · rw [List.append_assoc]; exact hy4
                    · cases ht5
                  · cases ht5
                · have ei : j = ds1.length := by omega
                  subst ei
                  rw [List.drop_length] at ht4
                  cases ht4
                  rw [List.append_nil] at hy4
                  subst hy4
                  refine .inl ⟨jt2 (Nat.le_refl _), hlt, G4, _, vs4, acc ++ zs, r, ?_, hl4, hg4, l4, e5, ?_⟩
                  · exact E2c.trans (EI.unwrap E2c.s1 bdc hix hp (E3c.trans (EI.rest E3c.s1 no2 E4)))
                  · rw [List.append_assoc]; exact hy
              · cases e4
            · cases ht'
          · cases ht'
        · have ei : i = ds.length := by omega
          subst ei
          rw [List.drop_length] at ht
          cases ht
          rw [List.append_nil] at hy
          subst hy
          exact .inl ⟨it2 (Nat.le_refl _), q _ G' H' (E1.trans (EI.rest E1.s1 no1 E)) ⟨Dl, rfl, ⟨vs, hl, hg, l⟩, E1.fresh hD⟩⟩
      · cases e
    · cases e
  · cases e

/-! ### zip, enumerate, reversed -/
theorem seqOf_rep {v : V} {d : D} {xs : List D} (r : Rep K G v d) (e : seqOf d = some xs) : ∃ a vs, v = .ref a ∧ RepL K G vs xs ∧ (G a = some (.lst vs) ∨ SqT K G a vs) := by
  cases r with
  | tup h l => cases e; exact ⟨_, _, rfl, l, .inr h⟩
  | lst h l => cases e; exact ⟨_, _, rfl, l, .inl h⟩
  | non => cases e
  | bl b => cases e
  | int b => cases e
  | str b => cases e
  | rd _ _ => cases e
  | dicS _ _ => cases e
  | dicT _ _ _ _ => cases e
  | obj _ => cases e
theorem rev_ok {f : List Sl → Rs T} {R : It → Hp → Prop} (h : tMI K B H0 (fun ρ => (asD (f ρ)).bind fun r => (seqOf r.1).map fun xs => (xs.reverse, r.2)) σ H R) : RT.iRevA K (tM K B H0 f) σ H R := by
  obtain ⟨G, ρ, ds, ρ', s, e, q⟩ := h
  obtain ⟨⟨d, ρ1⟩, e1, e⟩ := Option.bind_eq_some_iff.mp e
  obtain ⟨xs, e2, e⟩ := Option.map_eq_some_iff.mp e
  cases e
  obtain ⟨t, ρ2, e3, e4⟩ := asD_inv e1
  dsimp only at e2
  refine ⟨G, ρ, t, ρ2, s, e3, fun v G1 H1 E1 T1 => ?_⟩
  obtain ⟨G2, E2, _, r⟩ := settle_ok E1 T1 e4
  obtain ⟨a, vs, rfl, l, hh⟩ := seqOf_rep r e2
  have rvs := l.reverse
  have len := l.length
  have get : ∀ (i : Nat) (d : D), xs.reverse[i]? = some d → i < vs.length ∧ ∃ v, vs[vs.length - 1 - i]? = some v ∧ Rep K G2 v d := fun i d e => by
    obtain ⟨v, z1, z2⟩ := rvs.get e
    have hi : i < vs.length := by
      have := (List.getElem?_eq_some_iff.mp z1).1
      rw [List.length_reverse] at this; exact this
    rw [List.getElem?_reverse hi] at z1
    exact ⟨hi, v, z1, z2⟩
  rcases hh with hh | hh
  · refine ⟨a, vs, rfl, .inl ⟨.inl (.inl (E2.s1.sub _ _ hh)), q _ G2 H1 E2 fun i G' H' s1 s2 => ⟨fun d e => ?_, fun e => ?_⟩⟩⟩
    · have hH : SqL K H' a vs := .inl (.inl (s2 _ _ (s1 _ _ hh)))
      obtain ⟨hi, v, z1, z2⟩ := get i d e
      refine ⟨⟨hi, vs, v, hH, z1⟩, fun x H'' ⟨y1, y2⟩ => ?_⟩
      subst y1
      have := y2 vs hH
      rw [z1] at this; cases this
      exact ⟨G', Gro.refl s2, z2.mono s1⟩
    · rw [List.length_reverse, ← len] at e; exact e
  · refine ⟨a, vs, rfl, .inr ⟨sqT_mono E2.s1.sub hh, q _ G2 H1 E2 fun i G' H' s1 s2 => ⟨fun d e => ?_, fun e => ?_⟩⟩⟩
    · have hH : SqT K H' a vs := sqT_mono s2 (sqT_mono s1 hh)
      obtain ⟨hi, v, z1, z2⟩ := get i d e
      refine ⟨⟨hi, vs, v, hH, z1⟩, fun x H'' ⟨y1, y2⟩ => ?_⟩
      subst y1
      have := y2 vs hH
      rw [z1] at this; cases this
      exact ⟨G', Gro.refl s2, z2.mono s1⟩
    · rw [List.length_reverse, ← len] at e; exact e
theorem enm_ok {f : List Sl → Rs T} {R : It → Hp → Prop} (h : tMI K B H0 (fun ρ => (asD (f ρ)).bind fun r => (enmF r.1).map fun xs => (xs, r.2)) σ H R) : iEnum K (tCons (tM K B H0 f) tNil) σ H R := by
  obtain ⟨G, ρ, ds, ρ', s, e, q⟩ := h
  obtain ⟨⟨d, ρ1⟩, e1, e⟩ := Option.bind_eq_some_iff.mp e
  obtain ⟨xs, e2, e⟩ := Option.map_eq_some_iff.mp e
  cases e
  obtain ⟨t, ρ2, e3, e4⟩ := asD_inv e1
  dsimp only at e2
  unfold enmF at e2
  split at e2
  · rename_i ys
    cases e2
    refine ⟨G, ρ, t, ρ2, s, e3, fun v G1 H1 E1 T1 => ?_⟩
    obtain ⟨G2, E2, _, r⟩ := settle_ok E1 T1 e4
    cases r with
    | @lst a vs _ hh l =>
    refine ⟨a, vs, rfl, .inl (.inl (E2.s1.sub _ _ hh)), q _ G2 H1 E2 fun i G' H' s1 s2 => ⟨fun d e => ?_, fun e => ?_⟩⟩
    · have hH : SqL K H' a vs := .inl (.inl (s2 _ _ (s1 _ _ hh)))
      rw [List.getElem?_map] at e
      obtain ⟨⟨w, k⟩, y1, y2⟩ := Option.map_eq_some_iff.mp e
      rw [List.getElem?_zipIdx] at y1
      obtain ⟨w', y3, y4⟩ := Option.map_eq_some_iff.mp y1
      cases y4
      subst y2
      obtain ⟨v, z1, z2⟩ := l.get y3
      refine ⟨⟨vs, v, hH, z1⟩, fun x H'' ⟨T, u, y5, y6, y7, y8⟩ => ?_⟩
      subst y5 y7
      have := y8 vs hH
      rw [z1] at this; cases this
      refine ⟨upd G' T (.tup [.int (i : Nat), v]), Gro.new s2 y6, ?_⟩
      have := Rep.newTup (K := K) s2 y6 (RepL.cons (Rep.int (i : Int)) (RepL.cons (z2.mono s1) RepL.nil))
      simpa using this
    · rw [List.length_map, List.length_zipIdx, ← l.length] at e
      exact ⟨vs, .inl (.inl (s2 _ _ (s1 _ _ hh))), e⟩
  · cases e2
theorem zip_ok {f g : List Sl → Rs T} {R : It → Hp → Prop} (h : tMI K B H0 (fun ρ => (asD (f ρ)).bind fun r => (asD (g r.2)).bind fun s => (zipF r.1 s.1).map fun xs => (xs, s.2)) σ H R) : FwZ.iZipK K (tCons (tM K B H0 f) (tCons (tM K B H0 g) tNil)) σ H R := by
  obtain ⟨G, ρ, ds, ρ', s, e, q⟩ := h
  obtain ⟨⟨d1, ρ1⟩, e1, e⟩ := Option.bind_eq_some_iff.mp e
  obtain ⟨⟨d2, ρ2⟩, e2, e⟩ := Option.bind_eq_some_iff.mp e
  obtain ⟨xs, e3, e⟩ := Option.map_eq_some_iff.mp e
  cases e
  obtain ⟨t1, ρa, e4, e5⟩ := asD_inv e1
  obtain ⟨t2, ρb, e6, e7⟩ := asD_inv e2
  dsimp only at e3 e6
  unfold zipF at e3
  obtain ⟨ys, y1, e3⟩ := Option.bind_eq_some_iff.mp e3
  obtain ⟨zs, y2, e3⟩ := Option.map_eq_some_iff.mp e3
  subst e3
  refine ⟨G, ρ, t1, ρa, s, e4, fun v G1 H1 E1 T1 => ?_⟩
  obtain ⟨G2, E2, _, r1⟩ := settle_ok E1 T1 e5
  refine ⟨G2, ρ1, t2, ρb, E2.s1, e6, fun v2 G3 H3 E3 T3 => ?_⟩
  obtain ⟨G4, E4, _, r2⟩ := settle_ok E3 T3 e7
  obtain ⟨a, vs, rfl, l1, h1⟩ := seqOf_rep (r1.mono E4.st.same) y1
  obtain ⟨b, ws, rfl, l2, h2⟩ := seqOf_rep r2 y2
  have kind : ∀ {a : Addr} {vs : List V}, (G4 a = some (.lst vs) ∨ SqT K G4 a vs) → ∃ k, ∀ G' H', Same G4 G' → Same G' H' → FwZ.SqK k K H' a vs := fun hh => by
    rcases hh with hh | hh
    · exact ⟨false, fun G' H' s1 s2 => .inl (.inl (s2 _ _ (s1 _ _ hh)))⟩
    · exact ⟨true, fun G' H' s1 s2 => sqT_mono s2 (sqT_mono s1 hh)⟩
  obtain ⟨k1, h1⟩ := kind h1
  obtain ⟨k2, h2⟩ := kind h2
  refine ⟨k1, k2, a, b, vs, ws, rfl, h1 _ _ (Same.refl _) E4.s1.sub, h2 _ _ (Same.refl _) E4.s1.sub, q _ G4 H3 (E2.trans E4) fun i G' H' s1 s2 => ⟨fun d e => ?_, fun e => ?_⟩⟩
  · rw [List.getElem?_map] at e
    obtain ⟨⟨p1, p2⟩, z1, rfl⟩ := Option.map_eq_some_iff.mp e
    obtain ⟨z3, z4⟩ := List.getElem?_zip_eq_some.mp z1
    obtain ⟨v1, w1, w2⟩ := l1.get z3
    obtain ⟨v2, w3, w4⟩ := l2.get z4
    refine ⟨⟨vs, ws, v1, v2, h1 _ _ s1 s2, h2 _ _ s1 s2, w1, w3⟩, fun x H'' ⟨T, x1, x2, y5, y6, y7, y8, y9⟩ => ?_⟩
    subst y5 y7
    have c1 := y8 vs (h1 _ _ s1 s2)
    have c2 := y9 ws (h2 _ _ s1 s2)
    rw [w1] at c1; cases c1
    rw [w3] at c2; cases c2
    exact ⟨upd G' T (.tup [v1, v2]), Gro.new s2 y6, Rep.newTup (K := K) s2 y6 (RepL.cons (w2.mono s1) (RepL.cons (w4.mono s1) RepL.nil))⟩
  · rw [List.length_map, List.length_zip, ← l1.length, ← l2.length] at e
    exact ⟨vs, ws, h1 _ _ s1 s2, h2 _ _ s1 s2, by omega⟩
end
end Fw

set_option maxHeartbeats 4000000
/-! FwE: methods that read; dicts written; sorted by a key. -/
namespace Fw
open PySem PySem.Calls PySem.Spec PyProof.Rows L2
section
variable {X : Cx} {B : Fb} {H0 : Hp}
theorem strs_rep {K : PySem.W.Frag} {G : Hp} : ∀ {vs : List V} {ds : List D} {bs : List Str}, RepL K G vs ds → D.strs ds = some bs → vs = bs.map V.str
  | _, _, _, .nil, e => by cases e; rfl
  | _, _, _, .cons h l, e => by
    cases h with
    | str b =>
      obtain ⟨r, e1, rfl⟩ := Option.map_eq_some_iff.mp (show (D.strs _).map (b :: ·) = some _ from e)
      rw [strs_rep l e1]; rfl
    | _ => cases e
theorem chkStr_inv {t : T} {a : Str} (h : chkStr t = some a) : t = .d (.str a) := by
  unfold chkStr at h
  split at h
  · cases h; rfl
  · cases h
/-- a text's method of one argument -/
theorem bm1_ok {K : PySem.W.Frag} {m : Bm} {f : List Sl → Rs T} {g : List Sl → Rs (List T)} {σ : St} {H : Hp} {Q : VK} (h : tM K B H0 (fun ρ => (f ρ).bind fun r => (chkStr r.1).bind fun z => (g r.2).bind fun s => vws (bmF m z) s.2 s.1) σ H Q) :
    tM K B H0 f σ H fun x H1 => ∃ a, x = .str a ∧ tMA K B H0 g σ H1 fun ys H2 => ∃ G ds t, Same G H2 ∧ VRepL K G H2 ys ds ∧ bmF m a ds = some t ∧ Fin1 K G H2 t Q := by
  obtain ⟨G, ρ, t, ρ', s, e, q⟩ := h
  obtain ⟨⟨t1, ρ1⟩, e1, e⟩ := Option.bind_eq_some_iff.mp e
  obtain ⟨z, e2, e⟩ := Option.bind_eq_some_iff.mp e
  obtain ⟨⟨ts, ρ2⟩, e3, e⟩ := Option.bind_eq_some_iff.mp e
  obtain ⟨xs, v1, hf, rfl⟩ := vws_inv e
  have := chkStr_inv e2
  dsimp only at this
  subst this
  refine ⟨G, ρ, _, ρ1, s, e1, fun v G1 H1 E1 T1 => ?_⟩
  cases (show Rep K G1 v (.str z) from T1)
  refine ⟨z, rfl, G1, ρ1, ts, _, E1.s1, e3, fun ys G2 H2 E2 T2 => ?_⟩
  have E := E1.trans E2
  exact ⟨G2, xs, t, E.s1.sub, views_ok E.s1 T2 v1, hf, fun v G3 H3 g p => q v G3 H3 (E.gro g) (p.t E)⟩
theorem tM_imp' {K : PySem.W.Frag} {g : List Sl → Rs T} {σ : St} {H : Hp} {Q Q' : VK} (h : tM K B H0 g σ H Q) (f : ∀ v H', Q v H' → Q' v H') : tM K B H0 g σ H Q' := by
  obtain ⟨G, ρ, t, ρ', s, e, q⟩ := h
  exact ⟨G, ρ, t, ρ', s, e, fun v G' H' E r => f _ _ (q v G' H' E r)⟩
theorem chkDic_inv {ρ : List Sl} {t : T} {u : Unit} (h : chkDic ρ t = some u) : ∃ ks vs, view ρ t = some (.dic ks vs) := by
  unfold chkDic at h
  split at h
  · rename_i hi
    unfold isDicO at hi
    split at hi
    · rename_i ks vs e; exact ⟨ks, vs, e⟩
    · cases hi
  · cases h
/-- a dict's get -/
def tGet (K : PySem.W.Frag) (td : TE) (ta : TA) : TE := fun σ H Q => td σ H fun x H1 => (∃ G ks vs, Same G H1 ∧ VRep K G H1 x (.dic ks vs)) ∧ ta σ H1 fun ys H2 => ∃ G d es t, Same G H2 ∧ VRep K G H2 x d ∧ RepL K G ys es ∧ dgetF d es = some t ∧ Fin1 K G H2 t Q
theorem dget_ok {K : PySem.W.Frag} {f : List Sl → Rs T} {g : List Sl → Rs (List T)} {σ : St} {H : Hp} {Q : VK} (h : tM K B H0 (fun ρ => (f ρ).bind fun r => (chkDic r.2 r.1).bind fun _ => (g r.2).bind fun s => (Ds s.1).bind fun es => vw1 (fun d => dgetF d es) s.2 r.1) σ H Q) :
    tGet K (tM K B H0 f) (tMA K B H0 g) σ H Q := by
  obtain ⟨G, ρ, t, ρ', s, e, q⟩ := h
  obtain ⟨⟨t1, ρ1⟩, e1, e⟩ := Option.bind_eq_some_iff.mp e
  obtain ⟨_, e2, e⟩ := Option.bind_eq_some_iff.mp e
  obtain ⟨⟨ts, ρ2⟩, e3, e⟩ := Option.bind_eq_some_iff.mp e
  obtain ⟨es, e4, e⟩ := Option.bind_eq_some_iff.mp e
  obtain ⟨x, v1, hf, rfl⟩ := vw1_inv e
  obtain ⟨ks, vs, v0⟩ := chkDic_inv e2
  refine ⟨G, ρ, t1, ρ1, s, e1, fun v G1 H1 E1 T1 => ⟨⟨G1, ks, vs, E1.s1.sub, view_ok E1.s1 T1 v0⟩, G1, ρ1, ts, _, E1.s1, e3, fun ys G2 H2 E2 T2 => ?_⟩⟩
  have E := E1.trans E2
  exact ⟨G2, x, es, t, E.s1.sub, view_ok E.s1 (T1.move E1 E2) v1, Ds_ok T2 e4, hf, fun v G3 H3 g p => q v G3 H3 (E.gro g) (p.t E)⟩
theorem pe_get {o e : Expr} {es : List Expr} {td : TE} {ta : TA} {apos cpos : Pos} (hu : X.A.units + 80 < cLine) (ho : PE X o td) (ha : PA X (e :: es) ta) (hbase : attributeBase o "get" X.env (eval o X.env) = eval o X.env)
    (hfew : ((backTo cpos (starEach (e :: es) X.env)).all (fun x => !x.1) && (backToKw cpos (keywordEach [] X.env)).all (fun x => x.1.isSome)
      && decide ((e :: es).length + ([] : List Keyword).length + (if ([] : List Keyword).isEmpty then 0 else 1) < 30)) = true)
    (hline : (apos.endLine == cpos.line) = true) (hs : starEach (e :: es) X.env = (false, eval e X.env) :: starEach es X.env) (hplain : (backTo cpos (starEach es X.env)).any (·.1) = false) :
    PE X (.Call (.Attribute o "get" apos) (e :: es) [] cpos) (tGet X.K td ta) := by
  refine ⟨fun pins s σ H Q I h => ?_⟩
  refine wpAny_Call_method_late hbase hfew hline rfl (thn (ho.run pins s σ H _ I h) fun u s1 ⟨x, H1, I1, rx, ⟨G1, ks1, vs1, sg1, hx1⟩, q1⟩ => ?_)
  obtain ⟨t1, t2⟩ := dq_typeIs I1 hx1 rx
  refine ⟨"dict", _, PySem.F.plainAttrs_dict, PySem.F.slot_dict_get, PySem.F.type_dict_get, t1, t2, ?_⟩
  have hA := ha.run cpos pins s1 σ H1 _ I1 q1
  rw [hs] at hA ⊢
  refine Calls.callWith_builtin (by show (false || (backTo cpos (starEach es X.env)).any (·.1)) = false; rw [hplain] <;> rfl) (Calls.evalArgs_plain ?_)
  refine thn hA fun us s2 ⟨ys, H2, I2, r2, G, d, ds, t, sg, hx, hy, hf, q2⟩ => ?_
  unfold dgetF at hf
  split at hf
  · split at hf
    · rename_i ks vs k hok
      cases hf
      cases hy with
      | cons hk hn =>
        cases hn
        cases r2 with
        | cons ra rb =>
          cases rb
          exact dq_get1 (by omega) I2 sg hx (VRep.of_rep sg hk) hok rx ra fun z w' s' I' rz r => ⟨z, H2, I', rz, fin_d sg q2 r⟩
    · cases hf
  · split at hf
    · rename_i ks vs k x' hok
      cases hf
      cases hy with
      | cons hk hn =>
        cases hn with
        | cons hx' hn =>
          cases hn
          cases r2 with
          | cons ra rb =>
            cases rb with
            | cons rc rd =>
              cases rd
              exact dq_get2 (by omega) I2 sg hx (VRep.of_rep sg hk) hok rx ra rc hx' fun z w' s' I' rz r => ⟨z, H2, I', rz, fin_d sg q2 r⟩
    · cases hf
  · cases hf
/-- {} -/
theorem dnew_ok {K : PySem.W.Frag} {σ : St} {H : Hp} {Q : VK} (h : tM K B H0 (fun ρ => some (.new (.dic [] []), ρ)) σ H Q) : tDNewK σ H Q := by
  obtain ⟨G, ρ, t, ρ', s, e, q⟩ := h
  cases e
  exact fun p hp => q _ G _ ((EI.refl s).gro (Gro.tmp s.sub hp)) ⟨p, rfl, ⟨_, upd_same, s.sub.free hp, .inl ⟨[], rfl, rfl, .nil⟩⟩, hp⟩
/-- sorted(.., key=f) -/
def rSrtK (K : PySem.W.Frag) (call : Str → List Arg → Option (T × List Sl)) (f : Str) (fa : Addr) : List V → List V → Hp → VK → Prop := fun vs zs H Q => ∃ G x d t, vs = [x] ∧ zs = [.ref fa] ∧ Same G H ∧ VRep K G H x d ∧ srtkF call f d = some t ∧ Fin1 K G H t Q
theorem cr_srtk {call : Str → List Arg → Option (T × List Sl)} {f : Str} {fa : Addr} {fd : FuncData} {ps : List Str} {k : Nat} (F : FnOk X.prog X.w X.K X.mg X.base CX0 k fa fd ps (spF X.K call f 1)) (hb : Binds X.K fd ps []) (hr : Room (k + 1) X.A) :
    CallRK X (.builtin "sorted") [Str.ofString "key"] (rSrtK X.K call f fa) := by
  intro pins s σ H vs zs us ws Q I rv rz ⟨G, x, d, t, e1, e2, sg, hx, hf, q⟩
  subst e1 e2
  obtain ⟨w1, rfl, rw1⟩ := vals1 rz
  obtain rfl : w1 = Value.ref fa := rw1
  obtain ⟨u1, rfl, ru1⟩ := vals1 rv
  obtain ⟨ds, f1, hf⟩ := Option.bind_eq_some_iff.mp hf
  obtain ⟨ks, f2, hf⟩ := Option.bind_eq_some_iff.mp hf
  split at hf
  · rename_i hok
    cases hf
    have src : ∃ a ws, x = .ref a ∧ RepL X.K G ws ds ∧ ws.length ≤ sizeLine ∧ Coll X s ws a := by
      unfold srtIt at f1
      split at f1
      · cases f1
        obtain ⟨a, ws, rfl, q1, l⟩ := hx
        obtain ⟨its, r, pl, hz⟩ := I.list (show SqL X.K H a ws from .inl (.inl q1))
        exact ⟨a, ws, rfl, l, hz, coll_list I (.inl (.inl q1))⟩
      · cases f1
        obtain ⟨a, ws, e, l, hz, coll⟩ := coll_dict I hr.hd sg hx
        exact ⟨a, ws, e, l, hz, coll⟩
      · cases f1
    obtain ⟨a, ws, rfl, l, hz, coll⟩ := src
    obtain rfl : u1 = Value.ref a := ru1
    refine sort_key F hb hr I sg coll l hz f2 hok fun G' H' p out g1 g2 kp gp hp fp lo => q _ G' H' ⟨g1, fun b o e => (kp b o e).1, g2, fun b z gb => ?_⟩ ⟨p, rfl, ⟨out, hp, gp, lo⟩, fp⟩
    cases eb : H b with
    | none => exact absurd eb z
    | some o => exact (kp b o eb).2 gb
  · cases hf
theorem srtk_ok {K : PySem.W.Frag} {call : Str → List Arg → Option (T × List Sl)} {f : Str} {fa : Addr} {g : List Sl → Rs T} {σ : St} {H : Hp} {Q : VK} (h : tM K B H0 (fun ρ => (g ρ).bind fun r => vw1 (srtkF call f) r.2 r.1) σ H Q) :
    tCKw (rSrtK K call f fa) (tCons (tM K B H0 g) tNil) (tCons (tC (.ref fa)) tNil) σ H Q := by
  obtain ⟨G, ρ, t, ρ', s, e, q⟩ := h
  obtain ⟨⟨t1, ρ1⟩, e1, e⟩ := Option.bind_eq_some_iff.mp e
  obtain ⟨x, v1, hf, rfl⟩ := vw1_inv e
  exact ⟨G, ρ, t1, _, s, e1, fun v G1 H1 E1 T1 => ⟨G1, v, x, t, rfl, rfl, E1.s1.sub, view_ok E1.s1 T1 v1, hf, fun v G3 H3 g p => q v G3 H3 (E1.gro g) (p.t E1)⟩⟩

/-! ### a written dict -/
def trsOf (K : PySem.W.Frag) (B : Fb) (H0 : Hp) (C : Cfg) : List Key → IAs → List (TE × TE)
  | k :: ks, .cons a r => (tC (kV k), tM K B H0 (evE C a)) :: trsOf K B H0 C ks r
  | _, _ => []
theorem disp_run {K : PySem.W.Frag} {C : Cfg} {σ : St} : ∀ {as : IAs} {ks : List Key} {G H : Hp} {ρ ρ' : List Sl} {ts : List T} {Q : List (V × V) → Hp → Prop}, StRep K B H0 G H σ ρ → evA C 2 as ρ = some (ts, ρ') → ks.length = ts.length →
    (∀ vs G' H', EI K B H0 σ G H ρ G' H' ρ' → TRepL K H G' H' σ vs ts → Q ((ks.map kV).zip vs) H') → tPairs (trsOf K B H0 C ks as) σ H Q
  | .nil, ks, G, H, ρ, ρ', ts, Q, s, e, hl, k => by
    unfold evA at e
    cases e
    have : ks = [] := List.eq_nil_of_length_eq_zero hl
    subst this
    exact k [] G H (EI.refl s) trivial
  | .cons a r, ks, G, H, ρ, ρ', ts, Q, s, e, hl, k => by
    unfold evA at e
    obtain ⟨⟨t1, ρ1⟩, e1, e⟩ := Option.bind_eq_some_iff.mp e
    obtain ⟨⟨u, ρ2⟩, e2, e⟩ := Option.bind_eq_some_iff.mp e
    obtain ⟨⟨us, ρ3⟩, e3, e⟩ := Option.bind_eq_some_iff.mp e
    cases e
    cases ks with
    | nil => simp at hl
    | cons k0 ks =>
      refine ⟨G, ρ, t1, ρ1, s, e1, fun v G1 H1 E1 T1 => ?_⟩
      obtain ⟨G2, E2, _, T2⟩ := taken_ok E1 T1 e2
      exact disp_run (K := K) (C := C) (σ := σ) (as := r) (ks := ks) E2.s1 e3 (by simpa using hl) fun vs G3 H3 E3 T3 => k (v :: vs) G3 H3 (E2.trans E3) ⟨T2.move E2 E3, T3.back E2⟩
theorem putK_nw {kvs : List (Key × V)} {k : Key} {v : V} (h : k ∉ kvs.map (·.1)) : putK kvs k v = kvs ++ [(k, v)] := by
  unfold putK
  rw [if_neg]
  intro z
  obtain ⟨p, h1, h2⟩ := List.any_eq_true.mp z
  exact h (List.mem_map.mpr ⟨p, h1, of_decide_eq_true h2⟩)
theorem mergeK_new : ∀ {more kvs : List (Key × V)}, (kvs.map (·.1) ++ more.map (·.1)).Nodup → mergeK kvs more = kvs ++ more
  | [], kvs, _ => by simp [mergeK]
  | p :: r, kvs, h => by
    have h1 : p.1 ∉ kvs.map (·.1) := fun z => (List.nodup_append.mp h).2.2 _ z _ (List.mem_cons_self ..) rfl
    have := mergeK_new (more := r) (kvs := kvs ++ [p]) (by simpa using h)
    show mergeK (putK kvs p.1 p.2) r = _
    rw [putK_nw h1, this]; simp
/-- {const: e, ..} -/
theorem dsp_ok {K : PySem.W.Frag} {C : Cfg} {ks : List Key} {as : IAs} {σ : St} {H : Hp} {Q : VK} (h : tM K B H0 (fun ρ => (evA C 2 as ρ).bind fun s => (Ds s.1).bind fun es => (dspF ks es).map fun t => (t, s.2)) σ H Q) :
    tDisp (trsOf K B H0 C ks as) σ H Q := by
  obtain ⟨G, ρ, t, ρ', s, e, q⟩ := h
  obtain ⟨⟨ts, ρ1⟩, e1, e⟩ := Option.bind_eq_some_iff.mp e
  obtain ⟨es, e2, e⟩ := Option.bind_eq_some_iff.mp e
  obtain ⟨t', e3, e⟩ := Option.map_eq_some_iff.mp e
  cases e
  unfold dspF at e3
  split at e3
  · rename_i hk
    obtain ⟨k1, k2, k3⟩ := hk
    cases e3
    intro p hp
    have E0 := (EI.refl s).gro (Gro.tmp (o := .dK []) s.sub hp)
    have nO : ¬ Ow σ ρ p := fun z => s.alive z hp
    have hl : ks.length = ts.length := by
      rw [k2]
      have : ∀ {ts : List T} {es : List D}, Ds ts = some es → es.length = ts.length := fun {ts} => by
        induction ts with
        | nil => intro es e; cases e; rfl
        | cons t ts ih =>
          intro es e
          cases t with
          | d d => obtain ⟨u, e1, rfl⟩ := Option.map_eq_some_iff.mp (show (Ds ts).map (d :: ·) = some es from e); simp [ih e1]
          | _ => cases e
      exact this e2
    refine disp_run E0.s1 e1 hl fun vs G' H' E T => ?_
    obtain ⟨h1, g1⟩ := E.st.keep p _ upd_same nO
    have g2 := g1 (s.sub.free hp)
    have l := Ds_ok T e2
    have hv : ks.length = vs.length := by rw [k2, l.length]
    have z1 : (ks.zip vs).map (·.1) = ks := List.map_fst_zip (by omega)
    have z2 : (ks.zip vs).map (·.2) = vs := List.map_snd_zip (by omega)
    refine ⟨h1, ks.zip vs, ?_, ?_, ?_⟩
    · rw [List.zip_map_left]; rfl
    · rw [List.length_zip]; omega
    · rw [mergeK_new (by simpa [z1] using k3)]
      refine q _ G' _ ((E0.trans E).tmpSet hp g2) ⟨p, rfl, ⟨_, upd_same, g2, .inl ⟨ks.zip vs, rfl, ?_, ?_⟩⟩, hp⟩
      · have : (ks.zip vs).map (fun p => keyD p.1) = ((ks.zip vs).map (·.1)).map keyD := by rw [List.map_map]; rfl
        rw [this, z1]
      · rw [z2]; exact l
  · cases e3
end
end Fw

set_option maxHeartbeats 4000000
/-! FwO: an object's fields and methods. -/
namespace Fw
open PySem PySem.Calls PySem.Spec PyProof.Rows L2
theorem ht_ok {o : Expr} {m : Str} {apos pos : Pos} {args : List Expr} {env : Env} (hb : attributeBase o m env (eval o env) = eval o env) (hs : (starEach args env).any (·.1) = false) (hn : args.length < 29) (hl : (apos.endLine == pos.line) = true) :
    ∃ pl, eval (.Call (.Attribute o m apos) args [] pos) env = (do
      let ov ← eval o env
      standAt apos.atName
      let (f, first) ← holding [ov] (getMethod ov m pl)
      callWith pos f first (backTo pos (starEach args env)) (backToKw pos (keywordEach [] env))) := by
  have hf : methodCallForm (args.length + ([] : List Keyword).length) (backTo pos (starEach args env)) (backToKw pos (keywordEach [] env)) = true := by
    have h1 : (backTo pos (starEach args env)).all (fun x => !x.1) = true := by
      have := back_any (pos := pos) hs
      rw [List.all_eq_not_any_not]
      simpa using this
    unfold methodCallForm
    rw [h1]
    simp [keywordEach, backToKw]
    omega
  have hp : methodCallPos true o env apos pos = pure pos := by unfold methodCallPos; simp [hl]
  refine ⟨(do return (← importBound o env).getD true), ?_⟩
  rw [arm_eval_Call, hb]
  unfold methodCall
  rw [hf, hp]
  simp [calleeOf]
theorem lookup_at {α : Type} : ∀ {l : List (Str × α)} {k : Nat} {f : Str} {v : α}, (l.map (·.1)).Nodup → l[k]? = some (f, v) → l.lookup f = some v
  | [], k, f, v, _, h => by simp at h
  | p :: r, 0, f, v, nd, h => by
    simp at h
    subst h
    simp [List.lookup_cons]
  | p :: r, k + 1, f, v, nd, h => by
    rw [List.map_cons, List.nodup_cons] at nd
    have h' : r[k]? = some (f, v) := by simpa using h
    have ne : (f == p.1) = false := by
      cases q : (f == p.1) with
      | false => rfl
      | true => exact absurd (List.mem_map.mpr ⟨(f, v), List.mem_of_getElem? h', (eq_of_beq q)⟩) nd.1
    rw [List.lookup_cons, ne]
    exact lookup_at nd.2 h'
theorem lookup_no {α : Type} : ∀ {l : List (Str × α)} {f : Str}, f ∉ l.map (·.1) → l.lookup f = none
  | [], f, _ => rfl
  | p :: r, f, h => by
    rw [List.map_cons, List.mem_cons, not_or] at h
    have ne : (f == p.1) = false := by simpa using h.1
    rw [List.lookup_cons, ne]
    exact lookup_no h.2
section
variable {n : Nat} {C : Cfg} {B : Fb} {S : Sx} {X : Cx} {H0 : Hp}
theorem pe_fldI {i : Nat} {s f : Str} {p pos : Pos} (c : CxOk n C B S X) (h : okFld S i s f = true) : PE X (.Attribute (.Name s p) f pos) (tM X.K B H0 (evE C (.var i))) := by
  unfold okFld at h
  rw [Bool.and_eq_true] at h
  obtain ⟨h0, h⟩ := h
  unfold okVar at h0
  simp only [Bool.and_eq_true, decide_eq_true_eq, Bool.not_eq_true'] at h0
  split at h
  · rename_i cd hme
    simp only [Bool.and_eq_true, decide_eq_true_eq] at h
    obtain ⟨hi, hk⟩ := h
    obtain ⟨p0, Ca, dx, fvs, b0, hinv, co, e1, nd, hp⟩ := c.me cd hme
    refine PE.imp (pe_fld (pe_var (i := 0) (by rw [c.N]; exact h0.1.1.1) (c.vis_of h0.1.1.2) h0.1.2 h0.2) rfl) fun σ H Q w => ?_
    obtain ⟨G, ρ, t, ρ', s, e, q⟩ := w
    have g := hinv G s.bi
    have hH := s.sub _ _ g
    have s0 := (s.pin 0 p0 b0).1
    have hf : ∃ v, fvs[i - S.gi]? = some (f, v) := by
      rw [← e1, List.getElem?_map] at hk
      obtain ⟨q, z1, z2⟩ := Option.map_eq_some_iff.mp hk
      exact ⟨q.2, by rw [z1, ← z2]⟩
    obtain ⟨v, hv⟩ := hf
    obtain ⟨a, ea, hb⟩ := hp _ _ hv
    dsimp only at ea
    subst ea
    rw [Nat.add_sub_cancel' hi] at hb
    obtain ⟨si, sl, hsl, hpn⟩ := s.pin i a hb
    refine ⟨.ref p0, s0, p0, Ca, dx, fvs, .ref a, rfl, hH, co.cls, co.no f (List.mem_of_getElem? hk), lookup_at (by rw [e1]; exact nd) hv, ?_⟩
    unfold evE at e
    rw [hsl] at e
    cases sl with
    | no => cases hpn
    | d d => cases hpn
    | own o => cases hpn
    | bor o => cases e; exact q _ G H (EI.refl s) si
    | fz d =>
      cases e
      obtain ⟨v, f1, r⟩ := s.at_ i _ hsl
      rw [si] at f1
      cases f1
      exact q _ G H (EI.refl s) r
  · cases h
end
section
variable {K : PySem.W.Frag} {B : Fb} {H0 G H G' H' G1 H1 G2 H2 Gs Hs : Hp} {σ : St} {ρ ρ' ρs ρ1 ρ2 : List Sl}
theorem TRepL.app : ∀ {vs ws : List V} {ts us : List T}, TRepL K Hs G H σ vs ts → TRepL K Hs G H σ ws us → TRepL K Hs G H σ (vs ++ ws) (ts ++ us)
  | [], ws, ts, us, h, h' => by
    cases ts with
    | nil => exact h'
    | cons => exact h.elim
  | v :: vs, ws, ts, us, h, h' => by
    cases ts with
    | nil => exact h.elim
    | cons t ts => exact ⟨h.1, TRepL.app h.2 h'⟩
/-- a call whose values stand ready -/
theorem callF_ok {call : Str → List Arg → Option (T × List Sl)} {f : Str} {ts : List T} {vs : List V} {t : T} {Q : VK} (E : EI K B H0 σ Gs Hs ρs G H ρ) (T : TRepL K Hs G H σ vs ts) (e : callF call f ts ρ = some (t, ρ'))
    (q : ∀ v G' H', EI K B H0 σ Gs Hs ρs G' H' ρ' → TRep K Hs G' H' σ v t → Q v H') :
    ∃ args t0 bs, ArgsOk K G H vs args ∧ call f args = some (t0, bs) ∧ ∀ v G' H', CallPost K G H vs args G' H' bs → PRep K H G' H' v t0 → Q v H' := by
  unfold callF at e
  obtain ⟨args, e2, e⟩ := Option.bind_eq_some_iff.mp e
  split at e
  · rename_i nd
    obtain ⟨⟨t0, bs⟩, e3, e⟩ := Option.bind_eq_some_iff.mp e
    have fin : ∀ l, t0 = t → backs ρ ts bs = some l → ρ' = setAll ρ l → ∃ args t0 bs, ArgsOk K G H vs args ∧ call f args = some (t0, bs) ∧ ∀ v G' H', CallPost K G H vs args G' H' bs → PRep K H G' H' v t0 → Q v H' := fun l ht hb hr => by
      subst ht hr
      exact ⟨args, t0, bs, args_ok E.s1 T (fun b z => E.s0.alive (E.ow b z)) e2 nd.1 nd.2, e3, fun v G2 H2 cp pr => q v G2 H2 (back_ok E T e2 nd.1 cp hb) (pr.t E)⟩
    dsimp only at e
    split at e
    · cases e
    · rename_i t1 _
      obtain ⟨l, e4, e⟩ := Option.map_eq_some_iff.mp e
      cases e
      exact fin l rfl e4 rfl
  · cases e
end
section
variable {n : Nat} {C : Cfg} {B : Fb} {S : Sx} {X : Cx} {H0 : Hp}
/-- a method of the frame's own object -/
theorem pe_mcl {s m f : Str} {p ap cp : Pos} {x : Expr} {es : List Expr} {gs : List Nat} {as : IAs} (c : CxOk n C B S X) (h : okVar S 0 s = true) (hm : okMe S m f gs (es.length + 1) = true) (hl : (ap.endLine == cp.line) = true) (hn : es.length < 20)
    (pA : PA X (x :: es) (tMA X.K B H0 (evA C 0 as))) (hp : plainE x = true) (hs : (starEach es X.env).any (·.1) = false) (hln : ∀ ρ ts ρ', evA C 0 as ρ = some (ts, ρ') → ts.length = es.length + 1) :
    PE X (.Call (.Attribute (.Name s p) m ap) (x :: es) [] cp) (tM X.K B H0 (evE C (.mcl f gs as))) := by
  unfold okVar at h
  simp only [Bool.and_eq_true, decide_eq_true_eq, Bool.not_eq_true'] at h
  unfold okMe at hm
  split at hm
  · rename_i cd hme
    simp only [Bool.and_eq_true, decide_eq_true_eq] at hm
    obtain ⟨hm1, rfl⟩ := hm
    obtain ⟨p0, Ca, dx, fvs, b0, hinv, co, e1, nd, hpin⟩ := c.me cd hme
    obtain ⟨ng, g, fd, ps, hM, hb, F⟩ := co.me _ _ _ hm1
    have hst : starEach (x :: es) X.env = (false, eval x X.env) :: starEach es X.env := star_ok hp
    obtain ⟨pl, ht⟩ := ht_ok (o := .Name s p) (m := m) (apos := ap) (pos := cp) (args := x :: es) (env := X.env) rfl (by rw [hst]; simpa using hs) (by rw [List.length_cons]; omega) hl
    refine PE.imp (pe_meth (pl := pl) (pe_var (i := 0) (by rw [c.N]; exact h.1.1.1) (c.vis_of h.1.1.2) h.1.2 h.2) co.cls hM F c.room hb .nil pass0 pA hst (back_any hs) ht) fun σ H Q w => ?_
    have w' : tM X.K B H0 (fun ρ => evE C (.mcl f _ as) ρ) σ H Q := w
    unfold evE at w'
    obtain ⟨G, ρ, t, ρ', s, e, q⟩ := w'
    obtain ⟨⟨ts, ρ1⟩, e1', e⟩ := Option.bind_eq_some_iff.mp e
    have g0 := hinv G s.bi
    refine ⟨.ref p0, (s.pin 0 p0 b0).1, p0, dx, fvs, rfl, s.sub _ _ g0, lookup_no (by rw [e1]; exact ng), G, ρ, ts, ρ1, s, e1', fun vs G1 H1 E T => ?_⟩
    have fl : TRepL X.K H G1 H1 σ (fvs.map (·.2)) (((List.range cd.gh.length).map (· + S.gi)).map .sl) := by
      have hlen : cd.gh.length = fvs.length := by rw [← e1, List.length_map]
      rw [hlen]
      have go : ∀ (l : List (Str × V)) (j : Nat), (∀ (k : Nat) (q : Str × V), l[k]? = some q → ∃ a, q.2 = V.ref a ∧ B.p (S.gi + (j + k)) = some a) →
          TRepL X.K H G1 H1 σ (l.map (·.2)) (((List.range' j l.length).map (· + S.gi)).map .sl) := by
        intro l
        induction l with
        | nil => intro j _; trivial
        | cons q l ih =>
          intro j hh
          rw [List.length_cons, List.range'_succ]
          refine ⟨?_, ih (j + 1) fun k q' e => ?_⟩
          · obtain ⟨a, ea, hb⟩ := hh 0 q rfl
            show σ[j + S.gi]? = some (some q.2)
            rw [ea, Nat.add_comm]
            exact (E.s1.pin _ _ hb).1
          · have := hh (k + 1) q' (by simpa using e)
            rw [show j + 1 + k = j + (k + 1) by omega]
            exact this
      have := go fvs 0 (by simpa using hpin)
      rw [List.range_eq_range']
      exact this
    have TT : TRepL X.K H G1 H1 σ (V.ref p0 :: (vs ++ fvs.map (·.2))) (.sl 0 :: (ts ++ ((List.range cd.gh.length).map (· + S.gi)).map .sl)) := ⟨(E.s1.pin 0 p0 b0).1, TRepL.app T fl⟩
    obtain ⟨args, t0, bs, a1, a2, a3⟩ := callF_ok E TT e q
    show spM X.K C.call f Ca cd.gh (es.length + 1) (V.ref p0 :: (vs ++ [])) H1 Q E0
    rw [List.append_nil]
    exact ⟨G1, args, t0, bs, p0, dx, fvs, vs, rfl, by rw [T.len]; exact hln _ _ _ e1', hinv G1 E.s1.bi, e1, E.s1.sub, a1, fun k q e => (hpin k q e).imp fun a z => z.1, a2, a3⟩
  · cases hm
theorem Rep.isRef {K : PySem.W.Frag} {G : Hp} {v : V} {d : D} (h : Rep K G v d) (r : d.isRef = true) : ∃ a, v = .ref a := by
  cases h with
  | tup _ _ => exact ⟨_, rfl⟩
  | lst _ _ => exact ⟨_, rfl⟩
  | rd _ _ => exact ⟨_, rfl⟩
  | dicS _ _ => exact ⟨_, rfl⟩
  | dicT _ _ _ _ => exact ⟨_, rfl⟩
  | _ => cases r
/-- what __init__ leaves -/
theorem Ini.ok {K : PySem.W.Frag} {us : List V} {x Ca dx : Addr} {G1 H1 Hs : Hp} {σ : St} {ds : List D} (sg : Same G1 H1) (hx : H1 x = none) (rs : RepL K G1 us ds) (al : ∀ b, Hs b ≠ none → H1 b ≠ none) {fs fvs : List (Str × V)} {r : List (Str × FI)} {H H' : Hp} (i : Ini us x Ca dx fs r H fvs H') :
    Same H1 H → H x = some (.ins Ca dx fs) → ∀ ft, fldT (r.map (·.2)) ds = some ft →
    Same H1 H' ∧ H' x = some (.ins Ca dx fvs) ∧ (∀ b o, b ≠ x → H b = some o → H' b = some o) ∧ ∃ new : List (Str × V), fvs = fs ++ new ∧ new.map (·.1) = r.map (·.1) ∧ (∀ q ∈ new, ∃ a, q.2 = V.ref a) ∧
      ∀ o, TRepL K Hs (upd G1 x o) H' σ (new.map (·.2)) ft := by
  have gx : ∀ o, Same G1 (upd G1 x o) := fun o b y e => by
    have hb : b ≠ x := fun z => by subst z; rw [sg.free hx] at e; cases e
    rw [upd_ne hb]; exact e
  induction i with
  | nil =>
    intro s1 h1 ft hf
    cases hf
    exact ⟨s1, h1, fun b o _ e => e, [], by simp, rfl, fun q hq => absurd hq List.not_mem_nil, fun o => trivial⟩
  | @arg fs fvs H H' f k v r hv i ih =>
    intro s1 h1 ft hf
    obtain ⟨d, e1, hf⟩ := Option.bind_eq_some_iff.mp (show (ds[k]?).bind (fun d => if d.isRef then (fldT (r.map (·.2)) ds).map (T.d d :: ·) else none) = some ft from hf)
    split at hf
    · rename_i hr
      obtain ⟨ft', e2, rfl⟩ := Option.map_eq_some_iff.mp hf
      have s2 : Same H1 (upd H x (.ins Ca dx (fs ++ [(f, v)]))) := fun b y e => by
        have hb : b ≠ x := fun z => by subst z; rw [hx] at e; cases e
        rw [upd_ne hb]; exact s1 _ _ e
      obtain ⟨q1, q2, q3, new, q4, q5, q6, q7⟩ := ih s2 upd_same ft' e2
      obtain ⟨v', f1, f2⟩ := rs.get e1
      rw [hv] at f1; cases f1
      refine ⟨q1, q2, fun b o hb e => q3 b o hb (by rw [upd_ne hb]; exact e), (f, v) :: new, by rw [q4]; simp, by simp [q5], fun q hq => ?_, fun o => ⟨?_, q7 o⟩⟩
      · rcases List.mem_cons.mp hq with rfl | hq
        · exact f2.isRef hr
        · exact q6 q hq
      · exact f2.mono (gx o)
    · cases hf
  | @dict fs fvs H H' f a r ha i ih =>
    intro s1 h1 ft hf
    obtain ⟨ft', e2, rfl⟩ := Option.map_eq_some_iff.mp (show (fldT (r.map (·.2)) ds).map (T.new (.dic [] []) :: ·) = some ft from hf)
    have nx : a ≠ x := fun z => by subst z; rw [h1] at ha; cases ha
    have s2 : Same H1 (upd (upd H a (.dK [])) x (.ins Ca dx (fs ++ [(f, .ref a)]))) := fun b y e => by
      have hb : b ≠ x := fun z => by subst z; rw [hx] at e; cases e
      have hb2 : b ≠ a := fun z => by subst z; rw [s1 _ _ e] at ha; cases ha
      rw [upd_ne hb, upd_ne hb2]; exact s1 _ _ e
    obtain ⟨q1, q2, q3, new, q4, q5, q6, q7⟩ := ih s2 upd_same ft' e2
    have ha1 : H1 a = none := s1.free ha
    refine ⟨q1, q2, fun b o hb e => q3 b o hb ?_, (f, .ref a) :: new, by rw [q4]; simp, by simp [q5], fun q hq => ?_, fun o => ⟨?_, q7 o⟩⟩
    · have n2 : b ≠ a := fun z => by subst z; rw [ha] at e; cases e
      rw [upd_ne hb, upd_ne n2]; exact e
    · rcases List.mem_cons.mp hq with rfl | hq
      · exact ⟨a, rfl⟩
      · exact q6 q hq
    · refine ⟨a, rfl, ⟨.dK [], q3 a _ nx (by rw [upd_ne nx, upd_same]), by rw [upd_ne nx]; exact sg.free ha1, .inl ⟨[], rfl, rfl, .nil⟩⟩, ?_⟩
      cases z : Hs a with
      | none => rfl
      | some o => exact absurd ha1 (al a (by rw [z]; simp))
theorem zip_f1 {α β : Type} {l : List α} {r : List β} (h : l.length = r.length) : (l.zip r).map (·.1) = l := List.map_fst_zip (by omega)
theorem zip_s2 {α β : Type} {l : List α} {r : List β} (h : l.length = r.length) : (l.zip r).map (·.2) = r := List.map_snd_zip (by omega)
/-- a new object's method -/
theorem pe_obc {cn m f : Str} {p ap cp p1 : Pos} {x y : Expr} {xs ys : List Expr} {fi : List FI} {as bs : IAs} (c : CxOk n C B S X) (hg : isGl S.sc cn = true) (hd : (cn == ("__debug__" : Str)) = false) (hm : okCl S cn m f fi (ys.length + 1) (xs.length + 1) = true) (hl : (ap.endLine == cp.line) = true) (hn : xs.length < 20)
    (pA : PA X (y :: ys) (tMA X.K B H0 (evA C 2 as))) (pB : PA X (x :: xs) (tMA X.K B H0 (evA C 0 bs))) (hpy : plainE y = true) (hpx : plainE x = true) (hsy : (starEach ys X.env).any (·.1) = false) (hsx : (starEach xs X.env).any (·.1) = false)
    (hla : ∀ ρ ts ρ', evA C 2 as ρ = some (ts, ρ') → ts.length = ys.length + 1) (hlb : ∀ ρ ts ρ', evA C 0 bs ρ = some (ts, ρ') → ts.length = xs.length + 1) :
    PE X (.Call (.Attribute (.Call (.Name cn p) (y :: ys) [] p1) m ap) (x :: xs) [] cp) (tM X.K B H0 (evE C (.obc f fi as bs))) := by
  unfold okCl at hm
  split at hm
  · rename_i cd hcl
    simp only [Bool.and_eq_true, decide_eq_true_eq] at hm
    obtain ⟨⟨hm1, rfl⟩, hna⟩ := hm
    by_cases hn0 : ¬ 2 ≤ n
    · have up := c.fn0
      refine ⟨fun pins s σ H Q I w => ?_⟩
      obtain ⟨G, ρ, t, ρ', s', e, q⟩ := w
      unfold evE at e
      rw [up, if_neg hn0] at e
      cases e
    · obtain ⟨Ca, fa, fd0, ps0, mg0, co, mk, hb0, F0⟩ := c.cl cn cd hcl
      obtain ⟨ng, g, fd, ps, hM, hb, F⟩ := co.me _ _ _ hm1
      have st1 : starEach (y :: ys) X.env = (false, eval y X.env) :: starEach ys X.env := star_ok hpy
      have st2 : starEach (x :: xs) X.env = (false, eval x X.env) :: starEach xs X.env := star_ok hpx
      have pm := pe_make (p := p) (pos := p1) mk (F0 (n - 2)) (by rw [show n - 2 + 1 + 1 = n by omega]; exact c.room) (c.gl_of hg) mg0 hb0 .nil pass0 pA hd st1 (back_any hsy)
      obtain ⟨pl, ht⟩ := ht_ok (o := .Call (.Name cn p) (y :: ys) [] p1) (m := m) (apos := ap) (pos := cp) (args := x :: xs) (env := X.env) rfl (by rw [st2]; simpa using hsx) (by rw [List.length_cons]; omega) hl
      refine PE.imp (pe_meth (pl := pl) pm co.cls hM F c.room hb .nil pass0 pB st2 (back_any hsx) ht) fun σ H Q w => ?_
      have w' : tM X.K B H0 (fun ρ => evE C (.obc f cd.ini as bs) ρ) σ H Q := w
      unfold evE at w'
      rw [c.fn0] at w'
      obtain ⟨G, ρ, t, ρ', s, e, q⟩ := w'
      dsimp only at e
      rw [if_pos (by omega)] at e
      obtain ⟨⟨ts, ρ1⟩, e1, e⟩ := Option.bind_eq_some_iff.mp e
      obtain ⟨ds, e2, e⟩ := Option.bind_eq_some_iff.mp e
      obtain ⟨ft, e3, e⟩ := Option.bind_eq_some_iff.mp e
      obtain ⟨⟨us, ρ2⟩, e4, e⟩ := Option.bind_eq_some_iff.mp e
      refine ⟨G, ρ, ts, ρ1, s, e1, fun vs G1 H1 E1 T1 z dx hx hdx ne => ⟨z, dx, vs, by rw [List.append_nil], by rw [T1.len, hna]; exact hla _ _ _ e1, upd_same, fun fvs H2 ini => ⟨rfl, z, dx, fvs, rfl, ?_⟩⟩⟩
      have rs := Ds_ok T1 e2
      have s2 : Same H1 (upd (upd H1 dx (.own z)) z (.ins Ca dx [])) := fun b o e => by
        have n1 : b ≠ z := fun w => by subst w; rw [hx] at e; cases e
        have n2 : b ≠ dx := fun w => by subst w; rw [hdx] at e; cases e
        rw [upd_ne n1, upd_ne n2]; exact e
      obtain ⟨q1, q2, q3, new, q4, q5, q6, q7⟩ := Ini.ok (σ := σ) E1.s1.sub hx rs E1.st.alive ini s2 upd_same ft (by rw [zip_s2 co.lens]; exact e3)
      rw [List.nil_append] at q4
      subst q4
      rw [zip_f1 co.lens] at q5
      refine ⟨q2, lookup_no (by rw [q5]; exact ng), ?_⟩
      have gr : Gro G1 H1 (upd G1 z (.ins Ca dx fvs)) H2 := ⟨fun b o e => by
          have n1 : b ≠ z := fun w => by subst w; rw [E1.s1.sub.free hx] at e; cases e
          rw [upd_ne n1]; exact e, q1, fun b o e => by
          by_cases hb : b = z
          · subst hb; rw [upd_same] at e; cases e; exact q2
          · rw [upd_ne hb] at e; exact q1 _ _ (E1.s1.sub _ _ e), fun b hb hg => by
          have n1 : b ≠ z := fun w => by subst w; exact hb hx
          rw [upd_ne n1]; exact hg⟩
      have E2 := E1.gro gr
      refine ⟨_, ρ1, us, ρ2, E2.s1, e4, fun ws G3 H3 E3 T3 => ?_⟩
      have E := E2.trans E3
      have TT : TRepL X.K H G3 H3 σ (V.ref z :: (ws ++ fvs.map (·.2))) (.d .obj :: (us ++ ft)) := ⟨.obj _, TRepL.app (T3.back E2) (TRepL.move E2 E3 (q7 _))⟩
      obtain ⟨args, t0, bs', a1, a2, a3⟩ := callF_ok E TT e q
      show spM X.K C.call f Ca cd.gh (xs.length + 1) (V.ref z :: (ws ++ [])) H3 Q E0
      rw [List.append_nil]
      exact ⟨G3, args, t0, bs', z, dx, fvs, ws, rfl, by rw [T3.len]; exact hlb _ _ _ e4, E3.st.same _ _ upd_same, q5, E.s1.sub, a1, fun k q e => q6 q (List.mem_of_getElem? e), a2, a3⟩
  · cases hm
end
end Fw

set_option maxHeartbeats 8000000
/-! Fw11: the checked expressions are what the evaluator says. -/
namespace Fw
open PySem PySem.Spec PyProof.Rows L2

section
variable {X : Cx}
/-- a conditional expression as a test -/
theorem pt_ife {c a b : Expr} {pos : Pos} {tc t u : TT} (hc : PT X c tc) (ha : PT X a t) (hb : PT X b u) : PT X (.IfExp c a b pos) (fun σ H Q => tc σ H fun k H1 => if k = true then t σ H1 Q else u σ H1 Q) := by
  refine ⟨fun pins s σ H Q I h => ?_⟩
  show wpAny _ _ (do if ← isTrue c X.env (eval c X.env) then isTrue a X.env (eval a X.env) else isTrue b X.env (eval b X.env)) _ _ _
  refine wpAny_bind (thn (hc.run pins s σ H _ I h) fun k s1 ⟨H1, I1, q1⟩ => ?_)
  cases k with
  | true => exact ha.run pins s1 σ H1 Q I1 q1
  | false => exact hb.run pins s1 σ H1 Q I1 q1
end
theorem val_ok {e : Expr} {env : Env} (h : valE e = true) (whole : Sem Value) : isTrue e env whole = (do let v ← whole; standAt e.pos; holding [v] (truthy v)) := by
  cases e <;> first | rfl | (cases h; done) | skip
  rename_i op x p
  cases op <;> first | rfl | cases h
section
variable {n : Nat} {C : Cfg} {S : Sx} {X : Cx} {B : Fb} {H0 : Hp}
/-- what is shown of an expression -/
structure Snd (B : Fb) (H0 : Hp) (X : Cx) (e : Expr) (m : List Sl → Rs T) : Prop where
  pe : PE X e (tM X.K B H0 m)
  pt : PT X e (tMB X.K B H0 fun ρ => asB (m ρ))
  pw : (∃ op es p, e = .BoolOp op es p) → PW X e (tMB X.K B H0 fun ρ => asB (m ρ))
theorem Snd.val {e : Expr} {m : List Sl → Rs T} (h : PE X e (tM X.K B H0 m)) (hv : valE e = true) : Snd B H0 X e m :=
  ⟨h, PT.imp (pt_val h fun w => val_ok hv w) fun σ H Q q => tMB_of q, fun ⟨op, es, p, z⟩ => by subst z; cases hv⟩
theorem Snd.cmp {e : Expr} {m : List Sl → Rs T} (h : PE X e (tM X.K B H0 m)) (ht : PT X e (tMB X.K B H0 fun ρ => asB (m ρ))) (hv : ∀ op es p, e ≠ .BoolOp op es p) : Snd B H0 X e m :=
  ⟨h, ht, fun ⟨op, es, p, z⟩ => absurd z (hv op es p)⟩
theorem evA_len {m : Nat} : ∀ {as : IAs} {es : List Expr} {S : Sx}, okA S as es = true → ∀ ρ ts ρ', evA C m as ρ = some (ts, ρ') → ts.length = es.length
  | .nil, es, S, h, ρ, ts, ρ', e => by
    unfold okA at h
    cases es with
    | nil => cases e; rfl
    | cons => cases h
  | .cons a r, es, S, h, ρ, ts, ρ', e => by
    unfold okA at h
    cases es with
    | nil => cases h
    | cons x es =>
      simp only [Bool.and_eq_true] at h
      unfold evA at e
      obtain ⟨x1, _, e⟩ := Option.bind_eq_some_iff.mp e
      obtain ⟨x2, _, e⟩ := Option.bind_eq_some_iff.mp e
      obtain ⟨⟨us, ρ3⟩, e3, e⟩ := Option.bind_eq_some_iff.mp e
      cases e
      rw [List.length_cons, List.length_cons, evA_len h.2 _ _ _ e3]
theorem evA_d : ∀ {as : IAs} {ρ : List Sl} {ts : List T} {ρ' : List Sl}, evA C 2 as ρ = some (ts, ρ') → ∀ t ∈ ts, ∃ d, t = T.d d
  | .nil, ρ, ts, ρ', e, t, ht => by cases e; cases ht
  | .cons a r, ρ, ts, ρ', e, t, ht => by
    unfold evA at e
    obtain ⟨x1, _, e⟩ := Option.bind_eq_some_iff.mp e
    obtain ⟨x2, e2, e⟩ := Option.bind_eq_some_iff.mp e
    obtain ⟨⟨us, ρ3⟩, e3, e⟩ := Option.bind_eq_some_iff.mp e
    cases e
    rcases List.mem_cons.mp ht with rfl | ht
    · have e4 : (match settle x1.2 x1.1 with
        | some (d, ρ') => some (T.d d, ρ')
        | none => none) = some x2 := e2
      split at e4
      · cases e4; exact ⟨_, rfl⟩
      · cases e4
    · exact evA_d e3 t ht
/-- a method that changes the list in a slot -/
theorem mt_mut (m : Mt) : (m = .append → MtR X "list.append" (rMut X.K .append)) ∧ (m = .extend → MtR X "list.extend" (rMut X.K .extend)) ∧ (m = .pop → MtR X "list.pop" (rMut X.K .pop)) := by
  refine ⟨fun _ => ?_, fun _ => ?_, fun _ => ?_⟩
  · intro pins s σ H x vs v us Q I rx rv ⟨G, a, ws, xs, ds, d, ys, ex, hl, hg, sg, l, w, hf, hd, q⟩
    subst ex
    match ds, w, hf, hd with
    | [d'], w, hf, hd =>
      obtain ⟨y, rfl, w1⟩ := w.one
      have hf' : (if xs.length < sizeLine then some (D.non, xs ++ [d']) else none) = some (d, ys) := hf
      split at hf'
      · rename_i hz
        cases hf'
        exact mt_append pins s σ H _ _ v us Q I rx rv ⟨a, ws, y, rfl, rfl, hl, by rw [l.length]; exact hz, q _ _ .non (l.append (.cons (hd rfl y d' rfl rfl) .nil))⟩
      · cases hf'
  · intro pins s σ H x vs v us Q I rx rv ⟨G, a, ws, xs, ds, d, ys, ex, hl, hg, sg, l, w, hf, _, q⟩
    subst ex
    match ds, w, hf with
    | [d'], w, hf =>
      obtain ⟨y, rfl, w1⟩ := w.one
      obtain ⟨zs, e1, e2⟩ := Option.bind_eq_some_iff.mp (show (seqOf d').bind (fun ys => if xs.length + ys.length ≤ sizeLine then some (D.non, xs ++ ys) else none) = some (d, ys) from hf)
      split at e2
      · rename_i hz
        cases e2
        cases d' with
        | tup us' =>
          cases e1
          obtain ⟨b, bs, rfl, h1, _, l2⟩ := VRep.tupI sg w1
          exact FwX.mt_extendT pins s σ H _ _ v us Q I rx rv ⟨a, b, ws, bs, rfl, rfl, hl, h1, by rw [l.length, l2.length]; exact hz, q _ _ .non (l.append l2)⟩
        | lst us' =>
          cases e1
          obtain ⟨b, bs, rfl, h1, l2⟩ := w1
          exact mt_extend pins s σ H _ _ v us Q I rx rv ⟨a, b, ws, bs, rfl, rfl, hl, h1, by rw [l.length, l2.length]; exact hz, q _ _ .non (l.append l2)⟩
        | _ => cases e1
      · cases e2
  · intro pins s σ H x vs v us Q I rx rv ⟨G, a, ws, xs, ds, d, ys, ex, hl, hg, sg, l, w, hf, _, q⟩
    subst ex
    match ds, w, hf with
    | [], w, hf =>
      have := w.zero
      subst this
      obtain ⟨z, e1, e2⟩ := Option.map_eq_some_iff.mp (show (xs[xs.length - 1]?).map (fun d => (d, xs.dropLast)) = some (d, ys) from hf)
      cases e2
      obtain ⟨y, f1, f2⟩ := l.get e1
      exact mt_pop pins s σ H _ _ v us Q I rx rv ⟨a, ws, y, rfl, rfl, hl, by rw [l.length]; exact f1, q _ _ f2 l.dropLast⟩
    | [.int i], w, hf =>
      obtain ⟨y0, rfl, w1⟩ := w.one
      cases VRep.int w1
      have hf' : (if -(2 ^ 63) ≤ i ∧ i < 2 ^ 63 then (PySem.seqIndex? i xs.length).bind fun k => (xs[k]?).map fun d => (d, xs.eraseIdx k) else none) = some (d, ys) := hf
      split at hf'
      · rename_i hb
        obtain ⟨k, e1, e2⟩ := Option.bind_eq_some_iff.mp hf'
        obtain ⟨z, e3, e4⟩ := Option.map_eq_some_iff.mp e2
        cases e4
        obtain ⟨y, f1, f2⟩ := l.get e3
        exact mt_popAt pins s σ H _ _ v us Q I rx rv ⟨a, ws, i, k, y, rfl, rfl, hl, hb.1, hb.2, by rw [l.length]; exact e1, f1, q _ _ f2 (l.eraseIdx k)⟩
      · cases hf'
end
end Fw

set_option maxHeartbeats 8000000
namespace Fw
open PySem PySem.Spec PyProof.Rows L2
section
variable {n : Nat} {C : Cfg} {B : Fb} {H0 : Hp}
theorem isNop_of {a : IE} (h : a.isNop = true) : a = .nop := by
  cases a <;> first | rfl | cases h
theorem okE_nop {S : Sx} {a : IE} {e : Expr} (h : okE S a e = true) : a.isNop = false := by
  cases a <;> first | rfl | (unfold okE at h; cases h)
theorem mem_all {a b : List Nat} (h : a.all (fun i => b.contains i) = true) : ∀ i ∈ a, i ∈ b := fun i hi => by
  have := List.all_eq_true.mp h i hi
  simpa using this
theorem blk_own {N : List Str} (own : List Nat) : (own.map fun i => (N.getD i "", i)).map (·.2) = own := by
  rw [List.map_map]
  induction own with
  | nil => rfl
  | cons a r ih => rw [List.map_cons, ih]; rfl
theorem tMA_and {K : PySem.W.Frag} {g : List Sl → Rs (List T)} {σ : St} {H : Hp} {Q : List V → Hp → Prop} {k : Nat} (h : tMA K B H0 g σ H Q) (hl : ∀ ρ ts ρ', g ρ = some (ts, ρ') → ts.length = k) : tMA K B H0 g σ H fun vs H' => vs.length = k ∧ Q vs H' := by
  obtain ⟨G, ρ, t, ρ', s, e, q⟩ := h
  exact ⟨G, ρ, t, ρ', s, e, fun v G' H' E r => ⟨by rw [r.len]; exact hl _ _ _ e, q v G' H' E r⟩⟩
theorem tMA_imp {K : PySem.W.Frag} {g : List Sl → Rs (List T)} {σ : St} {H : Hp} {Q Q' : List V → Hp → Prop} (h : tMA K B H0 g σ H Q) (f : ∀ vs H', Q vs H' → Q' vs H') : tMA K B H0 g σ H Q' := by
  obtain ⟨G, ρ, t, ρ', s, e, q⟩ := h
  exact ⟨G, ρ, t, ρ', s, e, fun v G' H' E r => f _ _ (q v G' H' E r)⟩
theorem tM_imp {K : PySem.W.Frag} {g : List Sl → Rs T} {σ : St} {H : Hp} {Q Q' : VK} (h : tM K B H0 g σ H Q) (f : ∀ v H', Q v H' → Q' v H') : tM K B H0 g σ H Q' := by
  obtain ⟨G, ρ, t, ρ', s, e, q⟩ := h
  exact ⟨G, ρ, t, ρ', s, e, fun v G' H' E r => f _ _ (q v G' H' E r)⟩
theorem evA1 {K : PySem.W.Frag} {m : Nat} {a : IE} {σ : St} {H : Hp} {Q : List V → Hp → Prop} (h : tMA K B H0 (evA C m (.cons a .nil)) σ H Q) : tM K B H0 (evE C a) σ H fun x H1 => Q [x] H1 := by
  have h' : tMA K B H0 (fun ρ => evA C m (.cons a .nil) ρ) σ H Q := h
  unfold evA at h'
  exact tM_imp (cons_ok h') fun v H1 z => (nil_ok (by have z' : tMA K B H0 (fun ρ => evA C m .nil ρ) σ H1 (fun xs H2 => Q (v :: xs) H2) := z; unfold evA at z'; exact z') : tNil σ H1 (fun xs H2 => Q (v :: xs) H2))
theorem evA2 {K : PySem.W.Frag} {m : Nat} {a b : IE} {σ : St} {H : Hp} {Q : List V → Hp → Prop} (h : tMA K B H0 (evA C m (.cons a (.cons b .nil))) σ H Q) : tM K B H0 (evE C a) σ H fun x H1 => tM K B H0 (evE C b) σ H1 fun y H2 => Q [x, y] H2 := by
  have h' : tMA K B H0 (fun ρ => evA C m (.cons a (.cons b .nil)) ρ) σ H Q := h
  unfold evA at h'
  exact tM_imp (cons_ok h') fun v H1 z => evA1 z
theorem isi_ok {K : PySem.W.Frag} {t : Ty} {f : List Sl → Rs T} {σ : St} {H : Hp} {Q : VK} (h : tM K B H0 (fun ρ => (f ρ).bind fun r => vw1 (fun d => dB (isiF d [t])) r.2 r.1) σ H Q) :
    tCB (rIsD K t) (tCons (tM K B H0 f) (tCons (tC (.ty t.s)) tNil)) σ H Q := by
  refine tM_imp (one_ok h) fun x H1 ⟨G, d, t', sg, hx, hf, q⟩ => ?_
  obtain ⟨b, hb, rfl⟩ := dB_some hf
  refine ⟨G, x, d, b, rfl, sg, hx, ?_, fin_d sg q (.bl _)⟩
  obtain ⟨b1, e1, e2⟩ := Option.bind_eq_some_iff.mp (show (d.isTy t).bind (fun a => (isiF d []).map fun b => a || b) = some b from hb)
  cases e2
  rw [e1]
  simp
theorem Ty.nm_bt (t : Ty) : bootBuiltins t.nm = some (.type t.s) := by cases t <;> decide +kernel
theorem Ty.nm_in (t : Ty) : bltNames.contains t.nm = true := by cases t <;> decide
theorem Ty.nm_1 (t : Ty) : t.nm ≠ "__name__" := by cases t <;> decide
theorem Ty.nm_2 (t : Ty) : (t.nm == ("__debug__" : Str)) = false := by cases t <;> decide
theorem rngs_inv {K : PySem.W.Frag} {f : Bool} {xs : List V} {H : Hp} {Q : VK} (h : rDn K (rngsF f) xs H Q) : ∃ a b : Int, ((xs = [.int b] ∧ a = 0) ∨ xs = [.int a, .int b]) ∧ RgOk a b ∧
    (bif f then ∀ q, H q = none → Q (.ref q) (upd H q (.tup (rgV a b))) else ∀ q, H q = none → Q (.ref q) (upd H q (.lst (rgV a b)))) := by
  obtain ⟨G, ds, t, sg, w, hf, q⟩ := h
  obtain ⟨zs, e1, e2⟩ := Option.bind_eq_some_iff.mp hf
  split at e2
  · rename_i hz
    cases e2
    have fin : ∀ a b, zs = rngL a b → (bif f then ∀ q, H q = none → Q (.ref q) (upd H q (.tup (rgV a b))) else ∀ q, H q = none → Q (.ref q) (upd H q (.lst (rgV a b)))) := fun a b e => by
      subst e
      cases f with
      | true => exact fun p hp => fin_tup sg q rgV_rep p hp
      | false => exact fun p hp => fin_lst sg q rgV_rep p hp
    have hl : ∀ a b, zs = rngL a b → (b - a).toNat ≤ 2 ^ 24 := fun a b e => by
      subst e
      unfold rngL at hz
      rw [List.length_map, List.length_range] at hz
      omega
    rcases rngF_inv e1 with ⟨b, rfl, h1, h2, rfl⟩ | ⟨a, b, rfl, h1, rfl⟩
    · obtain ⟨v, rfl, w1⟩ := w.one
      cases VRep.int w1
      exact ⟨0, b, .inl ⟨rfl, rfl⟩, ⟨by decide, by decide, h1, h2, hl 0 b rfl⟩, fin 0 b rfl⟩
    · obtain ⟨v, v', rfl, w1, w2⟩ := w.two
      cases VRep.int w1; cases VRep.int w2
      exact ⟨a, b, .inr rfl, ⟨h1.1, h1.2.1, h1.2.2.1, h1.2.2.2, hl a b rfl⟩, fin a b rfl⟩
  · cases e2
theorem okA1 {S : Sx} {as : IAs} {e : Expr} (h : okA S as [e] = true) : ∃ a, as = .cons a .nil ∧ okE S a e = true := by
  cases as with
  | nil => unfold okA at h; cases h
  | cons a r =>
    unfold okA at h
    simp only [Bool.and_eq_true] at h
    cases r with
    | nil => exact ⟨a, rfl, h.1⟩
    | cons b r => have := h.2; unfold okA at this; cases this
theorem okA2 {S : Sx} {as : IAs} {e f : Expr} (h : okA S as [e, f] = true) : ∃ a b, as = .cons a (.cons b .nil) ∧ okE S a e = true ∧ okE S b f = true := by
  cases as with
  | nil => unfold okA at h; cases h
  | cons a r =>
    unfold okA at h
    simp only [Bool.and_eq_true] at h
    obtain ⟨b, rfl, h2⟩ := okA1 h.2
    exact ⟨a, b, rfl, h.1, h2⟩
theorem okA_cons {S : Sx} {as : IAs} {e : Expr} {es : List Expr} (h : okA S as (e :: es) = true) : ∃ a r, as = .cons a r ∧ okE S a e = true ∧ okA S r es = true := by
  cases as with
  | nil => unfold okA at h; cases h
  | cons a r =>
    unfold okA at h
    simp only [Bool.and_eq_true] at h
    exact ⟨a, r, rfl, h.1, h.2⟩
theorem few1 {e : Expr} {env : Env} {cpos : Pos} (h : plainE e = true) : ((backTo cpos (starEach [e] env)).all (fun x => !x.1) && (backToKw cpos (keywordEach [] env)).all (fun x => x.1.isSome)
      && decide ([e].length + ([] : List Keyword).length + (if ([] : List Keyword).isEmpty then 0 else 1) < 30)) = true := by
  rw [star_ok h]; rfl
theorem few2 {e f : Expr} {env : Env} {cpos : Pos} (h : plainE e = true) (h' : plainE f = true) : ((backTo cpos (starEach [e, f] env)).all (fun x => !x.1) && (backToKw cpos (keywordEach [] env)).all (fun x => x.1.isSome)
      && decide ([e, f].length + ([] : List Keyword).length + (if ([] : List Keyword).isEmpty then 0 else 1) < 30)) = true := by
  rw [star_ok h, star_ok h']; rfl
/-- what a method that reads a text gives -/
def rBm (K : PySem.W.Frag) (m : Bm) : V → List V → Hp → VK → Prop := fun x xs H Q => ∃ a, x = .str a ∧ ∃ G ds t, Same G H ∧ VRepL K G H xs ds ∧ bmF m a ds = some t ∧ Fin1 K G H t Q
theorem mt_bmP {X : Cx} : MtR X "str.partition" (rBm X.K .partition) := by
  intro pins s σ H x xs v us Q I rx rs ⟨a, ex, G, ds, t, sg, l, hf, q⟩
  subst ex
  unfold bmF at hf
  split at hf
  · rename_i b _
    obtain ⟨y, rfl, w⟩ := VRepL.one l
    have ey := VRep.str w
    subst ey
    split at hf
    · rename_i hz
      cases hf
      exact mt_partition pins s σ H _ _ v us Q I rx rs ⟨_, b, rfl, rfl, hz.1, hz.2, fun p hp => fin_tup sg q (.cons (.str _) (.cons (.str _) (.cons (.str _) .nil))) p hp⟩
    · cases hf
  all_goals (first | (cases hf; done) | (exfalso; simp_all; done))
theorem mt_bmJ {X : Cx} : MtR X "str.join" (rBm X.K .join) := by
  intro pins s σ H x xs v us Q I rx rs ⟨a, ex, G, ds, t, sg, l, hf, q⟩
  subst ex
  unfold bmF at hf
  split at hf
  · rename_i h; cases h
  · rename_i zs _
    obtain ⟨y, rfl, w⟩ := VRepL.one l
    obtain ⟨p, vs, rfl, hl, l'⟩ := w
    obtain ⟨ys, e1, hf⟩ := Option.bind_eq_some_iff.mp hf
    have := strs_rep l' e1
    subst this
    split at hf
    · rename_i hz
      cases hf
      exact mt_join pins s σ H _ _ v us Q I rx rs ⟨_, p, ys, rfl, rfl, .inl (.inl (.inl hl)), hz, fin_d sg q (.str _)⟩
    · cases hf
  · cases hf
theorem okKeys_all : ∀ {ks : List Key} {es : List (Option Expr)}, okKeys ks es = true → es.all (·.isSome) = true ∧ es.length = ks.length
  | [], es, h => by
    unfold okKeys at h
    cases es with
    | nil => exact ⟨rfl, rfl⟩
    | cons => cases h
  | k :: ks, es, h => by
    unfold okKeys at h
    split at h
    · simp only [Bool.and_eq_true] at h
      obtain ⟨h1, h2⟩ := okKeys_all h.2
      exact ⟨by simpa using h1, by simp [h2]⟩
    · cases h
theorem dsp15 {K : PySem.W.Frag} {ks : List Key} {vs : IAs} {σ : St} {H : Hp} {Q : VK} (h : tM K B H0 (evE C (.dsp ks vs)) σ H Q) : ks.length ≤ 15 := by
  obtain ⟨G, ρ, t, ρ', s, e, q⟩ := h
  unfold evE at e
  obtain ⟨⟨ts, ρ1⟩, e1, e⟩ := Option.bind_eq_some_iff.mp e
  obtain ⟨es, e2, e⟩ := Option.bind_eq_some_iff.mp e
  obtain ⟨t', e3, e⟩ := Option.map_eq_some_iff.mp e
  unfold dspF at e3
  split at e3
  · rename_i hk; exact hk.1
  · cases e3
mutual
theorem sndE (a : IE) : ∀ {S : Sx} {X : Cx} {e : Expr}, CxOk n C B S X → okE S a e = true → Snd B H0 X e (evE C a) := by
  intro S X e c h
  cases a with
  | var i =>
    unfold okE at h
    split at h
    · rename_i x p
      unfold okVar at h
      simp only [Bool.and_eq_true, decide_eq_true_eq, Bool.not_eq_true'] at h
      refine Snd.val (PE.imp (pe_var (i := i) (by rw [c.N]; exact h.1.1.1) (c.vis_of h.1.1.2) h.1.2 h.2) fun σ H Q w => ?_) rfl
      obtain ⟨G, ρ, t, ρ', s, e, q⟩ := w
      unfold evE at e
      obtain ⟨sl, e1, e2⟩ := Option.bind_eq_some_iff.mp e
      have z := s.at_ i sl e1
      cases sl with
      | no => cases e2
      | d d => cases e2; obtain ⟨v, f1, r⟩ := z; exact ⟨v, f1, q v G H (EI.refl s) r⟩
      | fz d => cases e2; obtain ⟨v, f1, r⟩ := z; exact ⟨v, f1, q v G H (EI.refl s) r⟩
      | own o => cases e2; obtain ⟨b, f1, r⟩ := z; exact ⟨_, f1, q _ G H (EI.refl s) f1⟩
      | bor o => cases e2; obtain ⟨b, f1, r⟩ := z; exact ⟨_, f1, q _ G H (EI.refl s) f1⟩
    · exact Snd.val (pe_fldI c h) rfl
    · cases h
  | non =>
    unfold okE at h
    split at h
    · exact Snd.val (PE.imp pe_non fun σ H Q w => c_ok w fun _ => .non) rfl
    · cases h
  | bl b =>
    unfold okE at h
    split at h
    · have e : b = _ := eq_of_beq h
      subst e
      exact Snd.val (PE.imp pe_bl fun σ H Q w => c_ok w fun _ => .bl _) rfl
    · cases h
  | int i =>
    unfold okE at h
    split at h
    · have e := of_decide_eq_true h
      subst e
      exact Snd.val (PE.imp pe_int fun σ H Q w => c_ok w fun _ => .int _) rfl
    · cases h
  | str i =>
    unfold okE at h
    split at h
    · have e := of_decide_eq_true h
      subst e
      exact Snd.val (PE.imp pe_str fun σ H Q w => c_ok w fun _ => .str _) rfl
    · cases h
  | glo x =>
    unfold okE at h
    split at h
    · simp only [Bool.and_eq_true, decide_eq_true_eq, Bool.not_eq_true'] at h
      obtain ⟨⟨⟨rfl, h1⟩, h2⟩, h3⟩ := h
      refine Snd.val ⟨fun pins s σ H Q I w => ?_⟩ rfl
      obtain ⟨G, ρ, t, ρ', s', e, q⟩ := w
      unfold evE at e
      obtain ⟨d, e1, e2⟩ := Option.map_eq_some_iff.mp e
      cases e2
      obtain ⟨u, v, m1, m2, m3⟩ := c.gl _ h2 d e1
      exact (pe_glob (c.gl_of h1) m1 m2 h3).run pins s σ H Q I (q v G H (EI.refl s') (m3 G))
    · cases h
  | bin op a b =>
    unfold okE at h
    split at h
    · simp only [Bool.and_eq_true, decide_eq_true_eq] at h
      obtain ⟨⟨rfl, h1⟩, h2⟩ := h
      exact Snd.val (PE.imp (pe_op (opr_bin op) (sndE a c h1).pe (sndE b c h2).pe) fun σ H Q w => two_ok (by have w' : tM X.K B H0 (fun ρ => evE C _ ρ) σ H Q := w; unfold evE at w'; exact w')) rfl
    · cases h
  | neg a =>
    unfold okE at h
    split at h
    · exact Snd.val (PE.imp (pe_un unr_neg (sndE a c h).pe) fun σ H Q w => one_ok (by have w' : tM X.K B H0 (fun ρ => evE C _ ρ) σ H Q := w; unfold evE at w'; exact w')) rfl
    · cases h
  | cmp op a b =>
    unfold okE at h
    split at h
    · simp only [Bool.and_eq_true, decide_eq_true_eq] at h
      obtain ⟨⟨rfl, h1⟩, h2⟩ := h
      have hu : X.A.units + 80 < cLine := by have := c.room.un; omega
      have hm := mark_ok op (okE_plain b _ h2)
      refine Snd.cmp (PE.imp (pe_cmpR (opr_cmp hu op) (sndE a c h1).pe (sndE b c h2).pe hm) fun σ H Q w => two_ok (by have w' : tM X.K B H0 (fun ρ => evE C _ ρ) σ H Q := w; unfold evE at w'; exact w')) (PT.imp (pt_cmpR (opr_cmp hu op) (sndE a c h1).pe (sndE b c h2).pe hm) fun σ H Q w => ?_) (fun _ _ _ z => by cases z)
      exact two_ok (by have w' := tMB_of w; unfold evE at w'; exact w')
    · cases h
  | chn op op' a b d =>
    unfold okE at h
    split at h
    · simp only [Bool.and_eq_true, decide_eq_true_eq] at h
      obtain ⟨⟨⟨⟨rfl, rfl⟩, h1⟩, h2⟩, h3⟩ := h
      have hu : X.A.units + 80 < cLine := by have := c.room.un; omega
      have hm : ∀ (e f : Expr), lastMarks [op, op'] [e, f] = behindInMarks op' f := fun _ _ => rfl
      have hm' := mark_ok op' (okE_plain d _ h3)
      refine Snd.cmp (PE.imp (pe_chain (opr_cmp hu op) (opr_cmp hu op') (sndE a c h1).pe (sndE b c h2).pe (sndE d c h3).pe (by rw [hm]; exact hm')) fun σ H Q w => chn_ok (by have w' : tM X.K B H0 (fun ρ => evE C _ ρ) σ H Q := w; unfold evE at w'; exact w'))
        (PT.imp (pt_chain (opr_cmp hu op) (opr_cmp hu op') (sndE a c h1).pe (sndE b c h2).pe (sndE d c h3).pe (by rw [hm]; exact hm')) fun σ H Q w => ?_) (fun _ _ _ z => by cases z)
      exact chn_ok (by have w' := tMB_of w; unfold evE at w'; exact w')
    · cases h
  | and_ a b =>
    unfold okE at h
    split at h
    · simp only [Bool.and_eq_true] at h
      have ha := sndE a c h.1
      have hb := sndE b c h.2
      refine ⟨PE.imp (pe_and ha.pe hb.pe) fun σ H Q w => ?_, (PW.imp (pw_and ha.pt (hb.pw ⟨_, _, _, rfl⟩)) fun σ H Q w => ?_).pt, fun _ => PW.imp (pw_and ha.pt (hb.pw ⟨_, _, _, rfl⟩)) fun σ H Q w => ?_⟩
      · unfold evE at w
        obtain ⟨G, ρ, t, ρ', s, e, q⟩ := bind_okT (g := fun k ρ => if k = true then evE C b ρ else some (.d (.bl false), ρ)) w
        refine tMB_of ⟨G, ρ, t, ρ', s, e, fun G1 H1 E => ?_⟩
        have z := if_t (q G1 H1 E)
        cases t with
        | true => exact z
        | false => exact c_ok z fun _ => .bl false
      · unfold evE at w
        obtain ⟨G, ρ, t, ρ', s, e, q⟩ := bind_okB (g := fun k ρ => if k = true then evE C b ρ else some (.d (.bl false), ρ)) w
        refine ⟨G, ρ, t, ρ', s, e, fun G1 H1 E => ?_⟩
        have z := if_b (q G1 H1 E)
        cases t with
        | true => exact z
        | false => exact cB_ok z
      · unfold evE at w
        obtain ⟨G, ρ, t, ρ', s, e, q⟩ := bind_okB (g := fun k ρ => if k = true then evE C b ρ else some (.d (.bl false), ρ)) w
        refine ⟨G, ρ, t, ρ', s, e, fun G1 H1 E => ?_⟩
        have z := if_b (q G1 H1 E)
        cases t with
        | true => exact z
        | false => exact cB_ok z
    · cases h
  | or_ a b =>
    unfold okE at h
    split at h
    · simp only [Bool.and_eq_true] at h
      have ha := sndE a c h.1
      have hb := sndE b c h.2
      refine ⟨PE.imp (pe_or ha.pe hb.pe) fun σ H Q w => ?_, (PW.imp (pw_or ha.pt (hb.pw ⟨_, _, _, rfl⟩)) fun σ H Q w => ?_).pt, fun _ => PW.imp (pw_or ha.pt (hb.pw ⟨_, _, _, rfl⟩)) fun σ H Q w => ?_⟩
      · unfold evE at w
        obtain ⟨G, ρ, t, ρ', s, e, q⟩ := bind_okT (g := fun k ρ => if k = true then some (.d (.bl true), ρ) else evE C b ρ) w
        refine tMB_of ⟨G, ρ, t, ρ', s, e, fun G1 H1 E => ?_⟩
        have z := if_t (q G1 H1 E)
        cases t with
        | true => exact c_ok z fun _ => .bl true
        | false => exact z
      · unfold evE at w
        obtain ⟨G, ρ, t, ρ', s, e, q⟩ := bind_okB (g := fun k ρ => if k = true then some (.d (.bl true), ρ) else evE C b ρ) w
        refine ⟨G, ρ, t, ρ', s, e, fun G1 H1 E => ?_⟩
        have z := if_b (q G1 H1 E)
        cases t with
        | true => exact cB_ok z
        | false => exact z
      · unfold evE at w
        obtain ⟨G, ρ, t, ρ', s, e, q⟩ := bind_okB (g := fun k ρ => if k = true then some (.d (.bl true), ρ) else evE C b ρ) w
        refine ⟨G, ρ, t, ρ', s, e, fun G1 H1 E => ?_⟩
        have z := if_b (q G1 H1 E)
        cases t with
        | true => exact cB_ok z
        | false => exact z
    · cases h
  | one a =>
    unfold okE at h
    split at h
    · rename_i op x p
      have ha := sndE a c h
      have w : PW X (.BoolOp op [x] p) (tMB X.K B H0 fun ρ => asB (evE C (.one a) ρ)) := by
        cases op with
        | And => exact PW.imp (pw_and1 ha.pt) fun σ H Q w => by unfold evE at w; exact w
        | Or => exact PW.imp (pw_or1 ha.pt) fun σ H Q w => by unfold evE at w; exact w
      exact ⟨PE.imp (pe_one ha.pe) fun σ H Q w => by have w' : tM X.K B H0 (fun ρ => evE C _ ρ) σ H Q := w; unfold evE at w'; exact w', w.pt, fun _ => w⟩
    · cases h
  | not_ a =>
    unfold okE at h
    split at h
    · have ha := sndE a c h
      refine Snd.cmp (PE.imp (pe_not ha.pe) fun σ H Q w => ?_) (PT.imp (pt_not ha.pt) fun σ H Q w => ?_) (fun _ _ _ z => by cases z)
      · unfold evE at w
        obtain ⟨G, ρ, t, ρ', s, e, q⟩ := bind_okT (g := fun k ρ => some (.d (.bl (!k)), ρ)) w
        exact tMB_of ⟨G, ρ, t, ρ', s, e, fun G1 H1 E => c_ok (q G1 H1 E) fun _ => .bl _⟩
      · unfold evE at w
        obtain ⟨G, ρ, t, ρ', s, e, q⟩ := bind_okB (g := fun k ρ => some (.d (.bl (!k)), ρ)) w
        exact ⟨G, ρ, t, ρ', s, e, fun G1 H1 E => cB_ok (q G1 H1 E)⟩
    · cases h
  | ife k a b =>
    unfold okE at h
    split at h
    · simp only [Bool.and_eq_true] at h
      have hk := sndE k c h.1.1
      have ha := sndE a c h.1.2
      have hb := sndE b c h.2
      refine Snd.cmp (PE.imp (pe_ifExp hk.pt ha.pe hb.pe) fun σ H Q w => ?_) (PT.imp (pt_ife hk.pt ha.pt hb.pt) fun σ H Q w => ?_) (fun _ _ _ z => by cases z)
      · unfold evE at w
        obtain ⟨G, ρ, t, ρ', s, e, q⟩ := bind_okT (g := fun k ρ => if k = true then evE C a ρ else evE C b ρ) w
        exact ⟨G, ρ, t, ρ', s, e, fun G1 H1 E => if_t (q G1 H1 E)⟩
      · unfold evE at w
        obtain ⟨G, ρ, t, ρ', s, e, q⟩ := bind_okB (g := fun k ρ => if k = true then evE C a ρ else evE C b ρ) w
        exact ⟨G, ρ, t, ρ', s, e, fun G1 H1 E => if_b (q G1 H1 E)⟩
    · cases h
  | frz a =>
    unfold okE at h
    simp only [Bool.and_eq_true] at h
    exact Snd.val (PE.imp (pe_ghost (sndE a c h.2).pe) fun σ H Q w => frz_ok (by have w' : tM X.K B H0 (fun ρ => evE C _ ρ) σ H Q := w; unfold evE at w'; exact w')) h.1.2
  | kix x a =>
    unfold okE at h
    split at h
    · simp only [Bool.and_eq_true, decide_eq_true_eq, Bool.not_eq_true'] at h
      obtain ⟨⟨⟨rfl, h1⟩, h2⟩, h3⟩ := h
      refine Snd.val ⟨fun pins s σ H Q I w => ?_⟩ rfl
      obtain ⟨G, ρ, t, ρ', s', e, q⟩ := w
      unfold evE at e
      obtain ⟨kv, e1, e⟩ := Option.bind_eq_some_iff.mp e
      obtain ⟨⟨t1, ρ1⟩, e2, e⟩ := Option.bind_eq_some_iff.mp e
      obtain ⟨d, w1, w2, rfl⟩ := vw1_inv e
      obtain ⟨p, m1, m2⟩ := c.kd _ _ e1
      unfold kixF at w2
      split at w2
      · rename_i z
        obtain ⟨d2, w3, w4⟩ := Option.map_eq_some_iff.mp w2
        subst w4
        obtain ⟨v, kd, rp⟩ := m2 _ _ w3
        refine (pe_ix ix_kdict (pe_glob (v := .ref p) (c.gl_of h1) m1 rfl h2) (sndE a c h3).pe (plain_ix (okE_plain a _ h3))).run pins s σ H Q I ?_
        refine (⟨G, ρ, t1, _, s', e2, fun v1 G1 H1 E1 T1 => ?_⟩ : tM X.K B H0 (fun ρ => evE C a ρ) σ H _)
        have vr := view_ok E1.s1 T1 w1
        cases (show Rep X.K G1 v1 (.str z) from vr)
        exact ⟨p, z, v, rfl, rfl, kd, q v G1 H1 E1 (rp G1)⟩
      · cases w2
    · cases h
  | ix a b =>
    unfold okE at h
    split at h
    · simp only [Bool.and_eq_true] at h
      exact Snd.val (PE.imp (pe_ix (ixr (by have := c.room.un; omega)) (sndE a c h.1).pe (sndE b c h.2).pe (plain_ix (okE_plain b _ h.2))) fun σ H Q w => two_ok (by have w' : tM X.K B H0 (fun ρ => evE C _ ρ) σ H Q := w; unfold evE at w'; exact w')) rfl
    · cases h
  | slc a lo hi =>
    unfold okE at h
    split at h
    · rename_i x l u _ _
      simp only [Bool.and_eq_true] at h
      obtain ⟨⟨h1, h2⟩, h3⟩ := h
      have pl : PO X l (tMP X.K B H0 fun ρ => asP lo.isNop (evE C lo ρ) ρ) := by
        cases l with
        | none => rw [show lo.isNop = true from h2]; exact PO.imp po_none fun σ H Q w => asP_none w
        | some l => rw [okE_nop h2]; exact PO.imp (po_some (sndE lo c h2).pe) fun σ H Q w => asP_some w
      have pu : PO X u (tMP X.K B H0 fun ρ => asP hi.isNop (evE C hi ρ) ρ) := by
        cases u with
        | none => rw [show hi.isNop = true from h3]; exact PO.imp po_none fun σ H Q w => asP_none w
        | some l => rw [okE_nop h3]; exact PO.imp (po_some (sndE hi c h3).pe) fun σ H Q w => asP_some w
      exact Snd.val (PE.imp (pe_slice slr (sndE a c h1).pe pl pu) fun σ H Q w => slc_ok (by have w' : tM X.K B H0 (fun ρ => evE C _ ρ) σ H Q := w; unfold evE at w'; exact w')) rfl
    · cases h
  | nop => unfold okE at h; cases h
  | tup as =>
    unfold okE at h
    split at h
    · exact Snd.val (PE.imp (pe_tup (sndA 2 as c h)) fun σ H Q w => tup_ok (by have w' : tM X.K B H0 (fun ρ => evE C _ ρ) σ H Q := w; unfold evE at w'; exact w')) rfl
    · cases h
  | lst as =>
    unfold okE at h
    split at h
    · exact Snd.val (PE.imp (pe_lst (sndA 2 as c h)) fun σ H Q w => lst_ok (by have w' : tM X.K B H0 (fun ρ => evE C _ ρ) σ H Q := w; unfold evE at w'; exact w')) rfl
    · cases h
  | call f as =>
    unfold okE at h
    split at h
    · rename_i x _ es _
      simp only [Bool.and_eq_true, decide_eq_true_eq, Bool.not_eq_true'] at h
      obtain ⟨⟨⟨⟨rfl, h1⟩, h2⟩, h3⟩, h4⟩ := h
      obtain ⟨fa, fd, ps, m1, m2, m3, m4⟩ := c.fns _ _ h3
      have pA := sndA 0 as c h4
      have ln := evA_len (C := C) (m := 0) h4
      cases es with
      | nil =>
        refine Snd.val (PE.imp (pe_call0 m4 c.room (c.gl_of h1) m1 m2 m3 .nil pass0 h2) fun σ H Q w => ?_) rfl
        have z := call_ok (np := 0) (by have w' : tM X.K B H0 (fun ρ => evE C _ ρ) σ H Q := w; unfold evE at w'; exact w') ln
        unfold tCall at z ⊢
        cases as with
        | nil => exact nil_ok (by have z' : tMA X.K B H0 (fun ρ => evA C 0 IAs.nil ρ) σ H _ := z; unfold evA at z'; exact z')
        | cons _ _ => unfold okA at h4; cases h4
      | cons e0 es =>
        have hp : plainE e0 = true := by
          cases as with
          | nil => unfold okA at h4; cases h4
          | cons a r =>
            unfold okA at h4
            simp only [Bool.and_eq_true] at h4
            exact okE_plain a _ h4.1
        have h5 : okA S (match as with | .nil => .nil | .cons _ r => r) es = true := by
          cases as with
          | nil => unfold okA at h4; cases h4
          | cons a r =>
            unfold okA at h4
            simp only [Bool.and_eq_true] at h4
            exact h4.2
        exact Snd.val (PE.imp (pe_call m4 c.room (c.gl_of h1) m1 m2 m3 .nil pass0 pA h2 (star_ok hp) (okA_any h5)) fun σ H Q w => call_ok (by have w' : tM X.K B H0 (fun ρ => evE C _ ρ) σ H Q := w; unfold evE at w'; exact w') ln) rfl
    · cases h
  | blt f as =>
    unfold okE at h
    split at h
    · rename_i x _ e0 es _
      simp only [Bool.and_eq_true, decide_eq_true_eq] at h
      obtain ⟨⟨h1, h2⟩, h4⟩ := h
      have pA := sndA 0 as c h4
      cases as with
      | nil => unfold okA at h4; cases h4
      | cons a r =>
        unfold okA at h4
        simp only [Bool.and_eq_true] at h4
        exact Snd.val (PE.imp (pe_blt c f h1 h2 pA (okE_plain a _ h4.1) (okA_any h4.2)) fun σ H Q w => many_ok (by have w' : tM X.K B H0 (fun ρ => evE C _ ρ) σ H Q := w; unfold evE at w'; exact w')) rfl
    · cases h
  | isi a ts =>
    unfold okE at h
    split at h
    · rename_i x p y z pos
      simp only [Bool.and_eq_true, decide_eq_true_eq] at h
      obtain ⟨⟨⟨rfl, h1⟩, h2⟩, h3⟩ := h
      split at h3
      · rename_i t q t'
        simp only [Bool.and_eq_true, decide_eq_true_eq] at h3
        obtain ⟨rfl, h4⟩ := h3
        have pz : PE X (.Name t'.nm q) (tC (.ty t'.s)) := pe_bltn (c.gl_of h4) (c.bl _ t'.nm_in) t'.nm_bt rfl t'.nm_1 t'.nm_2
        have pA : PA X [y, .Name t'.nm q] (tCons (tM X.K B H0 (evE C a)) (tCons (tC (.ty t'.s)) tNil)) := pa_cons (sndE a c h2).pe (pa_cons pz pa_nil (star_ok rfl)) (star_ok (okE_plain a _ h2))
        exact Snd.val (PE.imp (pe_callB (cr_isi t') (c.gl_of h1) (c.bl _ (by decide)) (by decide +kernel) pA (by decide) (by decide) (star_ok (okE_plain a _ h2)) rfl) fun σ H Q w => isi_ok (by have w' : tM X.K B H0 (fun ρ => evE C _ ρ) σ H Q := w; unfold evE at w'; exact w')) rfl
      · cases h3
    · cases h
  | rngs f as =>
    unfold okE at h
    split at h
    · rename_i x p1 y p2 es p3 p4
      simp only [Bool.and_eq_true, decide_eq_true_eq] at h
      obtain ⟨⟨⟨⟨⟨hx, h1⟩, rfl⟩, h2⟩, h3⟩, h4⟩ := h
      subst hx
      have gr := c.gl_of h2
      have mr : X.mg ("range" : Str) = none := c.bl _ (by decide)
      have out : ∀ {te : St → Hp → (Int → Int → Hp → Prop) → Prop}, PRg X (.Call (.Name "range" p2) es [] p3) te →
          (∀ σ H Q, tM X.K B H0 (evE C (.rngs f as)) σ H Q → te σ H fun a b H1 => RgOk a b ∧ (bif f then ∀ q, H1 q = none → Q (.ref q) (upd H1 q (.tup (rgV a b))) else ∀ q, H1 q = none → Q (.ref q) (upd H1 q (.lst (rgV a b))))) →
          PE X (.Call (.Name (bif f then ("tuple" : Str) else "list") p1) [.Call (.Name "range" p2) es [] p3] [] p4) (tM X.K B H0 (evE C (.rngs f as))) := fun {te} pr hh => by
        cases f with
        | true => exact PE.imp (pe_tupRg c.calm (c.gl_of h1) (c.bl _ (by decide)) pr) fun σ H Q w => hh σ H Q w
        | false => exact PE.imp (pe_listRg c.calm (c.gl_of h1) (c.bl _ (by decide)) pr) fun σ H Q w => hh σ H Q w
      refine Snd.val ?_ (by cases f <;> rfl)
      have rd : ∀ (σ : St) (H : Hp) Q, tM X.K B H0 (evE C (.rngs f as)) σ H Q → tMA X.K B H0 (evA C 0 as) σ H fun xs H1 => rDn X.K (rngsF f) xs H1 Q := fun σ H Q w => by
        have w' : tM X.K B H0 (fun ρ => evE C (.rngs f as) ρ) σ H Q := w
        unfold evE at w'
        exact many_ok w'
      split at h4
      · rename_i e0
        obtain ⟨a, rfl, h5⟩ := okA1 h3
        refine out (prg_1 gr mr (sndE a c h5).pe (star_ok (okE_plain a _ h5))) fun σ H Q w => ?_
        refine tM_imp (evA1 (rd σ H Q w)) fun v H1 z => ?_
        obtain ⟨i, j, ho, hr, hq⟩ := rngs_inv z
        rcases ho with ⟨ho, rfl⟩ | ho
        · cases ho; exact ⟨j, rfl, hr, hq⟩
        · cases ho
      · rename_i e0 e1
        obtain ⟨a, b, rfl, h5, h6⟩ := okA2 h3
        refine out (prg_2 gr mr (sndE a c h5).pe (sndE b c h6).pe (star_ok (okE_plain a _ h5)) (star_ok (okE_plain b _ h6)) (by rw [star_ok (okE_plain b _ h6)]; rfl)) fun σ H Q w => ?_
        refine tM_imp (evA2 (rd σ H Q w)) fun v H1 z => tM_imp z fun u H2 z => ?_
        obtain ⟨i, j, ho, hr, hq⟩ := rngs_inv z
        rcases ho with ⟨ho, rfl⟩ | ho
        · cases ho
        · cases ho; exact ⟨i, j, rfl, rfl, hr, hq⟩
      · cases h4
    · cases h
  | lrev a =>
    unfold okE at h
    split at h
    · simp only [Bool.and_eq_true, decide_eq_true_eq] at h
      obtain ⟨⟨⟨⟨rfl, h1⟩, rfl⟩, h2⟩, h3⟩ := h
      refine Snd.val (PE.imp (FwX.pe_lstRev c.calm (c.gl_of h1) (c.bl _ (by decide)) (c.gl_of h2) (c.bl _ (by decide)) (sndE a c h3).pe (star_ok (okE_plain a _ h3))) fun σ H Q w => ?_) rfl
      have w' : tM X.K B H0 (fun ρ => evE C (.lrev a) ρ) σ H Q := w
      unfold evE at w'
      refine tM_imp (one_ok w') fun v H1 ⟨G, d, t, sg, hx, hf, q⟩ => ?_
      unfold lrevF at hf
      split at hf
      · cases hf
        obtain ⟨b, vs, rfl, hl, l⟩ := hx
        exact ⟨b, vs, rfl, .inl (.inl hl), fun p hp => fin_lst sg q l.reverse p hp⟩
      · cases hf
    · cases h
  | mth m o as =>
    unfold okE at h
    split at h
    · rename_i x p nm ap es cp
      simp only [Bool.and_eq_true, decide_eq_true_eq] at h
      obtain ⟨⟨⟨⟨h1, rfl⟩, h2⟩, h3⟩, h4⟩ := h
      have po := (sndE o c h1).pe
      have rd : ∀ (σ : St) (H : Hp) Q, tM X.K B H0 (evE C (.mth m o as)) σ H Q → tM X.K B H0 (evE C o) σ H fun x H1 => tyV X.K "list" x H1 ∧ tMA X.K B H0 (evA C (if m = .append then 2 else 0) as) σ H1 fun vs H2 => rMut X.K m x vs H2 Q := fun σ H Q w => by
        have w' : tM X.K B H0 (fun ρ => evE C (.mth m o as) ρ) σ H Q := w
        unfold evE at w'
        refine mth_ok (k := 2) (fun _ => rfl) (fun hm ρ ts ρ' e => ?_) w'
        rw [if_pos hm] at e
        exact evA_d e
      cases m with
      | append =>
        match es, h3, h4 with
        | [e0], h3, _ =>
          obtain ⟨a, rfl, h5⟩ := okA1 h3
          have hp := okE_plain a _ h5
          exact Snd.val (PE.imp (pe_bm PySem.F.plainAttrs_list PySem.F.slot_list_append PySem.F.type_list_append ((mt_mut .append).1 rfl) po (sndA 2 _ c h3) rfl (few1 hp) h2 (star_ok hp) rfl) fun σ H Q w => rd σ H Q w) rfl
        | [], _, h4 => cases h4
        | _ :: _ :: _, _, h4 => cases h4
      | extend =>
        match es, h3, h4 with
        | [e0], h3, _ =>
          obtain ⟨a, rfl, h5⟩ := okA1 h3
          have hp := okE_plain a _ h5
          exact Snd.val (PE.imp (pe_bm PySem.F.plainAttrs_list PySem.F.slot_list_extend PySem.F.type_list_extend ((mt_mut .extend).2.1 rfl) po (sndA 0 _ c h3) rfl (few1 hp) h2 (star_ok hp) rfl) fun σ H Q w => rd σ H Q w) rfl
        | [], _, h4 => cases h4
        | _ :: _ :: _, _, h4 => cases h4
      | pop =>
        match es, h3, h4 with
        | [], h3, _ =>
          refine Snd.val (PE.imp (pe_bm0 PySem.F.plainAttrs_list PySem.F.slot_list_pop PySem.F.type_list_pop ((mt_mut .pop).2.2 rfl) po rfl h2) fun σ H Q w => ?_) rfl
          cases as with
          | nil =>
            refine tM_imp (rd σ H Q w) fun v H1 ⟨z1, z2⟩ => ⟨z1, ?_⟩
            exact nil_ok (by have z' : tMA X.K B H0 (fun ρ => evA C 0 .nil ρ) σ H1 _ := z2; unfold evA at z'; exact z')
          | cons a r => unfold okA at h3; cases h3
        | [e0], h3, _ =>
          obtain ⟨a, rfl, h5⟩ := okA1 h3
          have hp := okE_plain a _ h5
          exact Snd.val (PE.imp (pe_bm PySem.F.plainAttrs_list PySem.F.slot_list_pop PySem.F.type_list_pop ((mt_mut .pop).2.2 rfl) po (sndA 0 _ c h3) rfl (few1 hp) h2 (star_ok hp) rfl) fun σ H Q w => rd σ H Q w) rfl
        | _ :: _ :: _, _, h4 => cases h4
    · cases h
  | bm m o as =>
    unfold okE at h
    split at h
    · rename_i y nm ap es cp
      simp only [Bool.and_eq_true, decide_eq_true_eq] at h
      obtain ⟨⟨⟨⟨⟨h0, h1⟩, rfl⟩, h2⟩, h3⟩, h4⟩ := h
      have po := (sndE o c h1).pe
      split at h4
      · rename_i e0
        obtain ⟨a, rfl, h5⟩ := okA1 h3
        have pa := (sndE a c h5).pe
        have hs : starEach [e0] X.env = [(false, eval e0 X.env)] := star_ok (okE_plain a _ h5)
        have hb : attributeBase y m.nm X.env (eval y X.env) = eval y X.env := by cases y <;> first | rfl | cases h0
        have rd : ∀ (σ : St) (H : Hp) Q, tM X.K B H0 (evE C (.bm m o (.cons a .nil))) σ H Q → tM1 (rBm X.K m) (tM X.K B H0 (evE C o)) (tM X.K B H0 (evE C a)) σ H Q := fun σ H Q w => by
          have w' : tM X.K B H0 (fun ρ => evE C (.bm m o (.cons a .nil)) ρ) σ H Q := w
          unfold evE at w'
          refine tM_imp (bm1_ok w') fun x H1 ⟨z, ez, w2⟩ => ⟨⟨z, ez⟩, tM_imp (evA1 w2) fun u H2 ⟨G, ds, t, sg, l, hf, q⟩ => ⟨z, ez, G, ds, t, sg, l, hf, q⟩⟩
        cases m with
        | partition => exact Snd.val (PE.imp (pe_m1 PySem.F.slot_str_partition rfl (mt_bmP) po pa hs hb h2) fun σ H Q w => rd σ H Q w) rfl
        | join => exact Snd.val (PE.imp (pe_m1 PySem.F.slot_str_join rfl (mt_bmJ) po pa hs hb h2) fun σ H Q w => rd σ H Q w) rfl
      · cases h4
    · cases h
  | dnew =>
    unfold okE at h
    split at h
    · exact Snd.val (PE.imp pe_dnewK fun σ H Q w => dnew_ok (by have w' : tM X.K B H0 (fun ρ => evE C _ ρ) σ H Q := w; unfold evE at w'; exact w')) rfl
    · cases h
  | dsp ks vs =>
    unfold okE at h
    split at h
    · rename_i k keys values pos
      simp only [Bool.and_eq_true, decide_eq_true_eq] at h
      obtain ⟨⟨h1, h2⟩, h3⟩ := h
      obtain ⟨k1, k2⟩ := okKeys_all h1
      refine ⟨PE.imp ⟨fun pins s σ H Q I w => ?_⟩ fun σ H Q w => (w : tM X.K B H0 (evE C (.dsp ks vs)) σ H Q), ?_, fun ⟨op, es, p, z⟩ => by cases z⟩
      · by_cases h15 : ks.length ≤ 15
        · exact (pe_disp (sndD vs ks c h1 h2 h3) k1 (by rw [k2, h3]) (by simp) (by rw [k2]; exact h15)).run pins s σ H Q I (dsp_ok (by have w' : tM X.K B H0 (fun ρ => evE C _ ρ) σ H Q := w; unfold evE at w'; exact w'))
        · exact absurd (dsp15 w) h15
      · have pe : PE X (.Dict (k :: keys) values pos) (tM X.K B H0 (evE C (.dsp ks vs))) := ⟨fun pins s σ H Q I w => by
          by_cases h15 : ks.length ≤ 15
          · exact (pe_disp (sndD vs ks c h1 h2 h3) k1 (by rw [k2, h3]) (by simp) (by rw [k2]; exact h15)).run pins s σ H Q I (dsp_ok (by have w' : tM X.K B H0 (fun ρ => evE C _ ρ) σ H Q := w; unfold evE at w'; exact w'))
          · exact absurd (dsp15 w) h15⟩
        exact (Snd.val pe rfl).pt
    · cases h
  | dget o as =>
    unfold okE at h
    split at h
    · rename_i x p nm ap es cp
      simp only [Bool.and_eq_true, decide_eq_true_eq] at h
      obtain ⟨⟨⟨⟨h1, rfl⟩, h2⟩, h3⟩, h4⟩ := h
      have po := (sndE o c h1).pe
      have hu : X.A.units + 80 < cLine := by have := c.room.un; omega
      have pA := sndA 2 as c h3
      have rd : ∀ (σ : St) (H : Hp) Q, tM X.K B H0 (evE C (.dget o as)) σ H Q → tGet X.K (tM X.K B H0 (evE C o)) (tMA X.K B H0 (evA C 2 as)) σ H Q := fun σ H Q w => dget_ok (by have w' : tM X.K B H0 (fun ρ => evE C _ ρ) σ H Q := w; unfold evE at w'; exact w')
      match es, h3, h4, pA with
      | [e0], h3, _, pA =>
        obtain ⟨a, rfl, h5⟩ := okA1 h3
        have hp := okE_plain a _ h5
        exact Snd.val (PE.imp (pe_get hu po pA rfl (few1 hp) h2 (star_ok hp) rfl) fun σ H Q w => rd σ H Q w) rfl
      | [e0, e1], h3, _, pA =>
        obtain ⟨a, b, rfl, h5, h6⟩ := okA2 h3
        have hp := okE_plain a _ h5
        have hq := okE_plain b _ h6
        exact Snd.val (PE.imp (pe_get hu po pA rfl (few2 hp hq) h2 (star_ok hp) (by rw [star_ok (es := []) hq]; rfl)) fun σ H Q w => rd σ H Q w) rfl
      | [], _, h4, _ => cases h4
      | _ :: _ :: _ :: _, _, h4, _ => cases h4
    · cases h
  | srtk f a =>
    unfold okE at h
    split at h
    · rename_i x p y k g gp kp pos
      simp only [Bool.and_eq_true, decide_eq_true_eq, Bool.not_eq_true'] at h
      obtain ⟨⟨⟨⟨⟨⟨⟨rfl, h1⟩, rfl⟩, rfl⟩, h2⟩, h3⟩, h4⟩, h5⟩ := h
      by_cases hn : n = 0
      · have up : C.up = 0 := by rw [c.fn0, hn]
        refine Snd.val ⟨fun pins s σ H Q I w => ?_⟩ rfl
        obtain ⟨G, ρ, t, ρ', s', e, q⟩ := w
        unfold evE at e
        rw [up] at e
        cases e
      · obtain ⟨fa, fd, ps, m1, m3, m4⟩ := c.fns1 (by omega) _ _ h4
        have hp := okE_plain a _ h5
        exact Snd.val (PE.imp (pe_callBK (cr_srtk m4 m3 (by rw [Nat.sub_add_cancel (by omega)]; exact c.room)) (c.gl_of h1) (c.bl _ (by decide)) (by decide +kernel) (pa_cons (sndE a c h5).pe pa_nil (star_ok hp)) (pk_cons (pe_glob (v := .ref fa) (c.gl_of h2) m1 rfl h3) pk_nil) (by decide) (by decide) (by rw [star_ok hp]; rfl) (by rw [star_ok hp]; rfl)) fun σ H Q w => srtk_ok (by have w' : tM X.K B H0 (fun ρ => evE C _ ρ) σ H Q := w; unfold evE at w'; rw [c.fn0] at w'; simpa [hn] using w')) rfl
    · cases h
  | mcl f gs as =>
    unfold okE at h
    split at h
    · simp only [Bool.and_eq_true, decide_eq_true_eq] at h
      obtain ⟨⟨⟨⟨h1, h2⟩, h3⟩, h4⟩, h5⟩ := h
      obtain ⟨a, r, rfl, h6, h7⟩ := okA_cons h4
      exact Snd.val (pe_mcl c h3 h5 h1 h2 (sndA 0 _ c h4) (okE_plain a _ h6) (okA_star okE_plain h7 _) (evA_len h4)) rfl
    · cases h
  | obc f fi as bs =>
    unfold okE at h
    split at h
    · simp only [Bool.and_eq_true, decide_eq_true_eq, Bool.not_eq_true'] at h
      obtain ⟨⟨⟨⟨⟨⟨h1, h2⟩, h3⟩, h4⟩, h5⟩, h6⟩, h7⟩ := h
      obtain ⟨a, r, rfl, h8, h9⟩ := okA_cons h3
      obtain ⟨a2, r2, rfl, h10, h11⟩ := okA_cons h4
      exact Snd.val (pe_obc c h5 h6 h7 h1 h2 (sndA 2 _ c h3) (sndA 0 _ c h4) (okE_plain a _ h8) (okE_plain a2 _ h10) (okA_star okE_plain h9 _) (okA_star okE_plain h11 _) (evA_len h3) (evA_len h4)) rfl
    · cases h
  | lc it tg k el own =>
    unfold okE at h
    split at h
    · rename_i el' tg' it' ifs scope pos
      simp only [Bool.and_eq_true] at h
      obtain ⟨⟨⟨⟨⟨⟨h1, h2⟩, h3⟩, h4⟩, h5⟩, h6⟩, h7⟩ := h
      have ok : BlkOk X.N X.env.scope scope (own.map fun i => (S.N.getD i "", i)) := by rw [c.N, c.sc]; exact blkOk_by h3
      have fin : ∀ {tt : TT}, (∀ (s : Shared) (H : Hp) (Ca : Addr) (cl : List (Str × Addr)) (fp : List Addr), PTs (X.blk s H scope (compEnvC scope cl Ca X.env) fp) ifs tt) →
          (∀ (σ : St) (H : Hp) Q, tMB X.K B H0 (fun ρ => asC k.isNop (evE C k ρ) ρ) σ H Q → tt σ H Q) → PE X (.ListComp el' [⟨tg', it', ifs, 0⟩] scope pos) (tM X.K B H0 (evE C (.lc it tg k el own))) := fun {tt} pt htt => by
        have base := pe_lc (pos := pos) c.calm (by rw [c.N]; exact c.nd) (sndI it c h2) ok (fun s H Ca cl fp => (show PG (X.blk s H scope (compEnvC scope cl Ca X.env) fp) tg' (gT X.K tg) from pg_ok (c.blk scope s H Ca cl fp) tg tg' h4)) pt (fun s H Ca cl fp => (show PE (X.blk s H scope (compEnvC scope cl Ca X.env) fp) el' (tM X.K B H0 (evE C el)) from (sndE (X := X.blk s H scope (compEnvC scope cl Ca X.env) fp) el (c.blk scope s H Ca cl fp) h6).pe)) (set_ok h1)
        rw [blk_own] at base
        refine PE.imp base fun σ H Q w => ?_
        have w' : tM X.K B H0 (fun ρ => evE C (.lc it tg k el own) ρ) σ H Q := w
        unfold evE at w'
        exact lc_ok (mem_all h5) htt (fun σ H Q z => tMD_of z) w'
      refine Snd.val ?_ rfl
      split at h7
      · exact fin (fun _ _ _ _ _ => pts_nil) fun σ H Q ⟨G, ρ, t, ρ', s, e, q⟩ => by
          rw [h7] at e
          cases e
          exact q G H (EI.refl s)
      · refine fin (fun s H Ca cl fp => pts_one (show PT (X.blk s H scope (compEnvC scope cl Ca X.env) fp) _ (tMB X.K B H0 fun ρ => asB (evE C k ρ)) from (sndE (X := X.blk s H scope (compEnvC scope cl Ca X.env) fp) k (c.blk scope s H Ca cl fp) h7).pt)) fun σ H Q w => ?_
        rw [okE_nop h7] at w
        exact w
      · cases h7
    · cases h
  | lc2 it tg it1 tg1 k el own =>
    unfold okE at h
    split at h
    · rename_i el' tg' it' tg1' it1' ifs scope pos
      simp only [Bool.and_eq_true] at h
      obtain ⟨⟨⟨⟨⟨⟨⟨⟨⟨⟨h1, h1'⟩, h2⟩, h3⟩, h4⟩, h5⟩, i2⟩, i4⟩, i5⟩, h6⟩, h7⟩ := h
      have ok : BlkOk X.N X.env.scope scope (own.map fun i => (S.N.getD i "", i)) := by rw [c.N, c.sc]; exact blkOk_by h3
      have fin : ∀ {tt : TT}, (∀ (s : Shared) (H : Hp) (Ca : Addr) (cl : List (Str × Addr)) (fp : List Addr), PTs (X.blk s H scope (compEnvC scope cl Ca X.env) fp) ifs tt) →
          (∀ (σ : St) (H : Hp) Q, tMB X.K B H0 (fun ρ => asC k.isNop (evE C k ρ) ρ) σ H Q → tt σ H Q) → PE X (.ListComp el' [⟨tg', it', [], 0⟩, ⟨tg1', it1', ifs, 0⟩] scope pos) (tM X.K B H0 (evE C (.lc2 it tg it1 tg1 k el own))) := fun {tt} pt htt => by
        have base := pe_lc2 (vs1 := tg1.ix) (pos := pos) c.calm (by rw [c.N]; exact c.nd) (sndI it c h2) ok (by rw [blk_own]; exact mem_all i5) (fun s H Ca cl fp => (show PG (X.blk s H scope (compEnvC scope cl Ca X.env) fp) tg' (gT X.K tg) from pg_ok (c.blk scope s H Ca cl fp) tg tg' h4)) (fun _ _ _ _ _ => pts_nil)
          (fun s H Ca cl fp => (show PI (X.blk s H scope (compEnvC scope cl Ca X.env) fp) tg1' it1' (tMI X.K B H0 (evI C it1)) from sndI (X := X.blk s H scope (compEnvC scope cl Ca X.env) fp) it1 (c.blk scope s H Ca cl fp) i2))
          (fun s H Ca cl fp => (show PG (X.blk s H scope (compEnvC scope cl Ca X.env) fp) tg1' (gT X.K tg1) from pg_ok (c.blk scope s H Ca cl fp) tg1 tg1' i4)) pt
          (fun s H Ca cl fp => (show PE (X.blk s H scope (compEnvC scope cl Ca X.env) fp) el' (tM X.K B H0 (evE C el)) from (sndE (X := X.blk s H scope (compEnvC scope cl Ca X.env) fp) el (c.blk scope s H Ca cl fp) h6).pe)) (set_ok h1) (fun env x => set_ok (env := env) h1' x)
        rw [blk_own] at base
        refine PE.imp base fun σ H Q w => ?_
        have w' : tM X.K B H0 (fun ρ => evE C (.lc2 it tg it1 tg1 k el own) ρ) σ H Q := w
        unfold evE at w'
        exact lc2_ok (mem_all h5) (fun i hi => hi) htt (fun σ H Q z => tMD_of z) w'
      refine Snd.val ?_ rfl
      split at h7
      · exact fin (fun _ _ _ _ _ => pts_nil) fun σ H Q ⟨G, ρ, t, ρ', s, e, q⟩ => by
          rw [h7] at e
          cases e
          exact q G H (EI.refl s)
      · refine fin (fun s H Ca cl fp => pts_one (show PT (X.blk s H scope (compEnvC scope cl Ca X.env) fp) _ (tMB X.K B H0 fun ρ => asB (evE C k ρ)) from (sndE (X := X.blk s H scope (compEnvC scope cl Ca X.env) fp) k (c.blk scope s H Ca cl fp) h7).pt)) fun σ H Q w => ?_
        rw [okE_nop h7] at w
        exact w
      · cases h7
    · cases h
theorem sndA (m : Nat) (as : IAs) : ∀ {S : Sx} {X : Cx} {es : List Expr}, CxOk n C B S X → okA S as es = true → PA X es (tMA X.K B H0 (evA C m as)) := by
  intro S X es c h
  cases as with
  | nil =>
    unfold okA at h
    cases es with
    | nil => exact PA.imp pa_nil fun σ H Q w => nil_ok (by have w' : tMA X.K B H0 (fun ρ => evA C m _ ρ) σ H Q := w; unfold evA at w'; exact w')
    | cons => cases h
  | cons a r =>
    unfold okA at h
    cases es with
    | nil => cases h
    | cons e es =>
      simp only [Bool.and_eq_true] at h
      exact PA.imp (pa_cons (sndE a c h.1).pe (sndA m r c h.2) (star_ok (okE_plain a _ h.1))) fun σ H Q w => cons_ok (by have w' : tMA X.K B H0 (fun ρ => evA C m _ ρ) σ H Q := w; unfold evA at w'; exact w')
theorem sndD (as : IAs) : ∀ (ks : List Key) {S : Sx} {X : Cx} {keys : List (Option Expr)} {es : List Expr} {pos : Pos}, CxOk n C B S X → okKeys ks keys = true → okA S as es = true → es.length = ks.length → PPs X pos keys es (trsOf X.K B H0 C ks as) := by
  intro ks S X keys es pos c h1 h2 hl
  cases as with
  | nil =>
    unfold okA at h2
    cases es with
    | nil =>
      have := List.eq_nil_of_length_eq_zero hl.symm
      subst this
      unfold okKeys at h1
      cases keys with
      | nil => exact pps_nil
      | cons => cases h1
    | cons => cases h2
  | cons a r =>
    unfold okA at h2
    cases es with
    | nil => cases h2
    | cons e es =>
      simp only [Bool.and_eq_true] at h2
      cases ks with
      | nil => cases hl
      | cons k ks =>
        unfold okKeys at h1
        split at h1
        · rename_i e1 es1
          simp only [Bool.and_eq_true] at h1
          refine pps_cons ?_ (sndE a c h2.1).pe (sndD r ks c h1.2 h2.2 (by simpa using hl))
          have h3 := h1.1
          split at h3
          · have e := of_decide_eq_true h3; subst e; exact pe_int
          · have e := of_decide_eq_true h3; subst e; exact pe_str
          · cases h3
        · cases h1
theorem sndI (it : II) : ∀ {S : Sx} {X : Cx} {e tg : Expr}, CxOk n C B S X → okI S it e tg = true → PI X tg e (tMI X.K B H0 (evI C it)) := by
  intro S X e tg c h
  cases it with
  | seq a =>
    unfold okI at h
    have p := (sndE a c h).pe
    exact PI.imp (PI.or (PI.or (PI.or (pi_list p) (pi_tup p)) (pi_str p)) (PI.or (pi_keys p) (pi_keysX p))) fun σ H R w => seq_ok (by have w' : tMI X.K B H0 (fun ρ => evI C (.seq a) ρ) σ H R := w; unfold evI at w'; exact w')
  | rng as =>
    unfold okI at h
    split at h
    · rename_i x p es pos
      simp only [Bool.and_eq_true, decide_eq_true_eq] at h
      obtain ⟨⟨⟨rfl, h1⟩, h2⟩, h3⟩ := h
      have rd : ∀ (σ : St) (H : Hp) R, tMI X.K B H0 (evI C (.rng as)) σ H R → tMA X.K B H0 (evA C 0 as) σ H _ := fun σ H R w => by
        have w' : tMI X.K B H0 (fun ρ => evI C (.rng as) ρ) σ H R := w
        unfold evI at w'
        exact tMA_and (rng_ok w') (evA_len h2)
      split at h3
      · obtain ⟨a, rfl, h5⟩ := okA1 h2
        refine PI.imp (pi_range1 (c.gl_of h1) (c.bl _ (by decide)) (sndA 0 _ c h2) (star_ok (okE_plain a _ h5))) fun σ H R w => ?_
        refine tMA_imp (rd σ H R w) fun vs H1 ⟨hl, z⟩ => ?_
        rcases z with z | ⟨i, j, rfl, _⟩
        · exact z
        · cases hl
      · obtain ⟨a, b, rfl, h5, h6⟩ := okA2 h2
        refine PI.imp (pi_range2 (c.gl_of h1) (c.bl _ (by decide)) (sndA 0 _ c h2) (by rw [star_ok (okE_plain a _ h5), star_ok (okE_plain b _ h6)]; rfl) (star_ok (okE_plain b _ h6))) fun σ H R w => ?_
        refine tMA_imp (rd σ H R w) fun vs H1 ⟨hl, z⟩ => ?_
        rcases z with ⟨j, rfl, _⟩ | z
        · cases hl
        · exact z
      · cases h3
    · cases h
  | zip a b =>
    unfold okI at h
    split at h
    · simp only [Bool.and_eq_true, decide_eq_true_eq] at h
      obtain ⟨⟨⟨rfl, h1⟩, h2⟩, h3⟩ := h
      have st := star_ok (es := []) (env := X.env) (okE_plain b _ h3)
      exact PI.imp (FwZ.pi_zipK (c.gl_of h1) (c.bl _ (by decide)) (pa_cons (sndE a c h2).pe (pa_cons (sndE b c h3).pe pa_nil st) (star_ok (okE_plain a _ h2))) (star_ok (okE_plain a _ h2)) (by rw [st]; rfl)) fun σ H R w => zip_ok (by have w' : tMI X.K B H0 (fun ρ => evI C (.zip a b) ρ) σ H R := w; unfold evI at w'; exact w')
    · cases h
  | enm a =>
    unfold okI at h
    split at h
    · simp only [Bool.and_eq_true, decide_eq_true_eq] at h
      obtain ⟨⟨rfl, h1⟩, h2⟩ := h
      have p := (sndE a c h2).pe
      have st := star_ok (es := []) (env := X.env) (okE_plain a _ h2)
      exact PI.imp (pi_enum (c.gl_of h1) (c.bl _ (by decide)) (pa_cons p pa_nil st) st) fun σ H R w => enm_ok (by have w' : tMI X.K B H0 (fun ρ => evI C (.enm a) ρ) σ H R := w; unfold evI at w'; exact w')
    · cases h
  | rev a =>
    unfold okI at h
    split at h
    · simp only [Bool.and_eq_true, decide_eq_true_eq] at h
      obtain ⟨⟨rfl, h1⟩, h2⟩ := h
      have p := (sndE a c h2).pe
      exact PI.imp (RT.pi_revA (c.gl_of h1) (c.bl _ (by decide)) p (star_ok (okE_plain a _ h2))) fun σ H R w => rev_ok (by have w' : tMI X.K B H0 (fun ρ => evI C (.rev a) ρ) σ H R := w; unfold evI at w'; exact w')
    · cases h
  | dit a =>
    unfold okI at h
    split at h
    · simp only [Bool.and_eq_true, decide_eq_true_eq] at h
      obtain ⟨⟨h1, rfl⟩, h2⟩ := h
      exact PI.imp (pi_items (sndE a c h1).pe rfl h2) fun σ H R w => dit_ok (by have w' : tMI X.K B H0 (fun ρ => evI C (.dit a) ρ) σ H R := w; unfold evI at w'; exact w')
    · cases h
end
end
end Fw

set_option maxHeartbeats 8000000
/-! Fw13: statements. -/
namespace Fw
open PySem PySem.Spec PyProof.Rows L2

/-- a statement's way -/
structure SI (K : PySem.W.Frag) (B : Fb) (H0 : Hp) (G H : Hp) (σ : St) (ρ : List Sl) (G' H' : Hp) (σ' : St) (ρ' : List Sl) : Prop where
  s1 : StRep K B H0 G' H' σ' ρ'
  st : Stp G H (Ow σ ρ) G' H'
  ow : ∀ b, Ow σ' ρ' b → Ow σ ρ b ∨ H b = none
def EndOk (K : PySem.W.Frag) (H0 : Hp) (D : Ends) (σ : St) (G H : Hp) : Fl → Prop
  | .nx => D.nx σ H
  | .bk => D.bk σ H
  | .ct => D.ct σ H
  | .rt t => ∀ v, PRep K H0 G H v t → D.rt v H
def tS (K : PySem.W.Frag) (B : Fb) (H0 : Hp) (m : List Sl → Rs Fl) : TS := fun D σ H => ∃ G ρ fl ρ', StRep K B H0 G H σ ρ ∧ m ρ = some (fl, ρ') ∧
  ∀ σ' G' H', SI K B H0 G H σ ρ G' H' σ' ρ' → EndOk K H0 D σ' G' H' fl
section
variable {K : PySem.W.Frag} {B : Fb} {H0 G H G' H' G1 H1 G2 H2 Gs Hs : Hp} {σ σ' σ1 σ2 σw : St} {ρ ρ' ρs ρ1 ρ2 : List Sl} {D : Ends}
theorem EI.si (a : EI K B H0 σ G H ρ G1 H1 ρ1) : SI K B H0 G H σ ρ G1 H1 σ ρ1 := ⟨a.s1, a.st, fun b z => .inl (a.ow b z)⟩
theorem SI.refl (s : StRep K B H0 G H σ ρ) : SI K B H0 G H σ ρ G H σ ρ := (EI.refl s).si
theorem SI.trans (a : SI K B H0 G H σ ρ G1 H1 σ1 ρ1) (b : SI K B H0 G1 H1 σ1 ρ1 G2 H2 σ2 ρ2) : SI K B H0 G H σ ρ G2 H2 σ2 ρ2 :=
  ⟨b.s1, a.st.trans a.ow b.st, fun x z => by
    rcases b.ow x z with y | y
    · exact a.ow x y
    · right
      cases q : H x with
      | none => rfl
      | some o => exact absurd y (a.st.alive x (by rw [q]; simp))⟩
theorem SI.gro (a : SI K B H0 G H σ ρ G1 H1 σ1 ρ1) (g : Gro G1 H1 G2 H2) : SI K B H0 G H σ ρ G2 H2 σ1 ρ1 := a.trans ((EI.refl a.s1).gro g).si
theorem SI.bd {ix : List Nat} (a : SI K B H0 G H σ ρ G1 H1 σ1 ρ1) (b : Bd K B H0 G1 H1 σ1 ρ1 σ2 ρ2 ix) : SI K B H0 G H σ ρ G1 H1 σ2 ρ2 :=
  ⟨b.s, a.st, fun x z => a.ow x (b.ow x z)⟩
theorem PRep.back {v : V} {t : T} (h : PRep K Hs G H v t) (f : ∀ b, H0 b ≠ none → Hs b ≠ none) : PRep K H0 G H v t := by
  cases t with
  | d d => exact h
  | new o =>
    obtain ⟨p, e, r, z⟩ := h
    refine ⟨p, e, r, ?_⟩
    cases q : H0 p with
    | none => rfl
    | some o => exact absurd z (f p (by rw [q]; simp))
  | sl i => exact h.elim
/-- a block -/
theorem seqS_ok {f g : List Sl → Rs Fl} (h : tS K B H0 (fun ρ => (f ρ).bind fun q => match q.1 with | .nx => g q.2 | _ => some q) D σ H) : tSeq (tS K B H0 f) (tS K B H0 g) D σ H := by
  obtain ⟨G, ρ, fl, ρ', s, e, q⟩ := h
  obtain ⟨⟨f1, ρ1⟩, e1, e⟩ := Option.bind_eq_some_iff.mp e
  refine ⟨G, ρ, f1, ρ1, s, e1, fun σ1 G1 H1 S1 => ?_⟩
  dsimp only at e
  cases f1 with
  | nx => exact ⟨G1, ρ1, fl, ρ', S1.s1, e, fun σ2 G2 H2 S2 => q σ2 G2 H2 (S1.trans S2)⟩
  | bk => cases e; exact q σ1 G1 H1 S1
  | ct => cases e; exact q σ1 G1 H1 S1
  | rt t => cases e; exact q σ1 G1 H1 S1
/-- a store of a new object -/
theorem store_new {i : Nat} {o : O} {x : V} (a : EI K B H0 σ Gs Hs ρs G H ρ) (h : TRep K Hs G H σ x (.new o)) (hb : bindable ρ i = true) : SI K B H0 Gs Hs σ ρs G H (σ.set i (some x)) (ρ.set i (.own o)) := by
  obtain ⟨p, rfl, r, f⟩ := h
  have hi : i < ρ.length := by
    unfold bindable at hb
    split at hb <;> first | (cases hb; done) | skip
    rename_i q; exact (List.getElem?_eq_some_iff.mp q).1
  have hi' : i < σ.length := by rw [a.s1.len]; exact hi
  have np : ¬ Ow σ ρ p := fun z => absurd f (a.s0.alive (a.ow p z))
  have back : ∀ {j b}, OwnAt (σ.set i (some (.ref p))) (ρ.set i (.own o)) j b → (j = i ∧ b = p) ∨ (j ≠ i ∧ OwnAt σ ρ j b) := fun {j b} ⟨e1, s1, e2, e3⟩ => by
    rcases getset e2 with ⟨rfl, rfl, _⟩ | ⟨n, e4⟩
    · rw [List.getElem?_set_self hi'] at e1; cases e1; exact .inl ⟨rfl, rfl⟩
    · rw [List.getElem?_set_ne n] at e1
      exact .inr ⟨fun z => n z.symm, e1, s1, e4, e3⟩
  refine ⟨⟨fun j b hB => ?_, a.s1.ali, a.s1.sub, by rw [List.length_set, List.length_set]; exact a.s1.len, fun j s1 e1 => ?_, fun j k b u1 u2 => ?_, a.s1.bi⟩, a.st, fun b ⟨j, hj⟩ => ?_⟩
  · obtain ⟨p1, s1, p2, p3⟩ := a.s1.pin j b hB
    have ne : i ≠ j := fun e => by
      subst e
      unfold bindable at hb
      rw [p2] at hb
      cases s1 <;> first | (cases p3; done) | (cases hb; done)
    exact ⟨by rw [List.getElem?_set_ne ne]; exact p1, s1, by rw [List.getElem?_set_ne ne]; exact p2, p3⟩
  · rcases getset e1 with ⟨rfl, rfl, _⟩ | ⟨n, e4⟩
    · refine ⟨p, by rw [List.getElem?_set_self hi'], r, ?_⟩
      cases q : H0 p with
      | none => rfl
      | some o => exact absurd f (a.s0.ali p (by rw [q]; simp))
    · exact slAt_move (a.s1.at_ j s1 e4) (List.getElem?_set_ne n)
  · rcases back u1 with ⟨rfl, rfl⟩ | ⟨n1, o1⟩
    · rcases back u2 with ⟨rfl, _⟩ | ⟨n2, o2⟩
      · rfl
      · exact absurd ⟨k, o2⟩ np
    · rcases back u2 with ⟨rfl, rfl⟩ | ⟨n2, o2⟩
      · exact absurd ⟨j, o1⟩ np
      · exact a.s1.inj j k b o1 o2
  · rcases back hj with ⟨rfl, rfl⟩ | ⟨_, o1⟩
    · exact .inr f
    · exact .inl (a.ow b ⟨j, o1⟩)
theorem store_ok {i : Nat} {t : T} {x : V} (a : EI K B H0 σ Gs Hs ρs G H ρ) (h : TRep K Hs G H σ x t) (e : store ρ i t = some ρ') : ∃ G', SI K B H0 Gs Hs σ ρs G' H (σ.set i (some x)) ρ' := by
  unfold store at e
  split at e
  · rename_i d
    split at e
    · rename_i hb; cases e
      exact ⟨G, a.si.bd (bind1 a.s1 h hb)⟩
    · cases e
  · rename_i o
    split at e
    · rename_i hb; cases e
      exact ⟨G, store_new a h hb⟩
    · cases e
  · rename_i j
    split at e
    · rename_i d ρ2 e1
      split at e
      · rename_i hb; cases e
        obtain ⟨G', E, _, r⟩ := settle_ok a h e1
        exact ⟨G', E.si.bd (bind1 E.s1 r hb)⟩
      · cases e
    · cases e
theorem asg_ok {i : Nat} {f : List Sl → Rs T} (h : tS K B H0 (fun ρ => (f ρ).bind fun r => (store r.2 i r.1).map fun ρ2 => (.nx, ρ2)) D σ H) : tAsg (tM K B H0 f) (gName i) D σ H := by
  obtain ⟨G, ρ, fl, ρ', s, e, q⟩ := h
  obtain ⟨⟨t, ρ1⟩, e1, e⟩ := Option.bind_eq_some_iff.mp e
  obtain ⟨ρ2, e2, e⟩ := Option.map_eq_some_iff.mp e
  cases e
  refine ⟨G, ρ, t, ρ1, s, e1, fun x G1 H1 E1 T1 => ?_⟩
  obtain ⟨G2, S⟩ := store_ok E1 T1 e2
  exact q _ G2 H1 S
theorem asgT_ok {t : Tg} {f : List Sl → Rs T} (h : tS K B H0 (fun ρ => (asD (f ρ)).bind fun r => (bindT t r.1 r.2).map fun ρ2 => (.nx, ρ2)) D σ H) : tAsg (tM K B H0 f) (gT K t) D σ H := by
  obtain ⟨G, ρ, fl, ρ', s, e, q⟩ := h
  obtain ⟨⟨d, ρ1⟩, e1, e⟩ := Option.bind_eq_some_iff.mp e
  obtain ⟨ρ2, e2, e⟩ := Option.map_eq_some_iff.mp e
  cases e
  refine tMD_of ⟨G, ρ, d, ρ1, s, e1, fun x G1 H1 E1 r => ?_⟩
  exact bind_ok t E1.s1 r e2 fun σ' b => q σ' G1 H1 (E1.si.bd b)
theorem drop_ok {f : List Sl → Rs T} (h : tS K B H0 (fun ρ => (f ρ).bind fun r => some (.nx, r.2)) D σ H) : tDrop (tM K B H0 f) D σ H := by
  obtain ⟨G, ρ, fl, ρ', s, e, q⟩ := h
  obtain ⟨⟨t, ρ1⟩, e1, e⟩ := Option.bind_eq_some_iff.mp e
  cases e
  exact ⟨G, ρ, t, ρ1, s, e1, fun x G1 H1 E1 T1 => q σ G1 H1 E1.si⟩
theorem ifS_ok {f : List Sl → Rs T} {g h' : List Sl → Rs Fl} (h : tS K B H0 (fun ρ => (asB (f ρ)).bind fun r => if r.1 then g r.2 else h' r.2) D σ H) : tIfS (tMB K B H0 fun ρ => asB (f ρ)) (tS K B H0 g) (tS K B H0 h') D σ H := by
  obtain ⟨G, ρ, fl, ρ', s, e, q⟩ := h
  obtain ⟨⟨b, ρ1⟩, e1, e⟩ := Option.bind_eq_some_iff.mp e
  refine ⟨G, ρ, b, ρ1, s, e1, fun G1 H1 E1 => ?_⟩
  dsimp only at e
  cases b with
  | true =>
    rw [if_pos rfl] at e ⊢
    exact ⟨G1, ρ1, fl, ρ', E1.s1, e, fun σ2 G2 H2 S2 => q σ2 G2 H2 (E1.si.trans S2)⟩
  | false =>
    rw [if_neg Bool.false_ne_true] at e ⊢
    exact ⟨G1, ρ1, fl, ρ', E1.s1, e, fun σ2 G2 H2 S2 => q σ2 G2 H2 (E1.si.trans S2)⟩
theorem par_ok {i j : Nat} {f g : List Sl → Rs T} (hij : i ≠ j) (h : tS K B H0 (fun ρ => (asD (f ρ)).bind fun r => (asD (g r.2)).bind fun s => if bindable s.2 i && bindable s.2 j then some (.nx, (s.2.set i (.d r.1)).set j (.d s.1)) else none) D σ H) :
    tPar i j (tCons (tM K B H0 f) (tCons (tM K B H0 g) tNil)) D σ H := by
  obtain ⟨G, ρ, fl, ρ', s, e, q⟩ := h
  obtain ⟨⟨d1, ρ1⟩, e1, e⟩ := Option.bind_eq_some_iff.mp e
  obtain ⟨⟨d2, ρ2⟩, e2, e⟩ := Option.bind_eq_some_iff.mp e
  dsimp only at e
  split at e
  · rename_i hb
    rw [Bool.and_eq_true] at hb
    cases e
    refine tMD_of ⟨G, ρ, d1, ρ1, s, e1, fun x G1 H1 E1 r1 => tMD_of ⟨G1, ρ1, d2, ρ2, E1.s1, e2, fun y G2 H2 E2 r2 => ?_⟩⟩
    have b1 := bind1 E2.s1 (r1.mono E2.st.same) hb.1
    have hb2 : bindable (ρ2.set i (.d d1)) j = true := by
      unfold bindable
      rw [List.getElem?_set_ne hij]
      exact hb.2
    have b2 := bind1 b1.s r2 hb2
    exact ⟨x, y, rfl, q _ G2 H2 (((E1.trans E2).si.bd b1).bd b2)⟩
  · cases e
theorem aug_ok {i : Nat} {op : Operator} {f : List Sl → Rs T} {tip : TIp} (ho : (op = .Add ∧ tip = ipI fun i j => i + j) ∨ (op = .Sub ∧ tip = ipI fun i j => i - j))
    (h : tS K B H0 (fun ρ => (asD (f ρ)).bind fun r => ((ρ[i]?).bind fun s => augF op s r.1).bind fun z => (bindT (.nm i) z r.2).map fun ρ2 => (.nx, ρ2)) D σ H) : tAug i (tM K B H0 f) tip D σ H := by
  obtain ⟨G, ρ, fl, ρ', s, e, q⟩ := h
  obtain ⟨⟨d, ρ1⟩, e1, e⟩ := Option.bind_eq_some_iff.mp e
  obtain ⟨z, e2, e⟩ := Option.bind_eq_some_iff.mp e
  obtain ⟨ρ2, e3, e⟩ := Option.map_eq_some_iff.mp e
  cases e
  obtain ⟨sl, e4, e5⟩ := Option.bind_eq_some_iff.mp e2
  dsimp only at e5
  have at0 := s.at_ i sl e4
  unfold augF at e5
  split at e5
  · rename_i a b
    obtain ⟨v, f1, r⟩ := at0
    cases r
    refine ⟨_, f1, tMD_of ⟨G, ρ, _, ρ1, s, e1, fun y G1 H1 E1 r1 => ?_⟩⟩
    cases r1
    rcases ho with ⟨rfl, rfl⟩ | ⟨rfl, rfl⟩
    · cases e5
      refine ⟨_, _, rfl, rfl, ?_⟩
      exact bind_ok (Q := D.nx) (.nm i) E1.s1 (.int _) e3 fun σ' bd => q σ' G1 H1 (E1.si.bd bd)
    · cases e5
      refine ⟨_, _, rfl, rfl, ?_⟩
      exact bind_ok (Q := D.nx) (.nm i) E1.s1 (.int _) e3 fun σ' bd => q σ' G1 H1 (E1.si.bd bd)
  · cases e5
/-- a store at a place of a list or a key of a dict -/
def rSetX (K : PySem.W.Frag) : TSet := fun o i v H Q => rSetL o i v H Q ∨ ∃ G a u ks vs k x ks' vs', o = .ref a ∧ Same G H ∧ H a = some u ∧ DicU K G a u ks vs ∧ Rep K G i k ∧ Rep K G v x ∧ dPutF ks vs k x = some (ks', vs') ∧ ∀ u', DicU K G a u' ks' vs' → Q (upd H a u')
theorem set_x {X : Cx} (hu : X.A.units + 16 < cLine) : PSet X (rSetX X.K) := by
  intro pins s σ H o i v uo ui uv Q I ro ri rv h
  rcases h with h | ⟨G, a, u, ks, vs, k, x, ks', vs', rfl, sg, ha, du, ri', rx, hp, q⟩
  · exact set_list pins s σ H o i v uo ui uv Q I ro ri rv h
  · obtain rfl : uo = Value.ref a := ro
    exact dq_setItem hu I sg ha du (VRep.of_rep sg ri') hp ri rv rx ri' fun u' du' s' I' => ⟨_, I', q u' du'⟩
theorem setI_ok {f g h' : List Sl → Rs T} (h : tS K B H0 (fun ρ => (asD (f ρ)).bind fun r => (g r.2).bind fun s => (slOf s.1).bind fun j => (asD (h' s.2)).bind fun k => (setF k.2 j k.1 r.1).map fun ρ2 => (.nx, ρ2)) D σ H) :
    tAsg (tM K B H0 f) (gSub (tM K B H0 g) (tM K B H0 h') (rSetX K)) D σ H := by
  obtain ⟨G, ρ, fl, ρ', s, e, q⟩ := h
  obtain ⟨⟨d, ρ1⟩, e1, ea⟩ := Option.bind_eq_some_iff.mp e
  obtain ⟨⟨t, ρ2⟩, e2, eb⟩ := Option.bind_eq_some_iff.mp ea
  obtain ⟨j, e3, ec⟩ := Option.bind_eq_some_iff.mp eb
  obtain ⟨⟨k, ρ3⟩, e4, ed⟩ := Option.bind_eq_some_iff.mp ec
  obtain ⟨ρ4, e5, ee⟩ := Option.map_eq_some_iff.mp ed
  cases ee
  clear ea eb ec ed
  have et : t = .sl j := by
    dsimp only at e3
    unfold slOf at e3
    split at e3
    · cases e3; rfl
    · cases e3
  subst et
  unfold setF at e5
  obtain ⟨o, e6, e7⟩ := Option.bind_eq_some_iff.mp e5
  refine tMD_of ⟨G, ρ, d, ρ1, s, e1, fun x G1 H1 E1 r1 => ⟨G1, ρ1, _, ρ2, E1.s1, e2, fun ov G2 H2 E2 T2 => tMD_of ⟨G2, ρ2, _, ρ3, E2.s1, e4, fun iv G3 H3 E3 r3 => ?_⟩⟩⟩
  have hv : σ[j]? = some (some ov) := T2
  cases o with
  | lst xs =>
    cases k with
    | int i =>
      obtain ⟨m, e8, e9⟩ := Option.bind_eq_some_iff.mp e7
      cases r3
      obtain ⟨a, us, rfl, ha, l, ow, up⟩ := setO_ok E3.s1 e6 hv
      have E := up (us.set m x) _ _ (l.set (r1.mono (E2.trans E3).st.same) m) e9
      exact .inl ⟨a, us, _, m, rfl, rfl, ha, by rw [l.length]; exact e8, q σ G3 _ ((E1.trans (E2.trans (E3.trans E))).si)⟩
    | _ => cases e7
  | dic ks vs =>
    obtain ⟨⟨ks', vs'⟩, e8, e9⟩ := Option.bind_eq_some_iff.mp (show (dPutF ks vs k d).bind (fun r => setO ρ3 j (.dic r.1 r.2)) = some ρ' from e7)
    obtain ⟨a, rfl, ⟨u, h1, h2, h3⟩, ow, up⟩ := setO_upd E3.s1 e6 hv
    refine .inr ⟨G3, a, u, ks, vs, k, d, ks', vs', rfl, E3.s1.sub, h1, h3, r3, r1.mono (E2.trans E3).st.same, e8, fun u' du' => ?_⟩
    have E := up (.dic ks' vs') _ _ ⟨u', upd_same, h2, du'⟩ e9
    exact q σ G3 _ ((E1.trans (E2.trans (E3.trans E))).si)
theorem putS_ok {g h' : List Sl → Rs T} {x : V} {d : Fw.D} {ρ1 ρ4 : List Sl} {Q : St → Hp → Prop} (s1 : StRep K B H0 G1 H1 σ ρ1) (r1 : Rep K G1 x d) (e : putS g h' d ρ1 = some ρ4) (q : ∀ G4 H4, EI K B H0 σ G1 H1 ρ1 G4 H4 ρ4 → Q σ H4) :
    gSub (tM K B H0 g) (tM K B H0 h') (rSetX K) x σ H1 Q := by
  unfold putS at e
  obtain ⟨⟨t, ρ2⟩, e2, eb⟩ := Option.bind_eq_some_iff.mp e
  obtain ⟨j, e3, ec⟩ := Option.bind_eq_some_iff.mp eb
  obtain ⟨⟨k, ρ3⟩, e4, e5⟩ := Option.bind_eq_some_iff.mp ec
  clear eb ec
  have et : t = .sl j := by
    dsimp only at e3
    unfold slOf at e3
    split at e3
    · cases e3; rfl
    · cases e3
  subst et
  unfold setF at e5
  obtain ⟨o, e6, e7⟩ := Option.bind_eq_some_iff.mp e5
  refine ⟨G1, ρ1, _, ρ2, s1, e2, fun ov G2 H2 E2 T2 => tMD_of ⟨G2, ρ2, _, ρ3, E2.s1, e4, fun iv G3 H3 E3 r3 => ?_⟩⟩
  have hv : σ[j]? = some (some ov) := T2
  cases o with
  | lst xs =>
    cases k with
    | int i =>
      obtain ⟨m, e8, e9⟩ := Option.bind_eq_some_iff.mp e7
      cases r3
      obtain ⟨a, us, rfl, ha, l, ow, up⟩ := setO_ok E3.s1 e6 hv
      have E := up (us.set m x) _ _ (l.set (r1.mono (E2.trans E3).st.same) m) e9
      exact .inl ⟨a, us, _, m, rfl, rfl, ha, by rw [l.length]; exact e8, q G3 _ (E2.trans (E3.trans E))⟩
    | _ => cases e7
  | dic ks vs =>
    obtain ⟨⟨ks', vs'⟩, e8, e9⟩ := Option.bind_eq_some_iff.mp (show (dPutF ks vs k d).bind (fun r => setO ρ3 j (.dic r.1 r.2)) = some ρ4 from e7)
    obtain ⟨a, rfl, ⟨u, h1, h2, h3⟩, ow, up⟩ := setO_upd E3.s1 e6 hv
    refine .inr ⟨G3, a, u, ks, vs, k, d, ks', vs', rfl, E3.s1.sub, h1, h3, r3, r1.mono (E2.trans E3).st.same, e8, fun u' du' => ?_⟩
    have E := up (.dic ks' vs') _ _ ⟨u', upd_same, h2, du'⟩ e9
    exact q G3 _ (E2.trans (E3.trans E))
theorem set2_ok {f g1 h1 g2 h2 : List Sl → Rs T} (h : tS K B H0 (fun ρ => (asD (f ρ)).bind fun r => (un2 r.1).bind fun p => (putS g1 h1 p.1 r.2).bind fun ρ1 => (putS g2 h2 p.2 ρ1).map fun ρ2 => (.nx, ρ2)) D σ H) :
    tAsg (tM K B H0 f) (gTup K 2 (gCons (gSub (tM K B H0 g1) (tM K B H0 h1) (rSetX K)) (gCons (gSub (tM K B H0 g2) (tM K B H0 h2) (rSetX K)) gNil))) D σ H := by
  obtain ⟨G, ρ, fl, ρ', s, e, q⟩ := h
  obtain ⟨⟨d, ρ1⟩, e1, ea⟩ := Option.bind_eq_some_iff.mp e
  obtain ⟨⟨d1, d2⟩, e2, eb⟩ := Option.bind_eq_some_iff.mp ea
  obtain ⟨ρ2, e3, ec⟩ := Option.bind_eq_some_iff.mp eb
  obtain ⟨ρ3, e4, ed⟩ := Option.map_eq_some_iff.mp ec
  cases ed
  clear ea eb ec
  have et : d = .tup [d1, d2] := by
    dsimp only at e2
    unfold un2 at e2
    split at e2
    · cases e2; rfl
    · cases e2
  subst et
  refine tMD_of ⟨G, ρ, _, ρ1, s, e1, fun x G1 H1 E1 r1 => ?_⟩
  cases r1 with
  | tup hq hl =>
    cases hl with
    | cons r1 hl =>
      cases hl with
      | cons r2 hl =>
        cases hl
        refine ⟨_, _, rfl, sqT_mono E1.s1.sub hq, rfl, _, _, rfl, putS_ok E1.s1 r1 e3 fun G4 H4 E4 => ⟨_, _, rfl, putS_ok E4.s1 (r2.mono E4.st.same) e4 fun G5 H5 E5 => ⟨rfl, q σ G5 H5 ((E1.trans (E4.trans E5)).si)⟩⟩⟩
theorem ret_ok {f : List Sl → Rs T} (h : tS K B H0 (fun ρ => (f ρ).bind fun r => (retT r.2 r.1).map fun s => (.rt s.1, s.2)) D σ H) : tRet (tM K B H0 f) D σ H := by
  obtain ⟨G, ρ, fl, ρ', s, e, q⟩ := h
  obtain ⟨⟨t, ρ1⟩, e1, e⟩ := Option.bind_eq_some_iff.mp e
  obtain ⟨⟨t', ρ2⟩, e2, e⟩ := Option.map_eq_some_iff.mp e
  cases e
  refine ⟨G, ρ, t, ρ1, s, e1, fun x G1 H1 E1 T1 => ?_⟩
  unfold retT at e2
  cases t with
  | d d => cases e2; exact q σ G1 H1 E1.si x T1
  | new o =>
    cases e2
    refine q σ G1 H1 E1.si x ?_
    obtain ⟨p, rfl, r, f⟩ := T1
    exact PRep.back (Hs := H) ⟨p, rfl, r, f⟩ s.ali
  | sl i =>
    have hv : σ[i]? = some (some x) := T1
    obtain ⟨sl, e3, e4⟩ := Option.bind_eq_some_iff.mp e2
    have z := E1.s1.at_ i sl e3
    cases sl with
    | no => cases e4
    | d d =>
      cases e4
      obtain ⟨v, f1, r⟩ := z
      rw [hv] at f1; cases f1
      exact q σ G1 H1 E1.si x r
    | fz d =>
      cases e4
      obtain ⟨v, f1, r⟩ := z
      rw [hv] at f1; cases f1
      exact q σ G1 H1 E1.si x r
    | own o =>
      cases e4
      obtain ⟨a, f1, r, f2⟩ := z
      rw [hv] at f1; cases f1
      refine q σ G1 H1 ⟨⟨fun j b hB => ?_, E1.s1.ali, E1.s1.sub, by rw [List.length_set]; exact E1.s1.len, fun j s1 w => ?_, fun j k b u1 u2 => ?_, E1.s1.bi⟩, E1.st, fun b ⟨j, y1, s1, y2, y3⟩ => ?_⟩ _ ⟨a, rfl, r, f2⟩
      · obtain ⟨p1, s1, p2, p3⟩ := E1.s1.pin j b hB
        have ne : i ≠ j := fun e => by subst e; rw [e3] at p2; cases p2; cases p3
        exact ⟨p1, s1, by rw [List.getElem?_set_ne ne]; exact p2, p3⟩
      · rcases getset w with ⟨rfl, rfl, _⟩ | ⟨n, w⟩
        · trivial
        · exact E1.s1.at_ j s1 w
      · obtain ⟨y1, s1, y2, y3⟩ := u1
        obtain ⟨z1, s2, z2, z3⟩ := u2
        rcases getset y2 with ⟨rfl, rfl, _⟩ | ⟨n, y2⟩
        · cases y3
        rcases getset z2 with ⟨rfl, rfl, _⟩ | ⟨n', z2⟩
        · cases z3
        exact E1.s1.inj j k b ⟨y1, s1, y2, y3⟩ ⟨z1, s2, z2, z3⟩
      · rcases getset y2 with ⟨rfl, rfl, _⟩ | ⟨n, y2⟩
        · cases y3
        exact .inl (E1.ow b ⟨j, y1, s1, y2, y3⟩)
    | bor o =>
      cases o with
      | dic ks vs => cases e4
      | lst xs =>
      cases e4
      have hs : settle ρ1 (.sl i) = some (.lst xs, ρ1.set i (.fz (.lst xs))) := by
        unfold settle
        simp [e3]
      obtain ⟨G2, E2, _, r⟩ := settle_ok E1 T1 hs
      exact q σ G2 H1 E2.si x r
/-- a for -/
theorem for_ok {tg : Tg} {fI : List Sl → Rs (List Fw.D)} {fb : List Sl → Rs Fl} (h : tS K B H0 (fun ρ => (fI ρ).bind fun r => forS fb tg r.1 r.2) D σ H) : tFor (tMI K B H0 fI) (gT K tg) (tS K B H0 fb) D σ H := by
  obtain ⟨G, ρ, fl, ρ', s, e, q⟩ := h
  obtain ⟨⟨ds, ρ1⟩, e1, e⟩ := Option.bind_eq_some_iff.mp e
  dsimp only at e
  refine ⟨G, ρ, ds, ρ1, s, e1, fun J G1 H1 E1 itok => ?_⟩
  refine ⟨fun i m σ' H' => m = ds.length - i ∧ i ≤ ds.length ∧ ∃ G' ρ2, SI K B H0 G H σ ρ G' H' σ' ρ2 ∧ Same G1 G' ∧ forS fb tg (ds.drop i) ρ2 = some (fl, ρ'), ⟨ds.length, by omega, Nat.zero_le _, G1, ρ1, E1.si, Same.refl _, e⟩, ?_⟩
  rintro i m σ' H' ⟨rfl, hi, G', ρ2, S, sm, ef⟩
  obtain ⟨it1, it2⟩ := itok i G' H' sm S.s1.sub
  by_cases hlt : i < ds.length
  · have e3 : ds[i]? = some ds[i] := List.getElem?_eq_getElem hlt
    obtain ⟨go, yl⟩ := it1 _ e3
    rw [List.drop_eq_getElem_cons hlt] at ef
    unfold forS at ef
    obtain ⟨ρ3, f1, ef⟩ := Option.bind_eq_some_iff.mp ef
    obtain ⟨⟨fl1, ρ4⟩, f2, ef⟩ := Option.bind_eq_some_iff.mp ef
    refine .inr ⟨go, fun σ' H' => i + 1 ≤ ds.length ∧ ∃ G' ρ2, SI K B H0 G H σ ρ G' H' σ' ρ2 ∧ Same G1 G' ∧ forS fb tg (ds.drop (i + 1)) ρ2 = some (fl, ρ'), fun σ2 H2 w => ⟨ds.length - (i + 1), by omega, rfl, w⟩, fun x H2 hy => ?_⟩
    obtain ⟨G2, gr, rx⟩ := yl x H2 hy
    have S2 := S.gro gr
    refine bind_ok tg S2.s1 rx f1 fun σ2 bd => ?_
    have S3 := S2.bd bd
    refine ⟨G2, ρ3, fl1, ρ4, S3.s1, f2, fun σ4 G4 H4 S4 => ?_⟩
    have S5 := S3.trans S4
    have sm5 : Same G1 G4 := (sm.trans gr.g).trans S4.st.same
    dsimp only at ef
    cases fl1 with
    | nx => exact ⟨hlt, G4, ρ4, S5, sm5, ef⟩
    | ct => exact ⟨hlt, G4, ρ4, S5, sm5, ef⟩
    | bk => cases ef; exact q σ4 G4 H4 S5
    | rt t => cases ef; exact q σ4 G4 H4 S5
  · have ei : i = ds.length := by omega
    subst ei
    rw [List.drop_length] at ef
    cases ef
    exact .inl ⟨it2 (Nat.le_refl _), q σ' G' H' S⟩
theorem whl_ok {fc : List Sl → Rs T} {fb : List Sl → Rs Fl} {wf : Nat} (h : tS K B H0 (fun ρ => whlS (fun ρ => asB (fc ρ)) fb wf ρ) D σ H) : tWhile (tMB K B H0 fun ρ => asB (fc ρ)) (tS K B H0 fb) D σ H := by
  obtain ⟨G, ρ, fl, ρ', s, e, q⟩ := h
  refine ⟨fun m σ' H' => ∃ G' ρ2, SI K B H0 G H σ ρ G' H' σ' ρ2 ∧ whlS (fun ρ => asB (fc ρ)) fb m ρ2 = some (fl, ρ'), ⟨wf, G, ρ, SI.refl s, e⟩, ?_⟩
  rintro m σ' H' ⟨G', ρ2, S, ef⟩
  cases m with
  | zero => cases ef
  | succ m =>
    unfold whlS at ef
    obtain ⟨⟨b, ρ3⟩, f1, ef⟩ := Option.bind_eq_some_iff.mp ef
    dsimp only at ef
    refine ⟨G', ρ2, b, ρ3, S.s1, f1, fun G3 H3 E3 => ?_⟩
    have S3 := S.trans E3.si
    cases b with
    | false =>
      rw [if_neg Bool.false_ne_true] at ef
      cases ef
      refine iteF (B := D.nx _ _) ?_
      exact q σ' G3 H3 S3
    | true =>
      rw [if_pos rfl] at ef
      refine iteT (A := ∃ N, _) ?_
      obtain ⟨⟨fl1, ρ4⟩, f2, ef⟩ := Option.bind_eq_some_iff.mp ef
      refine ⟨fun σ2 H2 => ∃ G' ρ2, SI K B H0 G H σ ρ G' H2 σ2 ρ2 ∧ whlS (fun ρ => asB (fc ρ)) fb m ρ2 = some (fl, ρ'), fun σ2 H2 w => ⟨m, by omega, w⟩, G3, ρ3, fl1, ρ4, S3.s1, f2, fun σ4 G4 H4 S4 => ?_⟩
      have S5 := S3.trans S4
      dsimp only at ef
      cases fl1 with
      | nx => exact ⟨G4, ρ4, S5, ef⟩
      | ct => exact ⟨G4, ρ4, S5, ef⟩
      | bk => cases ef; exact q σ4 G4 H4 S5
      | rt t => cases ef; exact q σ4 G4 H4 S5
end
end Fw

set_option maxHeartbeats 8000000
/-! Fw14: the checked blocks; a def's promise; all defs by depth. -/
namespace Fw
open PySem PySem.Spec PyProof.Rows L2

def isDoc : Stmt → Bool
  | .Expr (.Constant (.str _) _ _) _ => true
  | _ => false
def IE.two : IE → Bool
  | .lc2 .. => true
  | .frz a => a.two
  | _ => false
/-- some target is no plain local name -/
def notLoc (sc : Scope) (ts : List Expr) : Bool := ts.any fun t => match t with
  | .Name x _ => !(sc.names.lookup x == some .local)
  | _ => true
mutual
def okS (S : Sx) : IS → Stmt → Bool
  | .asg i e, st => (match st with
    | .Assign [.Name x py] v pos => decide (S.N[i]? = some x) && isLoc S x && okE S e v && (match v with
      | .ListComp _ _ scope cp => (match S.sc.names.lookup x with
        | some .local => (py.line == cp.line) && !(scope.names.any fun (n, k) => n == x && (k == .local || k == .cell))
        | _ => true)
      | v => !compE v)
    | _ => false)
  | .asgT t e, st => (match st with
    | .Assign [.Tuple es k p] v pos => okTg S t (.Tuple es k p) && okE S e v && !compE v && (!isTupE v || notLoc S.sc es)
    | _ => false)
  | .par i j a b, st => (match st with
    | .Assign [.Tuple [.Name x px, .Name y py] _ _] (.Tuple [p, q] _ _) _ => decide (S.N[i]? = some x) && decide (S.N[j]? = some y) && !(i == j) && decide (S.sc.names.lookup x = some .local) && decide (S.sc.names.lookup y = some .local) &&
        okE S a p && okE S b q && (px.line == py.line) && !(foldedForSure 8 p && foldedForSure 8 q) && !(constantsAlone 8 p && constantsAlone 8 q)
    | _ => false)
  | .aug i op e, st => (match st with
    | .AugAssign (.Name x _) o v _ => decide (S.N[i]? = some x) && isLoc S x && decide (op = o) && (decide (op = .Add) || decide (op = .Sub)) && okE S e v
    | _ => false)
  | .setI o i e, st => (match st with
    | .Assign [.Subscript y k q] v _ => okE S o y && okE S i k && okE S e v && !compE v
    | _ => false)
  | .set2 o1 i1 o2 i2 e, st => (match st with
    | .Assign [.Tuple [.Subscript y1 k1 q1, .Subscript y2 k2 q2] kt p] v _ => okE S o1 y1 && okE S i1 k1 && okE S o2 y2 && okE S i2 k2 && okE S e v && !compE v
    | _ => false)
  | .ex e, st => (match st with
    | .Expr v _ => okE S e v && !compE v
    | _ => false)
  | .if_ c a b, st => (match st with
    | .If t x y _ => okE S c t && okSs S a x && okSs S b y
    | _ => false)
  | .for_ t it body, st => (match st with
    | .For tg iter x [] _ => okTg S t tg && okI S it iter tg && plainE iter && okSs S body x
    | _ => false)
  | .whl c body, st => (match st with
    | .While t x [] _ => okE S c t && okSs S body x
    | _ => false)
  | .ret e, st => (match st with
    | .Return (some v) _ => okE S e v
    | _ => false)
  | .retN, st => (match st with
    | .Return none _ => true
    | _ => false)
  | .brk, st => (match st with
    | .Break _ => true
    | _ => false)
  | .cnt, st => (match st with
    | .Continue _ => true
    | _ => false)
  | .pass, st => (match st with
    | .Pass _ => true
    | st => isDoc st)
  | .nvr, _ => true
def okSs (S : Sx) : ISs → List Stmt → Bool
  | .nil, sts => sts.isEmpty
  | .cons s r, sts => (match sts with
    | st :: sts => okS S s st && okSs S r sts
    | [] => false)
end
section
variable {n : Nat} {C : Cfg} {B : Fb} {H0 : Hp}
theorem nilS_ok {K : PySem.W.Frag} : ∀ (D : Ends) (σ : St) (H : Hp), tS K B H0 (exSs C .nil) D σ H → tNext D σ H := fun D σ H ⟨G, ρ, fl, ρ', s, e, q⟩ => by
  cases e
  exact q σ G H (SI.refl s)
theorem nvr_ok {K : PySem.W.Frag} : ∀ (D : Ends) (σ : St) (H : Hp), tS K B H0 (exS C .nvr) D σ H → tNever D σ H := fun D σ H ⟨G, ρ, fl, ρ', s, e, q⟩ => by
  cases e
theorem sub_ok {o i : Expr} {pos : Pos} {env : Env} (h : plainE i = true) (v : Value) : assign (.Subscript o i pos) env v = (do
    let ov ← holding [v] (eval o env)
    let iv ← holding [v, ov] (eval i env)
    standAt pos
    holding [v, ov, iv] (setItem ov iv v)
    release [v, ov, iv] []) := by
  cases i <;> first | rfl | cases h
theorem lcEnd_inv {ρ1 : List Sl} {own : List Nat} {r : Rs (List D)} {t : T} {ρ' : List Sl} (h : lcEnd ρ1 own r = some (t, ρ')) : ∃ xs, t = .new (.lst xs) := by
  obtain ⟨q, _, h⟩ := Option.bind_eq_some_iff.mp h
  split at h
  · cases h; exact ⟨_, rfl⟩
  · cases h
/-- what a comprehension hands back, frozen or not -/
theorem lcT {elt : Expr} {gs : List Comprehension} {scope : Scope} {pos : Pos} : ∀ {e : IE} {S : Sx}, okE S e (.ListComp elt gs scope pos) = true → ∀ ρ t ρ', evE C e ρ = some (t, ρ') → (∃ d, t = .d d) ∨ ∃ xs, t = .new (.lst xs)
  | .lc it tg k el own, S, h, ρ, t, ρ', e => by
    unfold evE at e
    split at e
    · obtain ⟨q, _, e⟩ := Option.bind_eq_some_iff.mp e
      split at e
      · exact .inr (lcEnd_inv e)
      · cases e
    · cases e
  | .lc2 it tg it1 tg1 k el own, S, h, ρ, t, ρ', e => by
    unfold evE at e
    split at e
    · obtain ⟨q, _, e⟩ := Option.bind_eq_some_iff.mp e
      split at e
      · exact .inr (lcEnd_inv e)
      · cases e
    · cases e
  | .frz a, S, h, ρ, t, ρ', e => by
    unfold evE at e
    obtain ⟨d, _, e⟩ := Option.map_eq_some_iff.mp e
    cases e
    exact .inl ⟨_, rfl⟩
  | .var _, _, h, _, _, _, _ => by unfold okE at h; cases h
  | .non, _, h, _, _, _, _ => by unfold okE at h; cases h
  | .bl _, _, h, _, _, _, _ => by unfold okE at h; cases h
  | .int _, _, h, _, _, _, _ => by unfold okE at h; cases h
  | .str _, _, h, _, _, _, _ => by unfold okE at h; cases h
  | .glo _, _, h, _, _, _, _ => by unfold okE at h; cases h
  | .bin _ _ _, _, h, _, _, _, _ => by unfold okE at h; cases h
  | .neg _, _, h, _, _, _, _ => by unfold okE at h; cases h
  | .cmp _ _ _, _, h, _, _, _, _ => by unfold okE at h; cases h
  | .chn _ _ _ _ _, _, h, _, _, _, _ => by unfold okE at h; cases h
  | .and_ _ _, _, h, _, _, _, _ => by unfold okE at h; cases h
  | .or_ _ _, _, h, _, _, _, _ => by unfold okE at h; cases h
  | .one _, _, h, _, _, _, _ => by unfold okE at h; cases h
  | .not_ _, _, h, _, _, _, _ => by unfold okE at h; cases h
  | .ife _ _ _, _, h, _, _, _, _ => by unfold okE at h; cases h
  | .ix _ _, _, h, _, _, _, _ => by unfold okE at h; cases h
  | .kix _ _, _, h, _, _, _, _ => by unfold okE at h; cases h
  | .slc _ _ _, _, h, _, _, _, _ => by unfold okE at h; cases h
  | .nop, _, h, _, _, _, _ => by unfold okE at h; cases h
  | .tup _, _, h, _, _, _, _ => by unfold okE at h; cases h
  | .lst _, _, h, _, _, _, _ => by unfold okE at h; cases h
  | .call _ _, _, h, _, _, _, _ => by unfold okE at h; cases h
  | .blt _ _, _, h, _, _, _, _ => by unfold okE at h; cases h
  | .isi _ _, _, h, _, _, _, _ => by unfold okE at h; cases h
  | .rngs _ _, _, h, _, _, _, _ => by unfold okE at h; cases h
  | .lrev _, _, h, _, _, _, _ => by unfold okE at h; cases h
  | .mth _ _ _, _, h, _, _, _, _ => by unfold okE at h; cases h
  | .bm _ _ _, _, h, _, _, _, _ => by unfold okE at h; cases h
  | .dnew, _, h, _, _, _, _ => by unfold okE at h; cases h
  | .dsp _ _, _, h, _, _, _, _ => by unfold okE at h; cases h
  | .dget _ _, _, h, _, _, _, _ => by unfold okE at h; cases h
  | .srtk _ _, _, h, _, _, _, _ => by unfold okE at h; cases h
  | .mcl _ _ _, _, h, _, _, _, _ => by unfold okE at h; cases h
  | .obc _ _ _ _, _, h, _, _, _, _ => by unfold okE at h; cases h
theorem frzL_ok {K : PySem.W.Frag} {f : List Sl → Rs T} {σ : St} {H : Hp} {Q : VK} (hn : ∀ ρ t ρ', f ρ = some (t, ρ') → (∃ d, t = .d d) ∨ ∃ xs, t = .new (.lst xs)) (h : tM K B H0 (fun ρ => (asF (f ρ)).map fun r => (.d r.1, r.2)) σ H Q) : tM K B H0 f σ H Q := by
  obtain ⟨G, ρ, t, ρ', s, e, q⟩ := h
  obtain ⟨⟨d, ρ1⟩, e1, e2⟩ := Option.map_eq_some_iff.mp e
  cases e2
  obtain ⟨⟨t1, ρ2⟩, e3, e4⟩ := Option.bind_eq_some_iff.mp e1
  refine ⟨G, ρ, t1, ρ2, s, e3, fun v G1 H1 E T => ?_⟩
  have e5 : settle ρ2 t1 = some (d, ρ1) := by
    rcases hn _ _ _ e3 with ⟨d, rfl⟩ | ⟨xs, rfl⟩
    · exact e4
    · exact e4
  obtain ⟨G2, E2, _, r⟩ := settle_ok E T e5
  exact q v G2 H1 E2 r
/-- the parts of a checked comprehension -/
theorem lc_parts {S : Sx} {X : Cx} {elt : Expr} {gs : List Comprehension} {scope : Scope} {pos : Pos} (c : CxOk n C B S X) : ∀ {e : IE}, e.two = false → okE S e (.ListComp elt gs scope pos) = true →
    ∃ (tg iter : Expr) (ifs : List Expr) (own : List (Str × Nat)) (wi : TI) (g : TG) (tt : TT) (te : TE), gs = [⟨tg, iter, ifs, 0⟩] ∧ PI X tg iter wi ∧ BlkOk X.N X.env.scope scope own ∧
      (∀ (s : Shared) (H : Hp) (Ca : Addr) (cl : List (Str × Addr)) (fp : List Addr), PG (X.blk s H scope (compEnvC scope cl Ca X.env) fp) tg g) ∧ (∀ (s : Shared) (H : Hp) (Ca : Addr) (cl : List (Str × Addr)) (fp : List Addr), PTs (X.blk s H scope (compEnvC scope cl Ca X.env) fp) ifs tt) ∧
      (∀ (s : Shared) (H : Hp) (Ca : Addr) (cl : List (Str × Addr)) (fp : List Addr), PE (X.blk s H scope (compEnvC scope cl Ca X.env) fp) elt te) ∧ (∀ x, foldedSetIterable iter X.env x = pure x) ∧
      ∀ (σ : St) (H : Hp) Q, tM X.K B H0 (evE C e) σ H Q → tLc wi g tt te (own.map (·.2)) σ H Q
  | .lc it tg k el own, _, h => by
    unfold okE at h
    split at h
    · rename_i el' tg' it' ifs scope' pos' he
      cases he
      simp only [Bool.and_eq_true] at h
      obtain ⟨⟨⟨⟨⟨⟨h1, h2⟩, h3⟩, h4⟩, h5⟩, h6⟩, h7⟩ := h
      have ok : BlkOk X.N X.env.scope scope (own.map fun i => (S.N.getD i "", i)) := by rw [c.N, c.sc]; exact blkOk_by h3
      have fin : ∀ {tt : TT}, (∀ (σ : St) (H : Hp) Q, tMB X.K B H0 (fun ρ => asC k.isNop (evE C k ρ) ρ) σ H Q → tt σ H Q) → ∀ (σ : St) (H : Hp) Q, tM X.K B H0 (evE C (.lc it tg k el own)) σ H Q → tLc (tMI X.K B H0 (evI C it)) (gT X.K tg) tt (tM X.K B H0 (evE C el)) ((own.map fun i => (S.N.getD i "", i)).map (·.2)) σ H Q := fun {tt} htt σ H Q w => by
        rw [blk_own]
        have w' : tM X.K B H0 (fun ρ => evE C (.lc it tg k el own) ρ) σ H Q := w
        unfold evE at w'
        exact lc_ok (mem_all h5) htt (fun σ H Q z => tMD_of z) w'
      have pI := sndI (n := n) (C := C) (B := B) (H0 := H0) it c h2
      have pG : ∀ (s : Shared) (H : Hp) (Ca : Addr) (cl : List (Str × Addr)) (fp : List Addr), PG (X.blk s H scope (compEnvC scope cl Ca X.env) fp) tg' (gT X.K tg) := fun s H Ca cl fp => pg_ok (c.blk scope s H Ca cl fp) tg tg' h4
      have pE : ∀ (s : Shared) (H : Hp) (Ca : Addr) (cl : List (Str × Addr)) (fp : List Addr), PE (X.blk s H scope (compEnvC scope cl Ca X.env) fp) elt (tM X.K B H0 (evE C el)) := fun s H Ca cl fp => (sndE (n := n) (C := C) (B := B) (H0 := H0) (X := X.blk s H scope (compEnvC scope cl Ca X.env) fp) el (c.blk scope s H Ca cl fp) h6).pe
      split at h7
      · refine ⟨tg', it', _, _, _, _, tYes, _, rfl, pI, ok, pG, fun _ _ _ _ _ => pts_nil, pE, set_ok h1, fin fun σ H Q ⟨G, ρ, t, ρ', s, e, q⟩ => ?_⟩
        rw [h7] at e
        cases e
        exact q G H (EI.refl s)
      · refine ⟨tg', it', _, _, _, _, (tMB X.K B H0 fun ρ => asB (evE C k ρ)), _, rfl, pI, ok, pG, fun s H Ca cl fp => pts_one (show PT (X.blk s H scope (compEnvC scope cl Ca X.env) fp) _ (tMB X.K B H0 fun ρ => asB (evE C k ρ)) from (sndE (n := n) (C := C) (B := B) (H0 := H0) (X := X.blk s H scope (compEnvC scope cl Ca X.env) fp) k (c.blk scope s H Ca cl fp) h7).pt), pE, set_ok h1, fin fun σ H Q w => ?_⟩
        rw [okE_nop h7] at w
        exact w
      · cases h7
    · cases h
  | .frz a, t, h => by
    unfold okE at h
    simp only [Bool.and_eq_true] at h
    obtain ⟨tg, iter, ifs, own, wi, g, tt, te, h1, h2, h3, h4, h5, h6, h7, h8⟩ := lc_parts c (e := a) t h.2
    exact ⟨tg, iter, ifs, own, wi, g, tt, te, h1, h2, h3, h4, h5, h6, h7, fun σ H Q w => h8 σ H Q (frzL_ok (lcT h.2) (by have w' : tM X.K B H0 (fun ρ => evE C _ ρ) σ H Q := w; unfold evE at w'; exact w'))⟩
  | .lc2 _ _ _ _ _ _ _, t, _ => by cases t
  | .var _, _, h => by unfold okE at h; cases h
  | .non, _, h => by unfold okE at h; cases h
  | .bl _, _, h => by unfold okE at h; cases h
  | .int _, _, h => by unfold okE at h; cases h
  | .str _, _, h => by unfold okE at h; cases h
  | .glo _, _, h => by unfold okE at h; cases h
  | .bin _ _ _, _, h => by unfold okE at h; cases h
  | .neg _, _, h => by unfold okE at h; cases h
  | .cmp _ _ _, _, h => by unfold okE at h; cases h
  | .chn _ _ _ _ _, _, h => by unfold okE at h; cases h
  | .and_ _ _, _, h => by unfold okE at h; cases h
  | .or_ _ _, _, h => by unfold okE at h; cases h
  | .one _, _, h => by unfold okE at h; cases h
  | .not_ _, _, h => by unfold okE at h; cases h
  | .ife _ _ _, _, h => by unfold okE at h; cases h
  | .ix _ _, _, h => by unfold okE at h; cases h
  | .kix _ _, _, h => by unfold okE at h; cases h
  | .slc _ _ _, _, h => by unfold okE at h; cases h
  | .nop, _, h => by unfold okE at h; cases h
  | .tup _, _, h => by unfold okE at h; cases h
  | .lst _, _, h => by unfold okE at h; cases h
  | .call _ _, _, h => by unfold okE at h; cases h
  | .blt _ _, _, h => by unfold okE at h; cases h
  | .isi _ _, _, h => by unfold okE at h; cases h
  | .rngs _ _, _, h => by unfold okE at h; cases h
  | .lrev _, _, h => by unfold okE at h; cases h
  | .mth _ _ _, _, h => by unfold okE at h; cases h
  | .bm _ _ _, _, h => by unfold okE at h; cases h
  | .dnew, _, h => by unfold okE at h; cases h
  | .dsp _ _, _, h => by unfold okE at h; cases h
  | .dget _ _, _, h => by unfold okE at h; cases h
  | .srtk _ _, _, h => by unfold okE at h; cases h
  | .mcl _ _ _, _, h => by unfold okE at h; cases h
  | .obc _ _ _ _, _, h => by unfold okE at h; cases h
theorem lc2_parts {S : Sx} {X : Cx} {elt : Expr} {gs : List Comprehension} {scope : Scope} {pos : Pos} (c : CxOk n C B S X) : ∀ {e : IE}, e.two = true → okE S e (.ListComp elt gs scope pos) = true →
    ∃ (tg iter tg1 iter1 : Expr) (ifs : List Expr) (own : List (Str × Nat)) (vs1 : List Nat) (wi wi1 : TI) (g g1 : TG) (tt : TT) (te : TE), gs = [⟨tg, iter, [], 0⟩, ⟨tg1, iter1, ifs, 0⟩] ∧ PI X tg iter wi ∧ BlkOk X.N X.env.scope scope own ∧ (∀ i ∈ vs1, i ∈ own.map (·.2)) ∧
      (∀ (s : Shared) (H : Hp) (Ca : Addr) (cl : List (Str × Addr)) (fp : List Addr), PG (X.blk s H scope (compEnvC scope cl Ca X.env) fp) tg g) ∧
      (∀ (s : Shared) (H : Hp) (Ca : Addr) (cl : List (Str × Addr)) (fp : List Addr), PI (X.blk s H scope (compEnvC scope cl Ca X.env) fp) tg1 iter1 wi1) ∧
      (∀ (s : Shared) (H : Hp) (Ca : Addr) (cl : List (Str × Addr)) (fp : List Addr), PG (X.blk s H scope (compEnvC scope cl Ca X.env) fp) tg1 g1) ∧ (∀ (s : Shared) (H : Hp) (Ca : Addr) (cl : List (Str × Addr)) (fp : List Addr), PTs (X.blk s H scope (compEnvC scope cl Ca X.env) fp) ifs tt) ∧
      (∀ (s : Shared) (H : Hp) (Ca : Addr) (cl : List (Str × Addr)) (fp : List Addr), PE (X.blk s H scope (compEnvC scope cl Ca X.env) fp) elt te) ∧ (∀ x, foldedSetIterable iter X.env x = pure x) ∧ (∀ env x, foldedSetIterable iter1 env x = pure x) ∧
      ∀ (σ : St) (H : Hp) Q, tM X.K B H0 (evE C e) σ H Q → tLc2 wi g tYes wi1 g1 tt te (own.map (·.2)) vs1 σ H Q
  | .lc2 it tg it1 tg1 k el own, _, h => by
    unfold okE at h
    split at h
    · rename_i el' tg' it' tg1' it1' ifs scope' pos' he
      cases he
      simp only [Bool.and_eq_true] at h
      obtain ⟨⟨⟨⟨⟨⟨⟨⟨⟨⟨h1, h1'⟩, h2⟩, h3⟩, h4⟩, h5⟩, i2⟩, i4⟩, i5⟩, h6⟩, h7⟩ := h
      have ok : BlkOk X.N X.env.scope scope (own.map fun i => (S.N.getD i "", i)) := by rw [c.N, c.sc]; exact blkOk_by h3
      have fin : ∀ {tt : TT}, (∀ (σ : St) (H : Hp) Q, tMB X.K B H0 (fun ρ => asC k.isNop (evE C k ρ) ρ) σ H Q → tt σ H Q) → ∀ (σ : St) (H : Hp) Q, tM X.K B H0 (evE C (.lc2 it tg it1 tg1 k el own)) σ H Q → tLc2 (tMI X.K B H0 (evI C it)) (gT X.K tg) tYes (tMI X.K B H0 (evI C it1)) (gT X.K tg1) tt (tM X.K B H0 (evE C el)) ((own.map fun i => (S.N.getD i "", i)).map (·.2)) tg1.ix σ H Q := fun {tt} htt σ H Q w => by
        rw [blk_own]
        have w' : tM X.K B H0 (fun ρ => evE C (.lc2 it tg it1 tg1 k el own) ρ) σ H Q := w
        unfold evE at w'
        exact lc2_ok (mem_all h5) (fun i hi => hi) htt (fun σ H Q z => tMD_of z) w'
      have pI := sndI (n := n) (C := C) (B := B) (H0 := H0) it c h2
      have hv : ∀ i ∈ tg1.ix, i ∈ (own.map fun i => (S.N.getD i "", i)).map (·.2) := by rw [blk_own]; exact mem_all i5
      have pG : ∀ (s : Shared) (H : Hp) (Ca : Addr) (cl : List (Str × Addr)) (fp : List Addr), PG (X.blk s H scope (compEnvC scope cl Ca X.env) fp) tg' (gT X.K tg) := fun s H Ca cl fp => pg_ok (c.blk scope s H Ca cl fp) tg tg' h4
      have pI1 : ∀ (s : Shared) (H : Hp) (Ca : Addr) (cl : List (Str × Addr)) (fp : List Addr), PI (X.blk s H scope (compEnvC scope cl Ca X.env) fp) tg1' it1' (tMI X.K B H0 (evI C it1)) := fun s H Ca cl fp => sndI (n := n) (C := C) (B := B) (H0 := H0) (X := X.blk s H scope (compEnvC scope cl Ca X.env) fp) it1 (c.blk scope s H Ca cl fp) i2
      have pG1 : ∀ (s : Shared) (H : Hp) (Ca : Addr) (cl : List (Str × Addr)) (fp : List Addr), PG (X.blk s H scope (compEnvC scope cl Ca X.env) fp) tg1' (gT X.K tg1) := fun s H Ca cl fp => pg_ok (c.blk scope s H Ca cl fp) tg1 tg1' i4
      have pE : ∀ (s : Shared) (H : Hp) (Ca : Addr) (cl : List (Str × Addr)) (fp : List Addr), PE (X.blk s H scope (compEnvC scope cl Ca X.env) fp) elt (tM X.K B H0 (evE C el)) := fun s H Ca cl fp => (sndE (n := n) (C := C) (B := B) (H0 := H0) (X := X.blk s H scope (compEnvC scope cl Ca X.env) fp) el (c.blk scope s H Ca cl fp) h6).pe
      split at h7
      · refine ⟨tg', it', tg1', it1', _, _, tg1.ix, _, _, _, _, tYes, _, rfl, pI, ok, hv, pG, pI1, pG1, fun _ _ _ _ _ => pts_nil, pE, set_ok h1, fun env x => set_ok (env := env) h1' x, fin fun σ H Q ⟨G, ρ, t, ρ', s, e, q⟩ => ?_⟩
        rw [h7] at e
        cases e
        exact q G H (EI.refl s)
      · refine ⟨tg', it', tg1', it1', _, _, tg1.ix, _, _, _, _, (tMB X.K B H0 fun ρ => asB (evE C k ρ)), _, rfl, pI, ok, hv, pG, pI1, pG1, fun s H Ca cl fp => pts_one (show PT (X.blk s H scope (compEnvC scope cl Ca X.env) fp) _ (tMB X.K B H0 fun ρ => asB (evE C k ρ)) from (sndE (n := n) (C := C) (B := B) (H0 := H0) (X := X.blk s H scope (compEnvC scope cl Ca X.env) fp) k (c.blk scope s H Ca cl fp) h7).pt), pE, set_ok h1, fun env x => set_ok (env := env) h1' x, fin fun σ H Q w => ?_⟩
        rw [okE_nop h7] at w
        exact w
      · cases h7
    · cases h
  | .frz a, t, h => by
    unfold okE at h
    simp only [Bool.and_eq_true] at h
    obtain ⟨tg, iter, tg1, iter1, ifs, own, vs1, wi, wi1, g, g1, tt, te, h1, h2, h3, h4, h5, h6, h7, h8, h9, h10, h11, h12⟩ := lc2_parts c (e := a) t h.2
    exact ⟨tg, iter, tg1, iter1, ifs, own, vs1, wi, wi1, g, g1, tt, te, h1, h2, h3, h4, h5, h6, h7, h8, h9, h10, h11, fun σ H Q w => h12 σ H Q (frzL_ok (lcT h.2) (by have w' : tM X.K B H0 (fun ρ => evE C _ ρ) σ H Q := w; unfold evE at w'; exact w'))⟩
  | .var _, t, _ => by cases t
  | .non, t, _ => by cases t
  | .bl _, t, _ => by cases t
  | .int _, t, _ => by cases t
  | .str _, t, _ => by cases t
  | .glo _, t, _ => by cases t
  | .bin _ _ _, t, _ => by cases t
  | .neg _, t, _ => by cases t
  | .cmp _ _ _, t, _ => by cases t
  | .chn _ _ _ _ _, t, _ => by cases t
  | .and_ _ _, t, _ => by cases t
  | .or_ _ _, t, _ => by cases t
  | .one _, t, _ => by cases t
  | .not_ _, t, _ => by cases t
  | .ife _ _ _, t, _ => by cases t
  | .ix _ _, t, _ => by cases t
  | .kix _ _, t, _ => by cases t
  | .slc _ _ _, t, _ => by cases t
  | .nop, t, _ => by cases t
  | .tup _, t, _ => by cases t
  | .lst _, t, _ => by cases t
  | .call _ _, t, _ => by cases t
  | .blt _ _, t, _ => by cases t
  | .isi _ _, t, _ => by cases t
  | .rngs _ _, t, _ => by cases t
  | .lrev _, t, _ => by cases t
  | .mth _ _ _, t, _ => by cases t
  | .bm _ _ _, t, _ => by cases t
  | .dnew, t, _ => by cases t
  | .dsp _ _, t, _ => by cases t
  | .dget _ _, t, _ => by cases t
  | .srtk _ _, t, _ => by cases t
  | .mcl _ _ _, t, _ => by cases t
  | .obc _ _ _ _, t, _ => by cases t
  | .lc _ _ _ _ _, t, _ => by cases t
theorem swst {X : Cx} {x y : Str} {px py pt pt2 : Pos} {p q : Expr} {kt k2} (hk : X.env.scope.kind = .function) (l1 : X.env.scope.names.lookup x = some .local) (l2 : X.env.scope.names.lookup y = some .local) (hxy : x ≠ y) (hl : px.line = py.line)
    (hp : plainE p = true) (hq : plainE q = true) (h9 : (foldedForSure 8 p && foldedForSure 8 q) = false) (h10 : (constantsAlone 8 p && constantsAlone 8 q) = false) :
    swappedStores [.Tuple [.Name x px, .Name y py] kt pt] (.Tuple [p, q] k2 pt2) X.env = pure (some [x, y]) := by
  have k1 : X.env.kindOf x = some NameKind.local := l1
  have k2' : X.env.kindOf y = some NameKind.local := l2
  have ps : ∀ v z, p ≠ .Starred v z := fun v z e => by subst e; cases hp
  have qs : ∀ v z, q ≠ .Starred v z := fun v z e => by subst e; cases hq
  have bk : X.env.blockKind = .function := by unfold Env.blockKind; rw [hk]; rfl
  have ed : [x, y].eraseDups = [x, y] := by
    have : (y == x) = false := by simpa using fun z => hxy z.symm
    simp [List.eraseDups_cons, this]
  have h9' : [p, q].all (foldedForSure 8) = false := by simpa using h9
  have h10' : [p, q].all (constantsAlone 8) = false := by simpa using h10
  unfold swappedStores
  dsimp only
  rw [h9', h10']
  rw [if_neg (by simp [bk])]
  have st : ∀ f : Expr → Bool, (∀ e, (∀ v z, e ≠ .Starred v z) → f e = false) → [p, q].any f = false := fun f hf => by
    simp [hf p ps, hf q qs]
  rw [st _ (fun e he => by cases e <;> first | rfl | exact absurd rfl (he _ _))]
  simp [k1, k2', hl, ed, Expr.pos]
theorem sw_none {X : Cx} {ts : List Expr} {kt pt} {v : Expr} (h : notLoc X.env.scope ts = true) : swappedStores [.Tuple ts kt pt] v X.env = pure none := by
  unfold notLoc at h
  obtain ⟨t, ht, hn⟩ := List.any_eq_true.mp h
  unfold swappedStores
  cases v <;> first | rfl | skip
  rename_i vs k2 p2
  dsimp only
  split
  · rfl
  · split
    · rfl
    · rw [if_pos]
      rw [Bool.or_eq_true]
      left
      have fl : ∀ f : Expr → Option Str, f t = none → ((ts.filterMap f).length != ts.length) = true := fun f hf => by
        have lt : (ts.filterMap f).length < ts.length := List.length_filterMap_lt_length_iff_exists.mpr ⟨t, ht, hf⟩
        simpa using Nat.ne_of_lt lt
      exact fl _ (by
        cases t <;> first | rfl | skip
        rename_i x px
        have hb : (X.env.kindOf x == some NameKind.local) = false := by
          have hn' : (!(X.env.scope.names.lookup x == some NameKind.local)) = true := hn
          show (X.env.scope.names.lookup x == some NameKind.local) = false
          simpa using hn'
        simp [hb])
mutual
theorem sndS (a : IS) : ∀ {S : Sx} {X : Cx} {st : Stmt}, S.sc.kind = .function → CxOk n C B S X → okS S a st = true → PS X st (tS X.K B H0 (exS C a)) := by
  intro S X st kf c h
  have nev : PassesOwn (model X.prog X.w) X.A X.env X.xe := by rw [c.xe]; exact PassesOwn.never
  cases a with
  | asg i e =>
    unfold okS at h
    split at h
    · rename_i x py v pos
      simp only [Bool.and_eq_true, decide_eq_true_eq] at h
      obtain ⟨⟨⟨h1, h2⟩, h3⟩, h4⟩ := h
      obtain ⟨l1, l2⟩ := c.loc_of h2
      have pe := (sndE (n := n) (C := C) (B := B) (H0 := H0) e c h3).pe
      have fin : PS X (.Assign [.Name x py] v pos) (tAsg (tM X.K B H0 (evE C e)) (gName i)) → PS X (.Assign [.Name x py] v pos) (tS X.K B H0 (exS C (.asg i e))) := fun p => PS.imp p fun D σ H w => asg_ok (by have w' : tS X.K B H0 (fun ρ => exS C (.asg i e) ρ) D σ H := w; unfold exS at w'; exact w')
      have nd : X.N.Nodup := by rw [c.N]; exact c.nd
      have ix : X.N[i]? = some x := by rw [c.N]; exact h1
      split at h4
      · rename_i el gs scope cp
        split at h4
        · rename_i hloc
          simp only [Bool.and_eq_true, Bool.not_eq_true'] at h4
          have hk : X.env.scope.names.lookup x = some .local := by rw [c.sc]; exact hloc
          cases tw : e.two with
          | false =>
            obtain ⟨tg, iter, ifs, own, wi, g, tt, te, rfl, pI, ok, pG, pT, pE, pS, im⟩ := lc_parts (n := n) (C := C) (B := B) (H0 := H0) c tw h3
            refine PS.imp (ps_setLc c.calm nd ix hk (sw_true (by rw [c.sc]; exact kf) hk h4.1 h4.2) pI ok pG pT pE pS) fun D σ H w => ?_
            have w' : tS X.K B H0 (fun ρ => exS C (.asg i e) ρ) D σ H := w
            unfold exS at w'
            exact im σ H _ (asg_ok w')
          | true =>
            obtain ⟨tg, iter, tg1, iter1, ifs, own, vs1, wi, wi1, g, g1, tt, te, rfl, pI, ok, hv, pG, pI1, pG1, pT, pE, pS, pS1, im⟩ := lc2_parts (n := n) (C := C) (B := B) (H0 := H0) c tw h3
            refine PS.imp (ps_setLc2 c.calm nd ix hk (sw_true (by rw [c.sc]; exact kf) hk h4.1 h4.2) pI ok hv pG (fun _ _ _ _ _ => pts_nil) pI1 pG1 pT pE pS pS1) fun D σ H w => ?_
            have w' : tS X.K B H0 (fun ρ => exS C (.asg i e) ρ) D σ H := w
            unfold exS at w'
            exact im σ H _ (asg_ok w')
        · rename_i hloc
          refine fin (ps_set nd ix l1 pe ?_ l2)
          have hk : ¬ X.env.kindOf x = some .local := fun z => by
            have z' : X.env.scope.names.lookup x = some .local := z
            rw [c.sc] at z'
            exact hloc z'
          have hb : (X.env.kindOf x == some NameKind.local) = false := by
            cases q : (X.env.kindOf x == some NameKind.local) with
            | false => rfl
            | true => exact absurd (eq_of_beq q) hk
          unfold swapsWith
          simp [hb]
      · rename_i hv
        have hc : compE v = false := by
          cases v <;> first | rfl | (simp at h4; done) | (simpa using h4) | exact absurd rfl (hv _ _ _ _)
        exact fin (ps_set nd ix l1 pe (swap_ok hc _ _) l2)
    · cases h
  | asgT t e =>
    unfold okS at h
    split at h
    · rename_i es k p v pos
      simp only [Bool.and_eq_true, Bool.not_eq_true'] at h
      obtain ⟨⟨⟨h1, h2⟩, h3⟩, h4⟩ := h
      have pe := (sndE (n := n) (C := C) (B := B) (H0 := H0) e c h2).pe
      refine PS.imp (ps_asg pe (pg_ok c t _ h1) (by unfold swapsWithSole; exact swap_ok h3 _ _) ?_ rfl) fun D σ H w => asgT_ok (by have w' : tS X.K B H0 (fun ρ => exS C (.asgT t e) ρ) D σ H := w; unfold exS at w'; exact w')
      rw [Bool.or_eq_true] at h4
      rcases h4 with h4 | h4
      · cases v <;> first | rfl | (simp [isTupE] at h4; done)
      · exact sw_none (by rw [c.sc]; exact h4)
    · cases h
  | set2 o1 i1 o2 i2 e =>
    unfold okS at h
    split at h
    · rename_i y1 k1 q1 y2 k2 q2 kt p v pos
      simp only [Bool.and_eq_true, Bool.not_eq_true'] at h
      obtain ⟨⟨⟨⟨⟨h1, h2⟩, h3⟩, h4⟩, h5⟩, h6⟩ := h
      have p1 := (sndE (n := n) (C := C) (B := B) (H0 := H0) o1 c h1).pe
      have p2 := (sndE (n := n) (C := C) (B := B) (H0 := H0) i1 c h2).pe
      have p3 := (sndE (n := n) (C := C) (B := B) (H0 := H0) o2 c h3).pe
      have p4 := (sndE (n := n) (C := C) (B := B) (H0 := H0) i2 c h4).pe
      have p5 := (sndE (n := n) (C := C) (B := B) (H0 := H0) e c h5).pe
      refine PS.imp (ps_asg p5 (pg_tup c.calm (pgs_cons (pg_sub p1 p2 (set_x (by have := c.room.un; omega)) (sub_ok (okE_plain i1 _ h2))) (pgs_cons (pg_sub p3 p4 (set_x (by have := c.room.un; omega)) (sub_ok (okE_plain i2 _ h4))) pgs_nil rfl) rfl) rfl rfl) (by unfold swapsWithSole; exact swap_ok h6 _ _) (sw_none rfl) rfl) fun D σ H w => set2_ok (by have w' : tS X.K B H0 (fun ρ => exS C (.set2 o1 i1 o2 i2 e) ρ) D σ H := w; unfold exS at w'; exact w')
    · cases h
  | par i j a b =>
    unfold okS at h
    split at h
    · rename_i x px y py kt pt p q k2 pt2 pos
      simp only [Bool.and_eq_true, Bool.not_eq_true', decide_eq_true_eq] at h
      obtain ⟨⟨⟨⟨⟨⟨⟨⟨⟨h1, h2⟩, h3⟩, h4⟩, h5⟩, h6⟩, h7⟩, h8⟩, h9⟩, h10⟩ := h
      have hij : i ≠ j := fun z => by subst z; simp at h3
      have nd : X.N.Nodup := by rw [c.N]; exact c.nd
      have i1 : X.N[i]? = some x := by rw [c.N]; exact h1
      have i2 : X.N[j]? = some y := by rw [c.N]; exact h2
      have l1 : X.env.scope.names.lookup x = some .local := by rw [c.sc]; exact h4
      have l2 : X.env.scope.names.lookup y = some .local := by rw [c.sc]; exact h5
      have hxy : x ≠ y := fun z => by
        subst z
        obtain ⟨a1, a2⟩ := List.getElem?_eq_some_iff.mp i1
        obtain ⟨b1, b2⟩ := List.getElem?_eq_some_iff.mp i2
        exact hij ((List.getElem_inj nd).mp (a2.trans b2.symm))
      have pa : PA X [p, q] (tCons (tM X.K B H0 (evE C a)) (tCons (tM X.K B H0 (evE C b)) tNil)) := pa_cons (sndE (n := n) (C := C) (B := B) (H0 := H0) a c h6).pe (pa_cons (sndE (n := n) (C := C) (B := B) (H0 := H0) b c h7).pe pa_nil (star_ok (okE_plain b _ h7))) (star_ok (okE_plain a _ h6))
      refine PS.imp (ps_par c.calm nd i1 i2 hij l1 l2 pa (swst ?_ l1 l2 hxy (eq_of_beq h8) (okE_plain a _ h6) (okE_plain b _ h7) h9 h10) ?_) fun D σ H w => par_ok hij (by have w' : tS X.K B H0 (fun ρ => exS C (.par i j a b) ρ) D σ H := w; unfold exS at w'; exact w')
      · show X.env.scope.kind = .function
        rw [c.sc]; exact kf
      · unfold swapsWithSole; exact swap_ok rfl _ _
    · cases h
  | aug i op e =>
    unfold okS at h
    split at h
    · rename_i x p o v pos
      simp only [Bool.and_eq_true, Bool.or_eq_true, decide_eq_true_eq] at h
      obtain ⟨⟨⟨⟨h1, h2⟩, rfl⟩, h4⟩, h5⟩ := h
      obtain ⟨l1, l2⟩ := c.loc_of h2
      have pe := (sndE (n := n) (C := C) (B := B) (H0 := H0) e c h5).pe
      have rd : ∀ D σ H, tS X.K B H0 (exS C (.aug i op e)) D σ H → tS X.K B H0 (fun ρ => (asD (evE C e ρ)).bind fun r => ((ρ[i]?).bind fun s => augF op s r.1).bind fun z => (bindT (.nm i) z r.2).map fun ρ2 => (.nx, ρ2)) D σ H := fun D σ H w => by
        have w' : tS X.K B H0 (fun ρ => exS C (.aug i op e) ρ) D σ H := w
        unfold exS at w'
        exact w'
      rcases h4 with rfl | rfl
      · exact PS.imp (ps_aug (by rw [c.N]; exact c.nd) (by rw [c.N]; exact h1) l1 pe ip_add l2) fun D σ H w => aug_ok (.inl ⟨rfl, rfl⟩) (rd D σ H w)
      · exact PS.imp (ps_aug (by rw [c.N]; exact c.nd) (by rw [c.N]; exact h1) l1 pe ip_sub l2) fun D σ H w => aug_ok (.inr ⟨rfl, rfl⟩) (rd D σ H w)
    · cases h
  | setI o i e =>
    unfold okS at h
    split at h
    · rename_i y k q v pos
      simp only [Bool.and_eq_true, Bool.not_eq_true'] at h
      obtain ⟨⟨⟨h1, h2⟩, h3⟩, h4⟩ := h
      have p1 := (sndE (n := n) (C := C) (B := B) (H0 := H0) o c h1).pe
      have p2 := (sndE (n := n) (C := C) (B := B) (H0 := H0) i c h2).pe
      have p3 := (sndE (n := n) (C := C) (B := B) (H0 := H0) e c h3).pe
      refine PS.imp (ps_asg p3 (pg_sub p1 p2 (set_x (by have := c.room.un; omega)) (sub_ok (okE_plain i _ h2))) (by unfold swapsWithSole; exact swap_ok h4 _ _) rfl rfl) fun D σ H w => setI_ok (by have w' : tS X.K B H0 (fun ρ => exS C (.setI o i e) ρ) D σ H := w; unfold exS at w'; exact w')
    · cases h
  | ex e =>
    unfold okS at h
    split at h
    · simp only [Bool.and_eq_true, Bool.not_eq_true'] at h
      exact PS.imp (ps_expr (sndE (n := n) (C := C) (B := B) (H0 := H0) e c h.1).pe (swap_ok h.2 _ _)) fun D σ H w => drop_ok (by have w' : tS X.K B H0 (fun ρ => exS C (.ex e) ρ) D σ H := w; unfold exS at w'; exact w')
    · cases h
  | if_ k a b =>
    unfold okS at h
    split at h
    · simp only [Bool.and_eq_true] at h
      exact PS.imp (ps_if (sndE (n := n) (C := C) (B := B) (H0 := H0) k c h.1.1).pt (sndSs a kf c h.1.2) (sndSs b kf c h.2)) fun D σ H w => ifS_ok (by have w' : tS X.K B H0 (fun ρ => exS C (.if_ k a b) ρ) D σ H := w; unfold exS at w'; exact w')
    · cases h
  | for_ t it body =>
    unfold okS at h
    split at h
    · simp only [Bool.and_eq_true] at h
      obtain ⟨⟨⟨h1, h2⟩, h3⟩, h4⟩ := h
      exact PS.imp (ps_for nev c.calm (sndI (n := n) (C := C) (B := B) (H0 := H0) it c h2) (pg_ok c t _ h1) (sndSs body kf c h4) (set_ok h3)) fun D σ H w => for_ok (by have w' : tS X.K B H0 (fun ρ => exS C (.for_ t it body) ρ) D σ H := w; unfold exS at w'; exact w')
    · cases h
  | whl k body =>
    unfold okS at h
    split at h
    · simp only [Bool.and_eq_true] at h
      exact PS.imp (ps_while nev (sndE (n := n) (C := C) (B := B) (H0 := H0) k c h.1).pt (sndSs body kf c h.2)) fun D σ H w => whl_ok (by have w' : tS X.K B H0 (fun ρ => exS C (.whl k body) ρ) D σ H := w; unfold exS at w'; exact w')
    · cases h
  | ret e =>
    unfold okS at h
    split at h
    · exact PS.imp (ps_ret (sndE (n := n) (C := C) (B := B) (H0 := H0) e c h).pe) fun D σ H w => ret_ok (by have w' : tS X.K B H0 (fun ρ => exS C (.ret e) ρ) D σ H := w; unfold exS at w'; exact w')
    · cases h
  | retN =>
    unfold okS at h
    split at h
    · exact PS.imp ps_retN fun D σ H ⟨G, ρ, fl, ρ', s, e, q⟩ => by
        cases e
        exact q σ G H (SI.refl s) .non .non
    · cases h
  | brk =>
    unfold okS at h
    split at h
    · exact PS.imp ps_break fun D σ H ⟨G, ρ, fl, ρ', s, e, q⟩ => by
        cases e
        exact q σ G H (SI.refl s)
    · cases h
  | cnt =>
    unfold okS at h
    split at h
    · exact PS.imp ps_continue fun D σ H ⟨G, ρ, fl, ρ', s, e, q⟩ => by
        cases e
        exact q σ G H (SI.refl s)
    · cases h
  | pass =>
    unfold okS at h
    split at h
    · exact PS.imp ps_pass fun D σ H ⟨G, ρ, fl, ρ', s, e, q⟩ => by
        cases e
        exact q σ G H (SI.refl s)
    · unfold isDoc at h
      split at h
      · exact PS.imp ps_doc fun D σ H ⟨G, ρ, fl, ρ', s, e, q⟩ => by
          cases e
          exact q σ G H (SI.refl s)
      · cases h
  | nvr => exact PS.imp ps_never nvr_ok
theorem sndSs (a : ISs) : ∀ {S : Sx} {X : Cx} {sts : List Stmt}, S.sc.kind = .function → CxOk n C B S X → okSs S a sts = true → PSs X sts (tS X.K B H0 (exSs C a)) := by
  intro S X sts kf c h
  cases a with
  | nil =>
    unfold okSs at h
    cases sts with
    | nil => exact PSs.imp pss_nil nilS_ok
    | cons => cases h
  | cons s r =>
    unfold okSs at h
    cases sts with
    | nil => cases h
    | cons st sts =>
      simp only [Bool.and_eq_true] at h
      exact PSs.imp (pss_cons (sndS s kf c h.1) (sndSs r kf c h.2)) fun D σ H w => seqS_ok (by have w' : tS X.K B H0 (fun ρ => exSs C (.cons s r) ρ) D σ H := w; unfold exSs at w'; exact w')
end
end
end Fw

set_option maxHeartbeats 8000000
/-! Fw15: all defs by depth, from the checked table; a law's end. -/
namespace Fw
open PySem PySem.Spec PyProof.Rows L2

/-- a def: its form, its text; a method: its class -/
structure Df where
  fd : Fd
  pa : Arguments
  bo : List Stmt
  sc : Scope
  nm : Str
  me : Option ClD
/-- a class: what is known of it, the text of __init__ -/
structure Cl where
  cd : ClD
  pa : Arguments
  bo : List Stmt
  sc : Scope
  ps : List Str
  qn : Str
def Df.rp (d : Df) : List Str := d.fd.ps.take (d.fd.ps.length - d.fd.gh.length)
def tabOf (ds : List Df) : List Fd := ds.map (·.fd)
def fnsOf (ds : List Df) (f : Str) : Option Nat := (ds.find? fun d => d.fd.name == f && d.me.isNone).map (·.fd.ps.length)
def clsOf (cs : List Cl) (x : Str) : Option ClD := (cs.find? fun c => c.cd.name == x).map (·.cd)
def sxOf (ds : List Df) (cs : List Cl) (d : Df) : Sx := { N := d.fd.N, sc := d.sc, fn := fun _ => true, fns := fnsOf ds, gl := fun _ => true, me := d.me, gi := d.rp.length, cl := clsOf cs }
def scB (N P : List Str) (sc : Scope) : Bool :=
  decide (sc.kind = .function) && !sc.isCoroutine && !sc.isGenerator && decide N.Nodup && decide (N.take P.length = P) && P.all (fun x => decide (sc.names.lookup x = some .local) || decide (sc.names.lookup x = some .cell)) && sc.names.all (fun y => !decide (y.2 = .free))
/-- what stands behind the parameters -/
def okG (cs : List Cl) (d : Df) : Bool := match d.me with
  | none => d.fd.gh.isEmpty
  | some cd => decide (d.fd.gh = cd.gh) && !cd.gh.isEmpty && (cs.any fun c => decide (c.cd = cd)) && decide (d.fd.ps.length = d.rp.length + cd.gh.length) && decide (0 < d.rp.length) && decide (d.fd.N.take d.fd.ps.length = d.fd.ps) && (d.fd.ps.drop d.rp.length).all (fun x => !isVis d.sc x)
def okD (ds : List Df) (cs : List Cl) (d : Df) : Bool := scB d.fd.N d.rp d.sc && okG cs d && okSs (sxOf ds cs d) d.fd.body d.bo
/-- a class's methods are in the table -/
def okM (ds : List Df) (cd : ClD) : Bool := decide (cd.gh.length = cd.ini.length) && decide cd.gh.Nodup && cd.meth.all fun q => !(cd.gh.contains q.1) && ds.any fun d => decide (d.fd.name = q.2.1) && decide (d.nm = q.1) && decide (d.me = some cd) && decide (d.rp.length = q.2.2 + 1)
/-- __init__ writes the fields -/
def okIni (S : Sx) : List (Str × FI) → List Stmt → Bool
  | [], sts => sts.isEmpty
  | (f, .arg k) :: r, sts => (match sts with
    | .Assign [.Attribute (.Name s _) g _] (.Name x _) _ :: sts => decide (f = g) && okVar S 0 s && okVar S (k + 1) x && okIni S r sts
    | _ => false)
  | (f, .dict) :: r, sts => (match sts with
    | .Assign [.Attribute (.Name s _) g _] (.Dict [] [] _) _ :: sts => decide (f = g) && okVar S 0 s && okIni S r sts
    | _ => false)
def sxI (c : Cl) : Sx := { N := c.ps, sc := c.sc, fn := fun _ => true, fns := fun _ => none, gl := fun _ => true }
def okC (ds : List Df) (c : Cl) : Bool := okM ds c.cd && scB c.ps c.ps c.sc && decide (c.ps.length = c.cd.na + 1) && decide (c.cd.gh.length < 100) && okIni (sxI c) (c.cd.gh.zip c.cd.ini) c.bo
def BindD (d : Df) : Prop := ∀ (kV doc pm : Value) (an : Option Addr) (cdv ct : Value) (us : List Value), us.length = d.rp.length → bindArgs (PySem.W.fnOf d.nm d.fd.name d.pa d.bo d.sc .none kV doc pm an cdv ct) ⟨us, []⟩ = pure (d.rp.zip us)
def BindC (c : Cl) : Prop := ∀ (kV doc pm : Value) (an : Option Addr) (cdv ct : Value) (us : List Value), us.length = c.ps.length → bindArgs (PySem.W.fnOf "__init__" c.qn c.pa c.bo c.sc .none kV doc pm an cdv ct) ⟨us, []⟩ = pure (c.ps.zip us)
structure TabOk (ds : List Df) (cs : List Cl) : Prop where
  nd : ((tabOf ds).map (·.name)).Nodup
  ok : ∀ d ∈ ds, okD ds cs d = true
  bi : ∀ d ∈ ds, BindD d
  co : ∀ c ∈ cs, okC ds c = true
  cb : ∀ c ∈ cs, BindC c
/-- what the module knows of a class -/
structure ClM (K : PySem.W.Frag) (mg : Str → Option Value) (ds : List Df) (c : Cl) (Ca : Addr) : Prop where
  mg : mg c.cd.name = some (.ref Ca)
  cls : Cls K Ca
  no : ∀ f ∈ c.cd.gh, NoAttr K Ca f
  me : ∀ d ∈ ds, d.me = some c.cd → ∃ g fdd, Meth K Ca d.nm g ∧ FunD K d.nm d.fd.name d.pa d.bo d.sc [] [] g fdd
  ini : ∃ fi fdd, Mk K Ca fi ∧ FunD K "__init__" c.qn c.pa c.bo c.sc [] [] fi fdd
structure ModOk (K : PySem.W.Frag) (w : World) (mg : Str → Option Value) (ds : List Df) (cs : List Cl) (glo : Str → Option D) (kd : Str → Option (List (Str × D))) : Prop where
  df : ∀ d ∈ ds, d.me = none → ∃ fa fdd, FunD K d.nm d.fd.name d.pa d.bo d.sc [] [] fa fdd ∧ mg d.fd.name = some (.ref fa)
  cl : ∀ c ∈ cs, ∃ Ca, ClM K mg ds c Ca
  gl : ∀ x d, glo x = some d → ∃ u v, mg x = some u ∧ RelV v u ∧ ∀ G, Rep K G v d
  kd : ∀ x kv, kd x = some kv → ∃ p, mg x = some (.ref p) ∧ ∀ z d, kv.lookup z = some d → ∃ v, KDct K w p z v ∧ ∀ G, Rep K G v d
  bl : ∀ x, bltNames.contains x = true → mg x = none

theorem scB_ok {N P : List Str} {sc : Scope} (h : scB N P sc = true) : FnScope N P sc := by
  unfold scB at h
  simp only [Bool.and_eq_true, Bool.not_eq_true', decide_eq_true_eq, List.all_eq_true, Bool.or_eq_true, decide_eq_false_iff_not] at h
  obtain ⟨⟨⟨⟨⟨⟨h1, h2⟩, h3⟩, h4⟩, h5⟩, h6⟩, h7⟩ := h
  exact ⟨h1, h2, h3, h4, h5, h6, h7⟩
theorem find_name {l : List Fd} (nd : (l.map (·.name)).Nodup) {d : Fd} (h : d ∈ l) : (l.find? fun e => e.name == d.name) = some d := by
  induction l with
  | nil => cases h
  | cons e l ih =>
    rw [List.map_cons, List.nodup_cons] at nd
    rw [List.find?_cons]
    rcases List.mem_cons.mp h with rfl | h
    · rw [beq_self_eq_true]
    · have ne : (e.name == d.name) = false := by
        cases q : (e.name == d.name) with
        | false => rfl
        | true => exact absurd (List.mem_map.mpr ⟨d, h, (eq_of_beq q).symm⟩) nd.1
      rw [ne]
      exact ih nd.2 h
theorem fns_find {ds : List Df} {f : Str} {np : Nat} (h : fnsOf ds f = some np) : ∃ d ∈ ds, d.me = none ∧ d.fd.name = f ∧ d.fd.ps.length = np := by
  obtain ⟨d, h1, h2⟩ := Option.map_eq_some_iff.mp h
  have h3 := List.mem_of_find?_eq_some h1
  have h4 := List.find?_some h1
  simp only [Bool.and_eq_true] at h4
  exact ⟨d, h3, by simpa using h4.2, eq_of_beq h4.1, h2⟩
theorem cls_find {cs : List Cl} {x : Str} {cd : ClD} (h : clsOf cs x = some cd) : ∃ c ∈ cs, c.cd = cd ∧ cd.name = x := by
  obtain ⟨c, h1, h2⟩ := Option.map_eq_some_iff.mp h
  have h3 := List.mem_of_find?_eq_some h1
  have h4 := List.find?_some h1
  subst h2
  exact ⟨c, h3, rfl, eq_of_beq h4⟩

section
variable {P : Program} {w : World} {K : PySem.W.Frag} {mg : Str → Option Value} {base : Heap} {ds : List Df} {cs : List Cl} {glo : Str → Option D} {kd : Str → Option (List (Str × D))} {wf : Nat}
def pinsOf (vs : List V) (args : List Arg) (i : Nat) : Option Addr := match args[i]?, vs[i]? with
  | some (.bo _), some (.ref a) => some a
  | _, _ => none
theorem pinsOf_some {vs : List V} {args : List Arg} {i : Nat} {a : Addr} (h : pinsOf vs args i = some a) : ∃ o, args[i]? = some (.bo o) ∧ vs[i]? = some (.ref a) := by
  unfold pinsOf at h
  split at h
  · rename_i o b e1 e2
    cases h
    exact ⟨o, e1, e2⟩
  · cases h
def fbOf (vs : List V) (args : List Arg) : Fb := ⟨pinsOf vs args, fun _ => True, fun _ h => h⟩
theorem start_get {N : List Str} {vs : List V} {i : Nat} {v : V} (h : vs[i]? = some v) : (start N vs)[i]? = some (some v) := by
  obtain ⟨hi, e⟩ := List.getElem?_eq_some_iff.mp h
  unfold L2.start
  rw [List.getElem?_append_left (by simpa using hi), List.getElem?_map, h]
  rfl
theorem slots_get {args : List Arg} {k i : Nat} {s : Sl} (h : (args.map argSl ++ List.replicate k Sl.no)[i]? = some s) : (∃ a, args[i]? = some a ∧ s = argSl a) ∨ s = .no := by
  by_cases hi : i < args.length
  · rw [List.getElem?_append_left (by simpa using hi), List.getElem?_map] at h
    obtain ⟨a, e1, e2⟩ := Option.map_eq_some_iff.mp h
    exact .inl ⟨a, e1, e2.symm⟩
  · rw [List.getElem?_append_right (by simpa using Nat.le_of_not_lt hi), List.getElem?_replicate] at h
    split at h
    · cases h; exact .inr rfl
    · cases h
theorem slots_of {args : List Arg} {k i : Nat} {a : Arg} (h : args[i]? = some a) : (args.map argSl ++ List.replicate k Sl.no)[i]? = some (argSl a) := by
  obtain ⟨hi, e⟩ := List.getElem?_eq_some_iff.mp h
  rw [List.getElem?_append_left (by simpa using hi), List.getElem?_map, h]
  rfl
theorem own_slot {vs : List V} {args : List Arg} {N : List Str} {k i : Nat} {a : Addr} (hl : vs.length = args.length) (h : OwnAt (start N vs) (args.map argSl ++ List.replicate k Sl.no) i a) : ∃ o, args[i]? = some (.bo o) ∧ vs[i]? = some (.ref a) := by
  obtain ⟨e, s, hs, ho⟩ := h
  rcases slots_get hs with ⟨x, hx, rfl⟩ | rfl
  · cases x with
    | fr d => cases ho
    | bo o =>
      refine ⟨o, hx, ?_⟩
      have hi : i < vs.length := by rw [hl]; exact (List.getElem?_eq_some_iff.mp hx).1
      have e2 := start_get (N := N) (List.getElem?_eq_getElem hi)
      rw [e] at e2
      rw [List.getElem?_eq_getElem hi]
      have := Option.some.inj (Option.some.inj e2)
      rw [← this]
  · cases ho
theorem entry_ok {G H : Hp} {vs : List V} {args : List Arg} {N : List Str} (sg : Same G H) (a : ArgsOk K G H vs args) : StRep K (fbOf vs args) H G H (start N vs) (args.map argSl ++ List.replicate (N.length - args.length) Sl.no) where
  pin := fun i a' h => by
    obtain ⟨o, e1, e2⟩ := pinsOf_some h
    exact ⟨start_get e2, _, slots_of e1, rfl⟩
  ali := fun _ z => z
  sub := sg
  len := by simp [L2.start, a.len]
  at_ := fun i s h => by
    rcases slots_get h with ⟨x, hx, rfl⟩ | rfl
    · cases x with
      | fr d => obtain ⟨v, e, r⟩ := a.fr i d hx; exact ⟨v, start_get e, r⟩
      | bo o => obtain ⟨b, e, r⟩ := a.bo i o hx; exact ⟨b, start_get e, r⟩
    · trivial
  inj := fun i j b h1 h2 => by
    obtain ⟨o, e1, e2⟩ := own_slot a.len h1
    obtain ⟨o', e3, e4⟩ := own_slot a.len h2
    exact a.inj i j o o' b e1 e3 e2 e4
  bi := True.intro
theorem end_ok {G H G' H' : Hp} {σ' : St} {ρ' : List Sl} {vs : List V} {args : List Arg} {N : List Str} {m : Nat} (a : ArgsOk K G H vs args)
    (s : SI K (fbOf vs args) H G H (start N vs) (args.map argSl ++ List.replicate (N.length - args.length) Sl.no) G' H' σ' ρ') : CallPost K G H vs args G' H' (ρ'.take m) where
  same := s.st.same
  sub := s.s1.sub
  keep := fun b o e n => s.st.keep b o e fun ⟨i, q⟩ => by
    obtain ⟨o', e1, e2⟩ := own_slot a.len q
    exact n ⟨i, o', e1, e2⟩
  alive := s.st.alive
  bs := fun i o b sl e1 e2 e3 => by
    have hp : pinsOf vs args i = some b := by unfold pinsOf; rw [e1, e2]
    obtain ⟨q1, s2, q2, q3⟩ := s.s1.pin i b hp
    have e4 : ρ'[i]? = some sl := by
      rw [List.getElem?_take] at e3
      split at e3
      · exact e3
      · cases e3
    rw [e4] at q2
    cases q2
    have q4 := s.s1.at_ i sl e4
    cases sl with
    | bor o' =>
      obtain ⟨b', z1, z2⟩ := q4
      rw [q1] at z1; cases z1
      exact .inl ⟨o', rfl, z2⟩
    | fz d =>
      obtain ⟨v, z1, z2⟩ := q4
      rw [q1] at z1; cases z1
      exact .inr ⟨d, rfl, z2⟩
    | no => cases q3
    | d d => cases q3
    | own o => cases q3

/-- a method's fixed slots -/
def pinsM (vs : List V) (args : List Arg) (i : Nat) : Option Addr := match args[i]?, vs[i]? with
  | some _, some (.ref a) => some a
  | _, _ => none
theorem pinsM_some {vs : List V} {args : List Arg} {i : Nat} {a : Addr} (h : pinsM vs args i = some a) : (∃ x, args[i]? = some x) ∧ vs[i]? = some (.ref a) := by
  unfold pinsM at h
  split at h
  · rename_i o b e1 e2
    cases h
    exact ⟨⟨_, e1⟩, e2⟩
  · cases h
def fbM (vs : List V) (args : List Arg) (p : Addr) (o : HO) : Fb := ⟨pinsM vs args, fun G => G p = some o, fun e h => e _ _ h⟩
theorem slotsM_get {args : List Arg} {k i : Nat} {s : Sl} (h : (args.map argFz ++ List.replicate k Sl.no)[i]? = some s) : (∃ a, args[i]? = some a ∧ s = argFz a) ∨ s = .no := by
  by_cases hi : i < args.length
  · rw [List.getElem?_append_left (by simpa using hi), List.getElem?_map] at h
    obtain ⟨a, e1, e2⟩ := Option.map_eq_some_iff.mp h
    exact .inl ⟨a, e1, e2.symm⟩
  · rw [List.getElem?_append_right (by simpa using Nat.le_of_not_lt hi), List.getElem?_replicate] at h
    split at h
    · cases h; exact .inr rfl
    · cases h
theorem slotsM_of {args : List Arg} {k i : Nat} {a : Arg} (h : args[i]? = some a) : (args.map argFz ++ List.replicate k Sl.no)[i]? = some (argFz a) := by
  obtain ⟨hi, e⟩ := List.getElem?_eq_some_iff.mp h
  rw [List.getElem?_append_left (by simpa using hi), List.getElem?_map, h]
  rfl
theorem ownM_slot {vs : List V} {args : List Arg} {N : List Str} {k i : Nat} {a : Addr} (hl : vs.length = args.length) (h : OwnAt (start N vs) (args.map argFz ++ List.replicate k Sl.no) i a) : ∃ o, args[i]? = some (.bo o) ∧ vs[i]? = some (.ref a) := by
  obtain ⟨e, s, hs, ho⟩ := h
  rcases slotsM_get hs with ⟨x, hx, rfl⟩ | rfl
  · cases x with
    | fr d => cases ho
    | bo o =>
      refine ⟨o, hx, ?_⟩
      have hi : i < vs.length := by rw [hl]; exact (List.getElem?_eq_some_iff.mp hx).1
      have e2 := start_get (N := N) (List.getElem?_eq_getElem hi)
      rw [e] at e2
      rw [List.getElem?_eq_getElem hi]
      have := Option.some.inj (Option.some.inj e2)
      rw [← this]
  · cases ho
theorem entryM_ok {G H : Hp} {vs : List V} {args : List Arg} {N : List Str} {p : Addr} {o : HO} (sg : Same G H) (a : ArgsOk K G H vs args) (hp : G p = some o) : StRep K (fbM vs args p o) H G H (start N vs) (args.map argFz ++ List.replicate (N.length - args.length) Sl.no) where
  pin := fun i a' h => by
    obtain ⟨⟨x, e1⟩, e2⟩ := pinsM_some h
    exact ⟨start_get e2, _, slotsM_of e1, by cases x <;> rfl⟩
  ali := fun _ z => z
  sub := sg
  len := by simp [L2.start, a.len]
  at_ := fun i s h => by
    rcases slotsM_get h with ⟨x, hx, rfl⟩ | rfl
    · cases x with
      | fr d => obtain ⟨v, e, r⟩ := a.fr i d hx; exact ⟨v, start_get e, r⟩
      | bo o => obtain ⟨b, e, r⟩ := a.bo i o hx; exact ⟨b, start_get e, r⟩
    · trivial
  inj := fun i j b h1 h2 => by
    obtain ⟨o, e1, e2⟩ := ownM_slot a.len h1
    obtain ⟨o', e3, e4⟩ := ownM_slot a.len h2
    exact a.inj i j o o' b e1 e3 e2 e4
  bi := hp
theorem endM_ok {G H G' H' : Hp} {σ' : St} {ρ' : List Sl} {vs : List V} {args : List Arg} {N : List Str} {m : Nat} {p : Addr} {o : HO} (a : ArgsOk K G H vs args)
    (s : SI K (fbM vs args p o) H G H (start N vs) (args.map argFz ++ List.replicate (N.length - args.length) Sl.no) G' H' σ' ρ') : CallPost K G H vs args G' H' (ρ'.take m) where
  same := s.st.same
  sub := s.s1.sub
  keep := fun b o e n => s.st.keep b o e fun ⟨i, q⟩ => by
    obtain ⟨o', e1, e2⟩ := ownM_slot a.len q
    exact n ⟨i, o', e1, e2⟩
  alive := s.st.alive
  bs := fun i o b sl e1 e2 e3 => by
    have hp : pinsM vs args i = some b := by unfold pinsM; rw [e1, e2]
    obtain ⟨q1, s2, q2, q3⟩ := s.s1.pin i b hp
    have e4 : ρ'[i]? = some sl := by
      rw [List.getElem?_take] at e3
      split at e3
      · exact e3
      · cases e3
    rw [e4] at q2
    cases q2
    have q4 := s.s1.at_ i sl e4
    cases sl with
    | bor o' =>
      obtain ⟨b', z1, z2⟩ := q4
      rw [q1] at z1; cases z1
      exact .inl ⟨o', rfl, z2⟩
    | fz d =>
      obtain ⟨v, z1, z2⟩ := q4
      rw [q1] at z1; cases z1
      exact .inr ⟨d, rfl, z2⟩
    | no => cases q3
    | d d => cases q3
    | own o => cases q3
/-- names that the frame does not see may hold anything -/
theorem Inv.ghost {X : Cx} {pins : List (Addr × Obj)} {σ σ' : St} {H : Hp} {s : Shared} (I : Inv X pins σ H s) (hl : σ'.length = σ.length) (hs : ∀ (i : Nat) (x : Str), X.N[i]? = some x → Vis X.env.scope x → σ'[i]? = σ[i]?) : Inv X pins σ' H s :=
  { I with
    loc := by
      obtain ⟨m, h1, h2⟩ := I.loc
      exact ⟨m, h1, fun i x v e1 e2 e3 => h2 i x v e1 (by rw [← hs i x e1 e3]; exact e2) e3⟩
    len := by rw [hl]; exact I.len }
theorem PSs.ghost {X : Cx} {st : List Stmt} {t : TS} (h : PSs X st t) : PSs X st fun D σ H => ∃ σ' : St, σ'.length = σ.length ∧ (∀ (i : Nat) (x : Str), X.N[i]? = some x → Vis X.env.scope x → σ'[i]? = σ[i]?) ∧ t D σ' H :=
  ⟨fun pins s σ H D I ⟨σ', h1, h2, h3⟩ => h.run pins s σ' H D (Inv.ghost I h1 h2) h3⟩
theorem isVis_of {sc : Scope} {x : Str} (h : Vis sc x) : isVis sc x = true := by
  unfold isVis
  rcases h with h | h | h <;> rw [h]
/-- what is promised of the defs with n more calls -/
structure Lv (P : Program) (w : World) (K : PySem.W.Frag) (mg : Str → Option Value) (base : Heap) (ds : List Df) (cs : List Cl) (call : CallT) (n : Nat) : Prop where
  fn : ∀ d ∈ ds, d.me = none → ∀ fa fdd, FunD K d.nm d.fd.name d.pa d.bo d.sc [] [] fa fdd → FnOk P w K mg base CX0 n fa fdd d.fd.ps (spF K call d.fd.name d.fd.ps.length)
  me : ∀ c ∈ cs, ∀ Ca, ClM K mg ds c Ca → ∀ d ∈ ds, d.me = some c.cd → ∀ fa fdd, FunD K d.nm d.fd.name d.pa d.bo d.sc [] [] fa fdd → FnOk P w K mg base CX0 n fa fdd d.rp (spM K call d.fd.name Ca c.cd.gh (d.rp.length - 1))
theorem rp_none {cs : List Cl} {d : Df} (h : okG cs d = true) (hm : d.me = none) : d.rp = d.fd.ps ∧ d.fd.gh = [] := by
  unfold okG at h
  rw [hm] at h
  have e : d.fd.gh = [] := by simpa using h
  exact ⟨by unfold Df.rp; rw [e]; simp, e⟩
/-- __init__ runs -/
theorem putF_new {f : Str} {v : V} : ∀ {fs : List (Str × V)}, f ∉ fs.map (·.1) → putF f v fs = fs ++ [(f, v)]
  | [], _ => rfl
  | (g, x) :: r, h => by
    rw [List.map_cons, List.mem_cons, not_or] at h
    unfold putF
    rw [if_neg fun z => h.1 z.symm, putF_new h.2]
    rfl
theorem ini_run {X : Cx} {S : Sx} {Ca : Addr} (hN : X.N = S.N) (hsc : X.env.scope = S.sc) (cl : Cls X.K Ca) : ∀ {r : List (Str × FI)} {sts : List Stmt}, okIni S r sts = true → (∀ f ∈ r.map (·.1), NoAttr X.K Ca f) →
    PSs X sts fun D σ H => ∃ us x dx fs, σ[0]? = some (some (.ref x)) ∧ (∀ (k : Nat) (v : V), us[k]? = some v → σ[k + 1]? = some (some v)) ∧ H x = some (.ins Ca dx fs) ∧ (fs.map (·.1) ++ r.map (·.1)).Nodup ∧ fs.length + r.length < 1000 ∧
      (∀ (k : Nat), k + 1 < S.N.length → k < us.length) ∧ ∀ fvs H', Ini us x Ca dx fs r H fvs H' → D.nx σ H'
  | [], sts, h, hno => by
    unfold okIni at h
    cases sts with
    | nil => exact PSs.imp pss_nil fun D σ H ⟨us, x, dx, fs, h1, h2, h3, h4, h5, h6, q⟩ => q _ _ .nil
    | cons => cases h
  | (f, .arg k) :: r, sts, h, hno => by
    unfold okIni at h
    split at h
    · rename_i s p1 g p2 y p3 p4 sts
      simp only [Bool.and_eq_true, decide_eq_true_eq] at h
      obtain ⟨⟨⟨rfl, h1⟩, h2⟩, h3⟩ := h
      unfold okVar at h1 h2
      simp only [Bool.and_eq_true, decide_eq_true_eq, Bool.not_eq_true'] at h1 h2
      have vis : ∀ z, isVis S.sc z = true → Vis X.env.scope z := fun z hz => by
        unfold isVis at hz
        unfold Vis
        rw [hsc]
        split at hz
        · exact .inl (by assumption)
        · exact .inr (.inl (by assumption))
        · exact .inr (.inr (by assumption))
        · cases hz
      have po : PE X (.Name s p1) (tVar 0) := pe_var (by rw [hN]; exact h1.1.1.1) (vis _ h1.1.1.2) h1.1.2 h1.2
      have pv : PE X (.Name y p3) (tVar (k + 1)) := pe_var (by rw [hN]; exact h2.1.1.1) (vis _ h2.1.1.2) h2.1.2 h2.2
      refine PSs.imp (pss_cons (ps_fld po pv (swap_ok rfl _ _)) (ini_run hN hsc cl h3 fun f' hf => hno f' (List.mem_cons_of_mem _ hf))) fun D σ H ⟨us, x, dx, fs, q1, q2, q3, q4, q5, q6, q⟩ => ?_
      have hk : k < us.length := q6 k (List.getElem?_eq_some_iff.mp h2.1.1.1).1
      have hv := List.getElem?_eq_getElem hk
      have nf : f ∉ fs.map (·.1) := fun z => (List.nodup_append.mp q4).2.2 _ z _ (List.mem_cons_self ..) rfl
      refine ⟨us[k], q2 _ _ hv, .ref x, q1, x, Ca, dx, fs, rfl, q3, cl, hno f (List.mem_cons_self ..), by rw [List.length_cons] at q5; omega, us, x, dx, fs ++ [(f, us[k])], q1, q2, ?_, by simpa using q4, by simp at q5 ⊢; omega, q6, fun fvs H' i => q fvs H' (.arg hv ?_)⟩
      · rw [upd_same, putF_new nf]
      · rw [putF_new nf] at i; exact i
    · cases h
  | (f, .dict) :: r, sts, h, hno => by
    unfold okIni at h
    split at h
    · rename_i s p1 g p2 p3 p4 sts
      simp only [Bool.and_eq_true, decide_eq_true_eq] at h
      obtain ⟨⟨rfl, h1⟩, h3⟩ := h
      unfold okVar at h1
      simp only [Bool.and_eq_true, decide_eq_true_eq, Bool.not_eq_true'] at h1
      have vis : ∀ z, isVis S.sc z = true → Vis X.env.scope z := fun z hz => by
        unfold isVis at hz
        unfold Vis
        rw [hsc]
        split at hz
        · exact .inl (by assumption)
        · exact .inr (.inl (by assumption))
        · exact .inr (.inr (by assumption))
        · cases hz
      have po : PE X (.Name s p1) (tVar 0) := pe_var (by rw [hN]; exact h1.1.1.1) (vis _ h1.1.1.2) h1.1.2 h1.2
      refine PSs.imp (pss_cons (ps_fld po pe_dnewK (swap_ok rfl _ _)) (ini_run hN hsc cl h3 fun f' hf => hno f' (List.mem_cons_of_mem _ hf))) fun D σ H ⟨us, x, dx, fs, q1, q2, q3, q4, q5, q6, q⟩ => ?_
      intro a ha
      have nx : x ≠ a := fun z => by subst z; rw [q3] at ha; cases ha
      have nf : f ∉ fs.map (·.1) := fun z => (List.nodup_append.mp q4).2.2 _ z _ (List.mem_cons_self ..) rfl
      refine ⟨.ref x, q1, x, Ca, dx, fs, rfl, by rw [upd_ne nx]; exact q3, cl, hno f (List.mem_cons_self ..), by rw [List.length_cons] at q5; omega, us, x, dx, fs ++ [(f, .ref a)], q1, q2, ?_, by simpa using q4, by simp at q5 ⊢; omega, q6, fun fvs H' i => q fvs H' (.dict ha ?_)⟩
      · rw [upd_same, putF_new nf]
      · rw [putF_new nf] at i; exact i
    · cases h
theorem init_ok {c : Cl} {Ca fi : Addr} {fdd : FuncData} (ok : okC ds c = true) (M : ClM K mg ds c Ca) (F : FunD K "__init__" c.qn c.pa c.bo c.sc [] [] fi fdd) (k : Nat) : FnOk P w K mg base CX0 (k + 1) fi fdd c.ps (spI Ca c.cd) := by
  unfold okC okM at ok
  simp only [Bool.and_eq_true, decide_eq_true_eq] at ok
  obtain ⟨⟨⟨⟨⟨⟨hl, hnd⟩, _⟩, h1⟩, h2⟩, h3⟩, h4⟩ := ok
  have S := scB_ok h1
  refine F.ok S (fun vs H Q E ⟨x, dx, us, e1, e2, _⟩ => by rw [e1, List.length_cons, e2, h2]) fun cdv A outer s H vs Q E hr ⟨x, dx, us, e1, e2, e3, q⟩ => ?_
  refine ⟨_, PSs.nox (ini_run (X := (cxOf CX0 P w K mg base c.ps c.qn c.sc fi cdv A outer s H E).nox) (S := sxI c) rfl rfl M.cls h4 fun f hf => M.no f (by rw [zip_f1 hl] at hf; exact hf)), us, x, dx, [], ?_⟩
  subst e1
  refine ⟨start_get rfl, fun k v hv => start_get (by simpa using hv), e3, by rw [zip_f1 hl]; exact hnd, by simp; omega, fun k hk => ?_, fun fvs H' i => q fvs H' i⟩
  have : k + 1 < c.ps.length := hk
  omega
/-- what a frame at depth n may use -/
theorem cx_ok (T : TabOk ds cs) (M : ModOk K w mg ds cs glo kd) {n : Nat} (L : Lv P w K mg base ds cs (callN (tabOf ds) glo wf kd n) n) (L1 : 1 ≤ n → Lv P w K mg base ds cs (callM (tabOf ds) glo wf kd n) (n - 1)) {d : Df} {X : Cx} {B : Fb}
    (hc : X.calm = true) (hr : Room n X.A) (hN : X.N = d.fd.N) (hnd : d.fd.N.Nodup) (hsc : X.env.scope = d.sc) (hfn : X.fn = fun _ => true) (hxe : X.xe = fun _ _ => False) (hP : X.prog = P) (hw : X.w = w) (hK : X.K = K) (hmg : X.mg = mg) (hb : X.base = base)
    (me : ∀ cd, d.me = some cd → ∃ c ∈ cs, c.cd = cd ∧ ∃ Ca p dx fvs, ClM K mg ds c Ca ∧ B.p 0 = some p ∧ (∀ G, B.inv G → G p = some (.ins Ca dx fvs)) ∧ fvs.map (·.1) = cd.gh ∧ ∀ (k : Nat) (q : Str × V), fvs[k]? = some q → ∃ a, q.2 = V.ref a ∧ B.p (d.rp.length + k) = some a) :
    CxOk n ⟨callN (tabOf ds) glo wf kd n, callM (tabOf ds) glo wf kd n, n, glo, wf, kd⟩ B (sxOf ds cs d) X := by
  subst hP hw hK hmg hb
  have clok : ∀ c ∈ cs, ∀ Ca, ClM X.K X.mg ds c Ca → ClsOk n (callN (tabOf ds) glo wf kd n) X c.cd Ca := fun c hc Ca CM => by
    have ok := T.co c hc
    unfold okC okM at ok
    simp only [Bool.and_eq_true, decide_eq_true_eq] at ok
    obtain ⟨⟨⟨⟨⟨⟨hl, hnd⟩, hm⟩, h1⟩, h2⟩, h3⟩, h4⟩ := ok
    refine ⟨CM.cls, CM.no, hl, fun m f np hq => ?_⟩
    have z := List.all_eq_true.mp hm _ hq
    simp only [Bool.and_eq_true, Bool.not_eq_true'] at z
    obtain ⟨z1, z2⟩ := z
    obtain ⟨d2, hd2, z3⟩ := List.any_eq_true.mp z2
    simp only [Bool.and_eq_true, decide_eq_true_eq] at z3
    obtain ⟨⟨⟨rfl, rfl⟩, z4⟩, z5⟩ := z3
    obtain ⟨g, fdd, hM, F⟩ := CM.me d2 hd2 z4
    refine ⟨by simpa using z1, g, fdd, d2.rp, hM, F.bindsN (T.bi d2 hd2), ?_⟩
    have := L.me c hc Ca CM d2 hd2 z4 g fdd F
    rw [show d2.rp.length - 1 = np by omega] at this
    exact this
  exact
    { calm := hc, room := hr, N := hN, nd := hnd, sc := hsc, fn := hfn, xe := hxe
      gl := fun x _ d' h => M.gl x d' h, kd := M.kd, bl := M.bl
      fn0 := rfl
      fns1 := fun h1n f np hf => by
        obtain ⟨d2, hd2, hm2, rfl, rfl⟩ := fns_find hf
        obtain ⟨fa2, fdd2, F2, m2⟩ := M.df d2 hd2 hm2
        have ok := T.ok d2 hd2
        unfold okD at ok
        simp only [Bool.and_eq_true] at ok
        obtain ⟨r1, r2⟩ := rp_none ok.1.2 hm2
        have bi := F2.bindsN (T.bi d2 hd2)
        rw [r1] at bi
        exact ⟨fa2, fdd2, d2.fd.ps, m2, bi, (L1 h1n).fn d2 hd2 hm2 fa2 fdd2 F2⟩
      fns := fun f np hf => by
        obtain ⟨d2, hd2, hm2, rfl, rfl⟩ := fns_find hf
        obtain ⟨fa2, fdd2, F2, m2⟩ := M.df d2 hd2 hm2
        have ok := T.ok d2 hd2
        unfold okD at ok
        simp only [Bool.and_eq_true] at ok
        obtain ⟨r1, r2⟩ := rp_none ok.1.2 hm2
        have bi := F2.bindsN (T.bi d2 hd2)
        rw [r1] at bi
        exact ⟨fa2, fdd2, d2.fd.ps, m2, F2.kp, bi, L.fn d2 hd2 hm2 fa2 fdd2 F2⟩
      me := fun cd h => by
        obtain ⟨c, hc, rfl, Ca, p, dx, fvs, CM, h1, h2, h3, h4⟩ := me cd h
        have ok := T.co c hc
        unfold okC okM at ok
        simp only [Bool.and_eq_true, decide_eq_true_eq] at ok
        obtain ⟨⟨⟨⟨⟨⟨hl, hnd⟩, hm⟩, _⟩, _⟩, _⟩, _⟩ := ok
        exact ⟨p, Ca, dx, fvs, h1, h2, clok c hc Ca CM, h3, hnd, h4⟩
      cl := fun x cd h => by
        obtain ⟨c, hc, rfl, rfl⟩ := cls_find h
        obtain ⟨Ca, CM⟩ := M.cl c hc
        obtain ⟨fi, fdd, mk, F⟩ := CM.ini
        exact ⟨Ca, fi, fdd, c.ps, CM.mg, clok c hc Ca CM, mk, F.bindsN (T.cb c hc), fun k => init_ok (T.co c hc) CM F k⟩ }
theorem lv_0 : Lv P w K mg base ds cs (callN (tabOf ds) glo wf kd 0) 0 where
  fn := fun d hd hm fa fdd F => by
    have no : ∀ {vs H Q E}, spF K (callN (tabOf ds) glo wf kd 0) d.fd.name d.fd.ps.length vs H Q E → False := fun ⟨G, args, t, bs, _, _, e, _⟩ => by cases e
    exact ⟨fun vs H Q E h => (no h).elim, fun A outer s H args us vs Q E _ _ _ _ h => (no h).elim⟩
  me := fun c hc Ca CM d hd hm fa fdd F => by
    have no : ∀ {vs H Q E}, spM K (callN (tabOf ds) glo wf kd 0) d.fd.name Ca c.cd.gh (d.rp.length - 1) vs H Q E → False := fun ⟨G, args, t, bs, _, _, _, _, _, _, _, _, _, _, _, e, _⟩ => by cases e
    exact ⟨fun vs H Q E h => (no h).elim, fun A outer s H args us vs Q E _ _ _ _ h => (no h).elim⟩
theorem lv_s (T : TabOk ds cs) (M : ModOk K w mg ds cs glo kd) {n : Nat} (L : Lv P w K mg base ds cs (callN (tabOf ds) glo wf kd n) n) (L1 : 1 ≤ n → Lv P w K mg base ds cs (callM (tabOf ds) glo wf kd n) (n - 1)) :
    Lv P w K mg base ds cs (callN (tabOf ds) glo wf kd (n + 1)) (n + 1) where
  fn := fun d hd hm fa fdd F => by
    have ok := T.ok d hd
    unfold okD at ok
    simp only [Bool.and_eq_true] at ok
    obtain ⟨⟨o1, o2⟩, o3⟩ := ok
    obtain ⟨r1, r2⟩ := rp_none o2 hm
    rw [r1] at o1
    have S := scB_ok o1
    refine F.ok S (fun vs H Q E ⟨G, args, t, bs, _, _, _, l, _⟩ => l) fun cdv A outer s H vs Q E hr ⟨G, args, t, bs, sg, ao, e, l, q⟩ => ?_
    have hm' : d.fd ∈ tabOf ds := List.mem_map.mpr ⟨d, hd, rfl⟩
    have e' : runF ⟨callN (tabOf ds) glo wf kd n, callM (tabOf ds) glo wf kd n, n, glo, wf, kd⟩ d.fd args = some (t, bs) := by
      rw [callN_s, find_name T.nd hm'] at e
      exact e
    unfold runF at e'
    rw [r2] at e'
    split at e'
    · rename_i hal
      obtain ⟨⟨fl, ρ'⟩, e1, e2⟩ := Option.bind_eq_some_iff.mp e'
      have c := cx_ok (B := fbOf vs args) (d := d) (X := (cxOf CX0 P w K mg base d.fd.N d.fd.name d.sc fa cdv A outer s H E).nox) T M L L1 rfl hr rfl S.nd rfl rfl rfl rfl rfl rfl rfl rfl fun cd h => by rw [hm] at h; cases h
      refine ⟨tS K (fbOf vs args) H (exSs ⟨callN (tabOf ds) glo wf kd n, callM (tabOf ds) glo wf kd n, n, glo, wf, kd⟩ d.fd.body), PSs.nox (sndSs (n := n) (B := fbOf vs args) (H0 := H) d.fd.body S.kind c o3), ⟨G, _, fl, ρ', entry_ok sg ao, e1, fun σ' G' H' si => ?_⟩⟩
      have cp := end_ok (m := args.length) ao si
      cases fl with
      | nx => cases e2; exact q .non G' H' cp .non
      | bk => cases e2
      | ct => cases e2
      | rt t1 => cases t1 with
        | sl i => cases e2
        | d d1 => cases e2; exact fun v p => q v G' H' cp p
        | new o => cases e2; exact fun v p => q v G' H' cp p
    · cases e'
  me := fun c hc Ca CM d hd hm fa fdd F => by
    have ok := T.ok d hd
    unfold okD at ok
    simp only [Bool.and_eq_true] at ok
    obtain ⟨⟨o1, o2⟩, o3⟩ := ok
    have S := scB_ok o1
    unfold okG at o2
    rw [hm] at o2
    simp only [Bool.and_eq_true, decide_eq_true_eq, Bool.not_eq_true'] at o2
    obtain ⟨⟨⟨⟨⟨⟨g1, g2⟩, g3⟩, g4⟩, g5⟩, g6⟩, g7⟩ := o2
    refine F.ok S (fun vs H Q E ⟨G, args, t, bs, p, dx, fvs, us, e1, l, _⟩ => by rw [e1, List.length_cons, l]; omega) fun cdv A outer s H vs Q E hr ⟨G, args, t, bs, p, dx, fvs, us, ev, l, hp, hk, sg, ao, href, e, q⟩ => ?_
    have hm' : d.fd ∈ tabOf ds := List.mem_map.mpr ⟨d, hd, rfl⟩
    have e' : runF ⟨callN (tabOf ds) glo wf kd n, callM (tabOf ds) glo wf kd n, n, glo, wf, kd⟩ d.fd args = some (t, bs) := by
      rw [callN_s, find_name T.nd hm'] at e
      exact e
    unfold runF at e'
    rw [g1, g2] at e'
    split at e'
    · rename_i hal
      obtain ⟨⟨fl, ρ'⟩, e1, e2⟩ := Option.bind_eq_some_iff.mp e'
      have lvs : vs.length = d.rp.length := by rw [ev, List.length_cons, l]; omega
      have lfv : fvs.length = c.cd.gh.length := by rw [← hk, List.length_map]
      have hfb : ∀ (k : Nat) (q : Str × V), fvs[k]? = some q → ∃ a, q.2 = V.ref a ∧ (fbM (vs ++ fvs.map (·.2)) args p (.ins Ca dx fvs)).p (d.rp.length + k) = some a := fun k q hq => by
        obtain ⟨a, ea⟩ := href k q hq
        refine ⟨a, ea, ?_⟩
        have hkl := (List.getElem?_eq_some_iff.mp hq).1
        have z1 : (vs ++ fvs.map (·.2))[d.rp.length + k]? = some (.ref a) := by
          rw [List.getElem?_append_right (by omega), lvs, Nat.add_sub_cancel_left, List.getElem?_map, hq]
          simp [ea]
        have z2 : ∃ x, args[d.rp.length + k]? = some x := ⟨_, List.getElem?_eq_getElem (by rw [hal, g4]; omega)⟩
        obtain ⟨x, z2⟩ := z2
        show pinsM _ _ _ = _
        unfold pinsM
        rw [z1, z2]
      have hp0 : (fbM (vs ++ fvs.map (·.2)) args p (.ins Ca dx fvs)).p 0 = some p := by
        have z1 : (vs ++ fvs.map (·.2))[0]? = some (.ref p) := by rw [ev]; rfl
        obtain ⟨x, z2⟩ : ∃ x, args[0]? = some x := ⟨_, List.getElem?_eq_getElem (by rw [hal, g4]; omega)⟩
        show pinsM _ _ _ = _
        unfold pinsM
        rw [z1, z2]
      have cx := cx_ok (B := fbM (vs ++ fvs.map (·.2)) args p (.ins Ca dx fvs)) (d := d) (X := (cxOf CX0 P w K mg base d.fd.N d.fd.name d.sc fa cdv A outer s H E).nox) T M L L1 rfl hr rfl S.nd rfl rfl rfl rfl rfl rfl rfl rfl fun cd h => by
        rw [hm] at h
        cases h
        exact ⟨c, hc, rfl, Ca, p, dx, fvs, CM, hp0, fun G z => z, hk, hfb⟩
      have hNl : d.fd.ps.length ≤ d.fd.N.length := by have := congrArg List.length g6; rw [List.length_take] at this; omega
      refine ⟨_, PSs.ghost (PSs.nox (sndSs (n := n) (B := fbM (vs ++ fvs.map (·.2)) args p (.ins Ca dx fvs)) (H0 := H) d.fd.body S.kind cx o3)), start d.fd.N (vs ++ fvs.map (·.2)), ?_, fun i x hx hv => ?_, ⟨G, _, fl, ρ', entryM_ok sg ao hp, e1, fun σ' G' H' si => ?_⟩⟩
      · unfold L2.start
        simp
        omega
      · have hx' : d.fd.N[i]? = some x := hx
        have hi : i < d.fd.N.length := (List.getElem?_eq_some_iff.mp hx').1
        unfold L2.start
        by_cases h1 : i < vs.length
        · rw [List.getElem?_append_left (by simp; omega), List.getElem?_append_left (by simpa using h1), List.getElem?_map, List.getElem?_map, List.getElem?_append_left h1]
        · by_cases h2 : i < d.fd.ps.length
          · exfalso
            have h3 : d.fd.ps[i]? = some x := by rw [← g6, List.getElem?_take, if_pos h2]; exact hx'
            have h4 : x ∈ d.fd.ps.drop d.rp.length := by
              refine List.mem_of_getElem? (i := i - d.rp.length) ?_
              rw [List.getElem?_drop, show d.rp.length + (i - d.rp.length) = i by omega]
              exact h3
            have h5 := List.all_eq_true.mp g7 x h4
            rw [isVis_of (sc := d.sc) hv] at h5
            cases h5
          · rw [List.getElem?_append_right (by simp; omega), List.getElem?_append_right (by simp; omega), List.getElem?_replicate, List.getElem?_replicate, if_pos (by simp; omega), if_pos (by simp; omega)]
      · have cp := endM_ok (m := args.length) ao si
        cases fl with
        | nx => cases e2; exact q .non G' H' cp .non
        | bk => cases e2
        | ct => cases e2
        | rt t1 => cases t1 with
          | sl i => cases e2
          | d d1 => cases e2; exact fun v p => q v G' H' cp p
          | new o => cases e2; exact fun v p => q v G' H' cp p
    · cases e'
theorem lv_ok (T : TabOk ds cs) (M : ModOk K w mg ds cs glo kd) : ∀ n, Lv P w K mg base ds cs (callN (tabOf ds) glo wf kd n) n ∧ (1 ≤ n → Lv P w K mg base ds cs (callM (tabOf ds) glo wf kd n) (n - 1))
  | 0 => ⟨lv_0, fun h => absurd h (by omega)⟩
  | n + 1 => by
    obtain ⟨L, L1⟩ := lv_ok T M n
    exact ⟨lv_s T M L L1, fun _ => by rw [callM_s]; exact L⟩
theorem defs_ok (T : TabOk ds cs) (M : ModOk K w mg ds cs glo kd) (n : Nat) (d : Df) (hd : d ∈ ds) (hm : d.me = none) (fa : Addr) (fdd : FuncData) (F : FunD K d.nm d.fd.name d.pa d.bo d.sc [] [] fa fdd) :
    FnOk P w K mg base CX0 n fa fdd d.fd.ps (spF K (callN (tabOf ds) glo wf kd n) d.fd.name d.fd.ps.length) := (lv_ok T M n).1.fn d hd hm fa fdd F
/-- a law of one list of ints -/
theorem law_sp {m : Nat} {call : Str → List Arg → Option (T × List Sl)} (h : ∀ ns : List Int, ns.length ≤ m → ∃ bs, call "law" [.fr (.rd (ns.map D.int))] = some (.d (.bl true), bs)) (H : Hp) (a : Addr) (ns : List Int) (hl : ns.length ≤ m) (hS : SqL K H a (ns.map V.int)) :
    spF K call "law" 1 [.ref a] H (fun v _ => v = .bl true) fun _ _ _ => False := by
  obtain ⟨bs, e⟩ := h ns hl
  refine ⟨H, _, _, bs, Same.refl _, ⟨rfl, fun i d hd => ?_, fun i o hd => ?_, fun i j o o' b hd => ?_⟩, e, rfl, fun v G' H' _ p => ?_⟩
  · cases i with
    | zero => cases hd; exact ⟨.ref a, rfl, .rd hS RepL.ints⟩
    | succ i => cases hd
  · cases i with
    | zero => cases hd
    | succ i => cases hd
  · cases i with
    | zero => cases hd
    | succ i => cases hd
  · cases (show Rep K G' v (.bl true) from p)
    rfl
end
end Fw

set_option maxHeartbeats 8000000
/-! Fw16: what the head must tell, and the module of it. -/
namespace Fw
open PySem PySem.Spec PyProof.Rows L2
mutual
def repB (K : PySem.W.Frag) : D → Value → Bool
  | .non, u => match u with
    | .none => true
    | _ => false
  | .bl b, u => match u with
    | .bool c => b == c
    | _ => false
  | .int i, u => match u with
    | .int j _ => decide (i = j)
    | _ => false
  | .str x, u => match u with
    | .str y _ => decide (x = y)
    | _ => false
  | .tup ds, u => match u with
    | .ref a => (match K.lookup a with
      | some ⟨.type c, _, .seq its _, _⟩ => decide (c = "tuple") && decide (its.size ≤ sizeLine) && repBs K ds its.toList
      | _ => false)
    | _ => false
  | .lst _, _ => false
  | .dic _ _, _ => false
  | .obj, _ => false
  | .rd ds, u => match u with
    | .ref a => (match K.lookup a with
      | some ⟨.type c, none, .seq its _, _⟩ => decide (c = "list") && decide (its.size ≤ sizeLine) && repBs K ds its.toList
      | _ => false)
    | _ => false
def repBs (K : PySem.W.Frag) : List D → List Value → Bool
  | [], us => us.isEmpty
  | d :: ds, us => match us with
    | u :: us => repB K d u && repBs K ds us
    | [] => false
end
mutual
theorem repB_ok {K : PySem.W.Frag} : ∀ {d : D} {u : Value}, repB K d u = true → ∃ v, RelV v u ∧ ∀ G, Rep K G v d
  | .non, u, h => by
    unfold repB at h
    split at h
    · exact ⟨.non, rfl, fun _ => .non⟩
    · cases h
  | .bl b, u, h => by
    unfold repB at h
    split at h
    · exact ⟨.bl b, by rw [eq_of_beq h]; rfl, fun _ => .bl b⟩
    · cases h
  | .int i, u, h => by
    unfold repB at h
    split at h
    · rename_i j t
      exact ⟨.int i, ⟨t, by rw [of_decide_eq_true h]⟩, fun _ => .int i⟩
    · cases h
  | .str x, u, h => by
    unfold repB at h
    split at h
    · rename_i j t
      exact ⟨.str x, ⟨t, by rw [of_decide_eq_true h]⟩, fun _ => .str x⟩
    · cases h
  | .tup ds, u, h => by
    unfold repB at h
    split at h
    · rename_i a
      split at h
      · rename_i c od its n sl e
        simp only [Bool.and_eq_true, decide_eq_true_eq] at h
        obtain ⟨⟨rfl, h1⟩, h2⟩ := h
        obtain ⟨vs, r, q⟩ := repBs_ok h2
        exact ⟨.ref a, rfl, fun G => .tup (.inr ⟨_, its, n, e, rfl, rfl, h1, r⟩) (q G)⟩
      · cases h
    · cases h
  | .lst _, u, h => by
    unfold repB at h
    cases h
  | .dic _ _, u, h => by
    unfold repB at h
    cases h
  | .obj, u, h => by
    unfold repB at h
    cases h
  | .rd ds, u, h => by
    unfold repB at h
    split at h
    · rename_i a
      split at h
      · rename_i c its n sl e
        simp only [Bool.and_eq_true, decide_eq_true_eq] at h
        obtain ⟨⟨rfl, h1⟩, h2⟩ := h
        obtain ⟨vs, r, q⟩ := repBs_ok h2
        exact ⟨.ref a, rfl, fun G => .rd (.inr ⟨_, its, n, e, rfl, rfl, rfl, h1, r⟩) (q G)⟩
      · cases h
    · cases h
theorem repBs_ok {K : PySem.W.Frag} : ∀ {ds : List D} {us : List Value}, repBs K ds us = true → ∃ vs, Vals vs us ∧ ∀ G, RepL K G vs ds
  | [], us, h => by
    unfold repBs at h
    cases us with
    | nil => exact ⟨[], .nil, fun _ => .nil⟩
    | cons => cases h
  | d :: ds, us, h => by
    unfold repBs at h
    cases us with
    | nil => cases h
    | cons u us =>
      rw [Bool.and_eq_true] at h
      obtain ⟨v, r, q⟩ := repB_ok h.1
      obtain ⟨vs, rs, qs⟩ := repBs_ok h.2
      exact ⟨v :: vs, .cons r rs, fun G => .cons (q G) (qs G)⟩
end
abbrev Glos := List (Str × D)
abbrev Kds := List (Str × List (Str × D))
def gloB (K : PySem.W.Frag) (q : Str × D) : Bool := match PySem.W.nsIn K mainGlobals q.1 with
  | some (some u) => repB K q.2 u
  | _ => false
def kdB (K : PySem.W.Frag) (q : Str × List (Str × D)) : Bool := (match PySem.W.nsIn K mainGlobals q.1 with
  | some (some (.ref _)) => true
  | _ => false) && q.2.all fun r => match PySem.W.nsIn K (He.ga K q.1) r.1 with
    | some (some u) => repB K r.2 u
    | _ => false
def exB (gs : Glos) (ks : Kds) (K : PySem.W.Frag) : Bool := gs.all (gloB K) && ks.all (kdB K)
def faD (d : Df) : He.Fa := match d.me with
  | none => .glo d.fd.name
  | some cd => .meth cd.name d.nm
def faC (c : Cl) : List He.Fa := [He.Fa.glo c.cd.name, He.Fa.cls c.cd.name, He.Fa.mkr c.cd.name] ++ c.cd.gh.map (He.Fa.noat c.cd.name)
def faOf (ds : List Df) (cs : List Cl) : List He.Fa := ds.map faD ++ (cs.flatMap faC ++ bltNames.map He.Fa.free)
def atD (d : Df) : Str × Option Str := match d.me with
  | none => (d.fd.name, none)
  | some cd => (cd.name, some d.nm)
def fnOf (ds : List Df) (cs : List Cl) : List He.DefD := (ds.map fun d => ⟨atD d, d.nm, d.fd.name, d.pa, d.bo, d.sc, [], []⟩) ++ cs.map fun c => ⟨(c.cd.name, some ("__init__" : Str)), "__init__", c.qn, c.pa, c.bo, c.sc, [], []⟩
def tsOf (ks : Kds) : List He.Tab := ks.map fun q => (fun K => He.ga K q.1, q.2.map (·.1))
abbrev hkOf (ds : List Df) (cs : List Cl) (gs : Glos) (ks : Kds) : PySem.W.Hook := He.hookX 4 (faOf ds cs) (fnOf ds cs) (tsOf ks) [] (exB gs ks)
theorem lookup_mem' {α : Type} {l : List (Str × α)} {x : Str} {a : α} (h : l.lookup x = some a) : (x, a) ∈ l := PySem.mem_of_lookup h
theorem modOk_of {K : PySem.W.Frag} {w : World} {h : Heap} {mg : Str → Option Value} {ds : List Df} {cs : List Cl} {gs : Glos} {ks : Kds} (X : K.In h) (G : h.Ns mainGlobals mg) (c : He.SaysX (faOf ds cs) (fnOf ds cs) (tsOf ks) [] (exB gs ks) w h K) :
    ModOk K w mg ds cs (fun x => gs.lookup x) (fun x => ks.lookup x) where
  df := fun d hd hm => by
    have h1 : (⟨atD d, d.nm, d.fd.name, d.pa, d.bo, d.sc, [], []⟩ : He.DefD) ∈ fnOf ds cs := List.mem_append_left _ (List.mem_map.mpr ⟨d, hd, rfl⟩)
    obtain ⟨fdd, F⟩ := He.SaysD.defs c.t.d h1
    have h2 : He.Fa.glo d.fd.name ∈ faOf ds cs := List.mem_append_left _ (List.mem_map.mpr ⟨d, hd, by unfold faD; rw [hm]⟩)
    have ea : atD d = (d.fd.name, none) := by unfold atD; rw [hm]
    rw [ea] at F
    exact ⟨_, fdd, F, He.glo_ok X G (He.SaysD.facts c.t.d h2)⟩
  cl := fun k hk => by
    have fa : ∀ f ∈ faC k, f ∈ faOf ds cs := fun f hf => List.mem_append_right _ (List.mem_append_left _ (List.mem_flatMap.mpr ⟨k, hk, hf⟩))
    have f1 : He.Fa.glo k.cd.name ∈ faOf ds cs := fa _ (by simp [faC])
    have f2 : He.Fa.cls k.cd.name ∈ faOf ds cs := fa _ (by simp [faC])
    have f3 : He.Fa.mkr k.cd.name ∈ faOf ds cs := fa _ (by simp [faC])
    refine ⟨He.ga K k.cd.name, He.glo_ok X G (He.SaysD.facts c.t.d f1), He.cls_ok (He.SaysD.facts c.t.d f2), fun f hf => He.noat_ok (He.SaysD.facts c.t.d (fa _ ?_)), fun d hd hm => ?_, ?_⟩
    · unfold faC; exact List.mem_append_right _ (List.mem_map.mpr ⟨f, hf, rfl⟩)
    · have h1 : (⟨atD d, d.nm, d.fd.name, d.pa, d.bo, d.sc, [], []⟩ : He.DefD) ∈ fnOf ds cs := List.mem_append_left _ (List.mem_map.mpr ⟨d, hd, rfl⟩)
      obtain ⟨fdd, F⟩ := He.SaysD.defs c.t.d h1
      have h2 : He.Fa.meth k.cd.name d.nm ∈ faOf ds cs := List.mem_append_left _ (List.mem_map.mpr ⟨d, hd, by unfold faD; rw [hm]⟩)
      have ea : atD d = (k.cd.name, some d.nm) := by unfold atD; rw [hm]
      rw [ea] at F
      exact ⟨_, fdd, He.meth_ok (He.SaysD.facts c.t.d h2), F⟩
    · have h1 : (⟨(k.cd.name, some ("__init__" : Str)), "__init__", k.qn, k.pa, k.bo, k.sc, [], []⟩ : He.DefD) ∈ fnOf ds cs := List.mem_append_right _ (List.mem_map.mpr ⟨k, hk, rfl⟩)
      obtain ⟨fdd, F⟩ := He.SaysD.defs c.t.d h1
      exact ⟨_, fdd, He.mkr_ok (He.SaysD.facts c.t.d f3), F⟩
  gl := fun x d e => by
    have m := lookup_mem' e
    have h1 := c.more
    unfold exB at h1
    rw [Bool.and_eq_true] at h1
    have h2 := List.all_eq_true.mp h1.1 _ m
    unfold gloB at h2
    split at h2
    · rename_i u q
      obtain ⟨v, r, z⟩ := repB_ok h2
      exact ⟨u, v, PySem.W.mg_of X G q, r, z⟩
    · cases h2
  kd := fun x kv e => by
    have m := lookup_mem' e
    have h1 := c.more
    unfold exB at h1
    rw [Bool.and_eq_true] at h1
    have h2 := List.all_eq_true.mp h1.2 _ m
    unfold kdB at h2
    rw [Bool.and_eq_true] at h2
    obtain ⟨h3, h4⟩ := h2
    split at h3
    · rename_i p q
      have ga : He.ga K x = p := by unfold He.ga; rw [q]
      refine ⟨p, PySem.W.mg_of X G q, fun z d ez => ?_⟩
      have h5 := List.all_eq_true.mp h4 _ (lookup_mem' ez)
      split at h5
      · rename_i u q2
        obtain ⟨v, r, w'⟩ := repB_ok h5
        obtain ⟨i, hi, ei⟩ := List.mem_iff_getElem.mp m
        have ht : (tsOf ks)[i]? = some ((fun K => He.ga K x, kv.map (·.1)) : He.Tab) := by
          unfold tsOf
          rw [List.getElem?_map, List.getElem?_eq_getElem hi, ei]
          rfl
        obtain ⟨es, n, D⟩ := He.SaysT.tab c.t i ht
        have D' : KDict K w p es n := ga ▸ D
        have q3 : PySem.W.nsIn K p z = some (some u) := ga ▸ q2
        exact ⟨v, ⟨es, n, u, D'.at_, D'.lit, q3, r⟩, w'⟩
      · cases h5
    · cases h3
  bl := fun x e => by
    have h1 : He.Fa.free x ∈ faOf ds cs := List.mem_append_right _ (List.mem_append_right _ (List.mem_map.mpr ⟨x, by simpa using e, rfl⟩))
    exact He.free_ok X G (He.SaysD.facts c.t.d h1)
/-- a law of one list: by its table, its module's facts and the plain law -/
theorem law_by {l : PySem.W.OpenLaw} {ds : List Df} {cs : List Cl} {gs : Glos} {ks : Kds} {n m : Nat} {q : Program} {loose : List Str} {XP : (Str → Option Value) → Heap → Prop} {d : DefRec} {dl : Df} {wf : Nat}
    (hm : l.most = some m) (hm2 : m ≤ sizeLine) (hdf : d.params.defaults = []) (hr : Room n callerA) (hn : d.name = ("law" : Str)) (T : TabOk ds cs) (hd : dl ∈ ds) (hdm : dl.me = none) (hnm : dl.nm = dl.fd.name) (hrp : dl.rp = dl.fd.ps) (hl : dl.fd.name = ("law" : Str)) (hp : dl.fd.ps = [("script" : Str)])
    (plain : ∀ ns : List Int, ns.length ≤ m → ∃ bs, callN (tabOf ds) (fun x => gs.lookup x) wf (fun x => ks.lookup x) n "law" [.fr (.rd (ns.map D.int))] = some (.d (.bl true), bs)) :
    PySem.W.WalkO q loose XP (hkOf ds cs gs ks).says l.row.toRowW d [] (fun f vs => PySem.call f vs) := by
  refine L2.walk_ofE (l := l) (n := m) (k := n) (x := "script") (CX := L2.CX0) hm hm2 hdf hr ?F (fun _ _ _ _ z => z)
  intro w mg fa h Y G hmg0
  obtain ⟨K, KX, c⟩ := Y
  rw [hn] at hmg0
  have M := modOk_of KX G c
  obtain ⟨fa2, fdd, F, m2⟩ := M.df dl hd hdm
  rw [hl, hmg0] at m2
  cases m2
  have b := FunD.bindsA (ps := dl.fd.ps) F (by rw [← hrp]; exact T.bi dl hd)
  refine ⟨K, fdd, spF K (callN (tabOf ds) (fun x => gs.lookup x) wf (fun x => ks.lookup x) n) "law" 1, KX, fun s v => ?_, fun H a ns hn _ hS => law_sp plain H a ns hn hS, fun base _ _ => ?_⟩
  · have z := b s [v] (by rw [hp]; rfl)
    rw [hp] at z
    exact z
  · have z := defs_ok (P := l.prog) (w := w) (base := base) (wf := wf) T M n dl hd hdm fa fdd F
    rw [hl, hp] at z
    exact z
end Fw

set_option maxHeartbeats 1000000
/-! Fw17: the evaluator, step by step. -/
namespace Fw
open PySem PySem.Spec PyProof.Rows L2
theorem nrfl {α : Type} {a b : α} (h : a = b) : a = b := h
/-! what follows waits in an argument that simp does not enter -/
class Kont (α β : Type) where
  f : α → Option β
def bnd {α β : Type} (x : Option α) [k : Kont α β] : Option β := x.bind k.f
theorem bnd_eq {α β : Type} {x : Option α} {g : α → Option β} : @bnd α β x ⟨g⟩ = x.bind g := rfl
@[simp ↓] theorem bind_bnd {α β : Type} {x : Option α} {g : α → Option β} : x.bind g = @bnd α β x ⟨g⟩ := nrfl rfl
@[simp ↓] theorem map_to_bnd {α β : Type} {x : Option α} {g : α → β} : x.map g = @bnd α β x ⟨fun a => some (g a)⟩ := by
  cases x <;> rfl
@[simp] theorem bnd_some {α β : Type} {a : α} {g : α → Option β} : @bnd α β (some a) ⟨g⟩ = g a := nrfl rfl
@[simp] theorem bnd_none {α β : Type} {k : Kont α β} : @bnd α β none k = none := nrfl rfl
class ForB where
  f : List Sl → Rs Fl
def forK [b : ForB] (tg : Tg) (ds : List D) (ρ : List Sl) : Rs Fl := forS b.f tg ds ρ
@[simp ↓] theorem forS_forK {f : List Sl → Rs Fl} {tg : Tg} {ds : List D} {ρ : List Sl} : forS f tg ds ρ = @forK ⟨f⟩ tg ds ρ := nrfl rfl
class TurnB where
  f : D → List Sl → Rs (List D)
def turnsK [b : TurnB] (ds : List D) (ρ : List Sl) : Rs (List D) := turns b.f ds ρ
@[simp ↓] theorem turns_turnsK {F : D → List Sl → Rs (List D)} {ds : List D} {ρ : List Sl} : turns F ds ρ = @turnsK ⟨F⟩ ds ρ := nrfl rfl
def rdV (s : Sl) (i : Nat) (ρ : List Sl) : Rs T := match s with
  | .d d => some (.d d, ρ)
  | .own _ => some (.sl i, ρ)
  | .bor _ => some (.sl i, ρ)
  | .fz d => some (.d d, ρ)
  | .no => none
def thenS (q : Fl × List Sl) (k : List Sl → Rs Fl) : Rs Fl := match q.1 with
  | .nx => k q.2
  | _ => some q
section
variable {C : Cfg} {ρ : List Sl}
@[simp] theorem rdV_d {d : D} {i : Nat} : rdV (.d d) i ρ = some (.d d, ρ) := nrfl rfl
@[simp] theorem rdV_own {o : O} {i : Nat} : rdV (.own o) i ρ = some (.sl i, ρ) := nrfl rfl
@[simp] theorem rdV_bor {o : O} {i : Nat} : rdV (.bor o) i ρ = some (.sl i, ρ) := nrfl rfl
@[simp] theorem rdV_fz {d : D} {i : Nat} : rdV (.fz d) i ρ = some (.d d, ρ) := nrfl rfl
@[simp] theorem thenS_nx {k : List Sl → Rs Fl} : thenS (.nx, ρ) k = k ρ := nrfl rfl
@[simp] theorem thenS_bk {k : List Sl → Rs Fl} : thenS (.bk, ρ) k = some (.bk, ρ) := nrfl rfl
@[simp] theorem thenS_ct {k : List Sl → Rs Fl} : thenS (.ct, ρ) k = some (.ct, ρ) := nrfl rfl
@[simp] theorem thenS_rt {t : T} {k : List Sl → Rs Fl} : thenS (.rt t, ρ) k = some (.rt t, ρ) := nrfl rfl
@[simp] theorem ev_var {i : Nat} : evE C (.var i) ρ = (ρ[i]?).bind fun s => rdV s i ρ := by
  simp only [evE]
  rfl
@[simp] theorem ev_non : evE C .non ρ = some (.d .non, ρ) := by simp only [evE]
@[simp] theorem ev_bl {b : Bool} : evE C (.bl b) ρ = some (.d (.bl b), ρ) := by simp only [evE]
@[simp] theorem ev_int {i : Int} : evE C (.int i) ρ = some (.d (.int i), ρ) := by simp only [evE]
@[simp] theorem ev_str {s : Str} : evE C (.str s) ρ = some (.d (.str s), ρ) := by simp only [evE]
@[simp] theorem ev_glo {x : Str} : evE C (.glo x) ρ = (C.glo x).map fun d => (.d d, ρ) := by simp only [evE]
@[simp] theorem ev_bin {op : Operator} {a b : IE} : evE C (.bin op a b) ρ = (evE C a ρ).bind fun r => (evE C b r.2).bind fun s => vw2 (binF op) s.2 r.1 s.1 := by simp only [evE]
@[simp] theorem ev_neg {a : IE} : evE C (.neg a) ρ = (evE C a ρ).bind fun r => vw1 negF r.2 r.1 := by simp only [evE]
@[simp] theorem ev_cmp {op : CmpOp} {a b : IE} : evE C (.cmp op a b) ρ = (evE C a ρ).bind fun r => (evE C b r.2).bind fun s => vw2 (fun x y => dB (cmpF op x y)) s.2 r.1 s.1 := by simp only [evE]
@[simp] theorem ev_and {a b : IE} : evE C (.and_ a b) ρ = (asB (evE C a ρ)).bind fun r => if r.1 then evE C b r.2 else some (.d (.bl false), r.2) := by simp only [evE]
@[simp] theorem ev_or {a b : IE} : evE C (.or_ a b) ρ = (asB (evE C a ρ)).bind fun r => if r.1 then some (.d (.bl true), r.2) else evE C b r.2 := by simp only [evE]
@[simp] theorem ev_one {a : IE} : evE C (.one a) ρ = evE C a ρ := by simp only [evE]
@[simp] theorem ev_not {a : IE} : evE C (.not_ a) ρ = (asB (evE C a ρ)).bind fun r => some (.d (.bl (!r.1)), r.2) := by simp only [evE]
@[simp] theorem ev_ife {c a b : IE} : evE C (.ife c a b) ρ = (asB (evE C c ρ)).bind fun r => if r.1 then evE C a r.2 else evE C b r.2 := by simp only [evE]
@[simp] theorem ev_ix {a b : IE} : evE C (.ix a b) ρ = (evE C a ρ).bind fun r => (evE C b r.2).bind fun s => vw2 ixF s.2 r.1 s.1 := by simp only [evE]
@[simp] theorem ev_kix {x : Str} {a : IE} : evE C (.kix x a) ρ = (C.kd x).bind fun kv => (evE C a ρ).bind fun r => vw1 (kixF kv) r.2 r.1 := by simp only [evE]
@[simp] theorem ev_slc {a lo hi : IE} : evE C (.slc a lo hi) ρ = (evE C a ρ).bind fun r => (asP lo.isNop (evE C lo r.2) r.2).bind fun l => (asP hi.isNop (evE C hi l.2) l.2).bind fun h => vw1 (fun x => slF x l.1 h.1) h.2 r.1 := by simp only [evE]
@[simp] theorem ev_frz {a : IE} : evE C (.frz a) ρ = (asF (evE C a ρ)).map fun r => (.d r.1, r.2) := by simp only [evE]
@[simp] theorem ev_tup {as : IAs} : evE C (.tup as) ρ = (evA C 2 as ρ).bind fun r => (tupF r.1).map fun t => (t, r.2) := by simp only [evE]
@[simp] theorem ev_lst {as : IAs} : evE C (.lst as) ρ = (evA C 2 as ρ).bind fun r => (lstF r.1).map fun t => (t, r.2) := by simp only [evE]
@[simp] theorem ev_call {f : Str} {as : IAs} : evE C (.call f as) ρ = (evA C 0 as ρ).bind fun r => callF C.call f r.1 r.2 := by simp only [evE]
@[simp] theorem ev_blt {f : Bl} {as : IAs} : evE C (.blt f as) ρ = (evA C 0 as ρ).bind fun r => vws (bltF f) r.2 r.1 := by simp only [evE]
@[simp] theorem ev_isi {a : IE} {ts : List Fw.Ty} : evE C (.isi a ts) ρ = (evE C a ρ).bind fun r => vw1 (fun d => dB (isiF d ts)) r.2 r.1 := by simp only [evE]
@[simp] theorem ev_rngs {f : Bool} {as : IAs} : evE C (.rngs f as) ρ = (evA C 0 as ρ).bind fun r => vws (rngsF f) r.2 r.1 := by simp only [evE]
@[simp] theorem ev_lrev {a : IE} : evE C (.lrev a) ρ = (evE C a ρ).bind fun r => vw1 lrevF r.2 r.1 := by simp only [evE]
@[simp] theorem ev_mth {m : Mt} {o : IE} {as : IAs} : evE C (.mth m o as) ρ = (evE C o ρ).bind fun r => (slOf r.1).bind fun i => (chkL r.2 i).bind fun _ => (evA C (if m = .append then 2 else 0) as r.2).bind fun s => mthF m i s.1 s.2 := by simp only [evE]
@[simp] theorem ev_bm {m : Bm} {o : IE} {as : IAs} : evE C (.bm m o as) ρ = (evE C o ρ).bind fun r => (chkStr r.1).bind fun z => (evA C 0 as r.2).bind fun s => vws (bmF m z) s.2 s.1 := by simp only [evE]
@[simp] theorem ev_dnew : evE C .dnew ρ = some (.new (.dic [] []), ρ) := by simp only [evE]
@[simp] theorem ev_dsp {ks : List Key} {vs : IAs} : evE C (.dsp ks vs) ρ = (evA C 2 vs ρ).bind fun s => (Ds s.1).bind fun es => (dspF ks es).map fun t => (t, s.2) := by simp only [evE]
@[simp] theorem ev_dget {o : IE} {as : IAs} : evE C (.dget o as) ρ = (evE C o ρ).bind fun r => (chkDic r.2 r.1).bind fun _ => (evA C 2 as r.2).bind fun s => (Ds s.1).bind fun es => vw1 (fun d => dgetF d es) s.2 r.1 := by simp only [evE]
@[simp] theorem ev_srtk {f : Str} {a : IE} : evE C (.srtk f a) ρ = if C.up ≠ 0 then (evE C a ρ).bind fun r => vw1 (srtkF C.call1 f) r.2 r.1 else none := by simp only [evE]
@[simp] theorem ev_mcl {f : Str} {gs : List Nat} {as : IAs} : evE C (.mcl f gs as) ρ = (evA C 0 as ρ).bind fun r => callF C.call f (.sl 0 :: (r.1 ++ gs.map .sl)) r.2 := by simp only [evE]
@[simp] theorem ev_obc {f : Str} {fi : List FI} {as bs : IAs} : evE C (.obc f fi as bs) ρ = if 2 ≤ C.up then (evA C 2 as ρ).bind fun r => (Ds r.1).bind fun ds => (fldT fi ds).bind fun ft => (evA C 0 bs r.2).bind fun s => callF C.call f (.d .obj :: (s.1 ++ ft)) s.2 else none := by simp only [evE]
@[simp] theorem ev_anil {m : Nat} : evA C m .nil ρ = some ([], ρ) := by simp only [evA]
@[simp] theorem ev_acons {m : Nat} {a : IE} {r : IAs} : evA C m (.cons a r) ρ = (evE C a ρ).bind fun x => (taken m x.2 x.1).bind fun y => (evA C m r y.2).bind fun z => some (y.1 :: z.1, z.2) := by simp only [evA]
@[simp] theorem ev_seq {e : IE} : evI C (.seq e) ρ = (asD (evE C e ρ)).bind fun r => (items r.1).map fun xs => (xs, r.2) := by simp only [evI]
@[simp] theorem ev_rng {as : IAs} : evI C (.rng as) ρ = (evA C 0 as ρ).bind fun r => (views r.2 r.1).bind fun ds => (rngF ds).map fun xs => (xs, r.2) := by simp only [evI]
@[simp] theorem ev_zip {a b : IE} : evI C (.zip a b) ρ = (asD (evE C a ρ)).bind fun r => (asD (evE C b r.2)).bind fun s => (zipF r.1 s.1).map fun xs => (xs, s.2) := by simp only [evI]
@[simp] theorem ev_enm {a : IE} : evI C (.enm a) ρ = (asD (evE C a ρ)).bind fun r => (enmF r.1).map fun xs => (xs, r.2) := by simp only [evI]
@[simp] theorem ev_dit {a : IE} : evI C (.dit a) ρ = (asD (evE C a ρ)).bind fun r => (ditF r.1).map fun xs => (xs, r.2) := by simp only [evI]
@[simp] theorem ev_rev {a : IE} : evI C (.rev a) ρ = (asD (evE C a ρ)).bind fun r => (seqOf r.1).map fun xs => (xs.reverse, r.2) := by simp only [evI]
@[simp] theorem ex_asg {i : Nat} {e : IE} : exS C (.asg i e) ρ = (evE C e ρ).bind fun r => (store r.2 i r.1).map fun ρ2 => (.nx, ρ2) := by simp only [exS]
@[simp] theorem ex_asgT {t : Tg} {e : IE} : exS C (.asgT t e) ρ = (asD (evE C e ρ)).bind fun r => (bindT t r.1 r.2).map fun ρ2 => (.nx, ρ2) := by simp only [exS]
@[simp] theorem ex_par {i j : Nat} {a b : IE} : exS C (.par i j a b) ρ = (asD (evE C a ρ)).bind fun r => (asD (evE C b r.2)).bind fun s => if bindable s.2 i && bindable s.2 j then some (.nx, (s.2.set i (.d r.1)).set j (.d s.1)) else none := by simp only [exS]
@[simp] theorem ex_setI {o i e : IE} : exS C (.setI o i e) ρ = (asD (evE C e ρ)).bind fun r => (evE C o r.2).bind fun s => (slOf s.1).bind fun j => (asD (evE C i s.2)).bind fun k => (setF k.2 j k.1 r.1).map fun ρ2 => (.nx, ρ2) := by simp only [exS]
@[simp] theorem ex_set2 {o1 i1 o2 i2 e : IE} : exS C (.set2 o1 i1 o2 i2 e) ρ = (asD (evE C e ρ)).bind fun r => (un2 r.1).bind fun p => (putS (fun ρ => evE C o1 ρ) (fun ρ => evE C i1 ρ) p.1 r.2).bind fun ρ1 => (putS (fun ρ => evE C o2 ρ) (fun ρ => evE C i2 ρ) p.2 ρ1).map fun ρ2 => (.nx, ρ2) := by simp only [exS]
@[simp] theorem ex_ex {e : IE} : exS C (.ex e) ρ = (evE C e ρ).bind fun r => some (.nx, r.2) := by simp only [exS]
@[simp] theorem ex_if {c : IE} {a b : ISs} : exS C (.if_ c a b) ρ = (asB (evE C c ρ)).bind fun r => if r.1 then exSs C a r.2 else exSs C b r.2 := by simp only [exS]
@[simp] theorem ex_for {t : Tg} {it : II} {b : ISs} : exS C (.for_ t it b) ρ = (evI C it ρ).bind fun r => forS (fun ρ => exSs C b ρ) t r.1 r.2 := by simp only [exS]
@[simp] theorem ex_ret {e : IE} : exS C (.ret e) ρ = (evE C e ρ).bind fun r => (retT r.2 r.1).map fun s => (.rt s.1, s.2) := by simp only [exS]
@[simp] theorem ex_retN : exS C .retN ρ = some (.rt (.d .non), ρ) := by simp only [exS]
@[simp] theorem ex_brk : exS C .brk ρ = some (.bk, ρ) := by simp only [exS]
@[simp] theorem ex_cnt : exS C .cnt ρ = some (.ct, ρ) := by simp only [exS]
@[simp] theorem ex_pass : exS C .pass ρ = some (.nx, ρ) := by simp only [exS]
@[simp] theorem ex_nil : exSs C .nil ρ = some (.nx, ρ) := by simp only [exSs]
@[simp] theorem ex_cons {s : IS} {r : ISs} : exSs C (.cons s r) ρ = (exS C s ρ).bind fun q => thenS q fun ρ' => exSs C r ρ' := by
  simp only [exSs]
  rfl
end
/-! ### the steps, on what is known -/
section
variable {ρ : List Sl}
@[simp] theorem asB_some {b : Bool} : asB (some (.d (.bl b), ρ)) = some (b, ρ) := nrfl rfl
@[simp] theorem asD_d {d : D} : asD (some (.d d, ρ)) = some (d, ρ) := nrfl rfl
@[simp] theorem asD_new {xs : List D} : asD (some (.new (.lst xs), ρ)) = some (.lst xs, ρ) := nrfl rfl
@[simp] theorem asF_d {d : D} : asF (some (.d d, ρ)) = some (d, ρ) := nrfl rfl
@[simp] theorem asF_new {xs : List D} : asF (some (.new (.lst xs), ρ)) = some (.lst xs, ρ) := nrfl rfl
@[simp] theorem asF_dic {ks vs : List D} : asF (some (.new (.dic ks vs), ρ)) = some (.dic ks vs, ρ) := nrfl rfl
@[simp] theorem asF_none : asF none = none := nrfl rfl
@[simp] theorem chkStr_d {a : Str} : chkStr (.d (.str a)) = some a := nrfl rfl
@[simp] theorem frz_dic {ks vs : List D} : (O.dic ks vs).frz = .dic ks vs := nrfl rfl
@[simp] theorem view_dic {ks vs : List D} : (O.dic ks vs).view = .dic ks vs := nrfl rfl
@[simp] theorem frz_lst {xs : List D} : (O.lst xs).frz = .lst xs := nrfl rfl
@[simp] theorem view_lst {xs : List D} : (O.lst xs).view = .lst xs := nrfl rfl
@[simp] theorem asC_nop {r : Rs T} : asC true r ρ = some (true, ρ) := nrfl rfl
@[simp] theorem asC_not {r : Rs T} : asC false r ρ = asB r := nrfl rfl
@[simp] theorem asP_nop {r : Rs T} : asP true r ρ = some (none, ρ) := nrfl rfl
@[simp] theorem asP_int {i : Int} : asP false (some (.d (.int i), ρ)) ρ' = some (some i, ρ) := nrfl rfl
@[simp] theorem view_d {d : D} : view ρ (.d d) = some d := nrfl rfl
@[simp] theorem view_new {o : O} : view ρ (.new o) = some o.view := nrfl rfl
@[simp] theorem taken_0 {t : T} : taken 0 ρ t = some (t, ρ) := nrfl rfl
@[simp] theorem taken_2d {d : D} : taken 2 ρ (.d d) = some (.d d, ρ) := nrfl rfl
@[simp] theorem taken_2n {xs : List D} : taken 2 ρ (.new (.lst xs)) = some (.d (.lst xs), ρ) := nrfl rfl
@[simp] theorem dB_sm {b : Bool} : dB (some b) = some (.d (.bl b)) := nrfl rfl
@[simp] theorem retT_d {d : D} : retT ρ (.d d) = some (.d d, ρ) := nrfl rfl
@[simp] theorem retT_new {o : O} : retT ρ (.new o) = some (.new o, ρ) := nrfl rfl
@[simp] theorem slOf_sl {i : Nat} : slOf (.sl i) = some i := nrfl rfl
@[simp] theorem slOf_d {d : D} : slOf (.d d) = none := nrfl rfl
@[simp] theorem nop_nop : IE.isNop .nop = true := nrfl rfl
theorem vw2_dd {f : D → D → Option T} {x y : D} : vw2 f ρ (.d x) (.d y) = (f x y).map fun z => (z, ρ) := rfl
theorem vw1_d {f : D → Option T} {x : D} : vw1 f ρ (.d x) = (f x).map fun z => (z, ρ) := rfl
end

/-! ### data -/
section
variable {ρ : List Sl}
theorem ixN_nat {n k : Nat} (h : k < n) : ixN n (k : Int) = some k := by
  unfold ixN
  rw [if_pos (by omega), if_pos (by omega), Int.toNat_natCast]
theorem atI_nat {α : Type} {xs : List α} {k : Nat} (h : k < xs.length) : atI xs (k : Int) = some xs[k] := by
  unfold atI
  rw [ixN_nat h]
  exact List.getElem?_eq_getElem h
@[simp] theorem atI_0 {α : Type} {x : α} {xs : List α} : atI (x :: xs) 0 = some x := atI_nat (k := 0) (by simp)
@[simp] theorem atI_1 {α : Type} {x y : α} {xs : List α} : atI (x :: y :: xs) 1 = some y := atI_nat (k := 1) (xs := x :: y :: xs) (by simp)
@[simp] theorem atI_2 {α : Type} {x y z : α} {xs : List α} : atI (x :: y :: z :: xs) 2 = some z := atI_nat (k := 2) (xs := x :: y :: z :: xs) (by simp)
@[simp] theorem atI_3 {α : Type} {x y z u : α} {xs : List α} : atI (x :: y :: z :: u :: xs) 3 = some u := atI_nat (k := 3) (xs := x :: y :: z :: u :: xs) (by simp)
@[simp] theorem vw2_dd' {f : D → D → Option T} {x y : D} : vw2 f ρ (.d x) (.d y) = (f x y).map fun z => (z, ρ) := nrfl rfl
@[simp] theorem vw2_dn {f : D → D → Option T} {x : D} {y : List D} : vw2 f ρ (.d x) (.new (.lst y)) = (f x (.lst y)).map fun z => (z, ρ) := nrfl rfl
@[simp] theorem vw2_nd {f : D → D → Option T} {y : D} {x : List D} : vw2 f ρ (.new (.lst x)) (.d y) = (f (.lst x) y).map fun z => (z, ρ) := nrfl rfl
@[simp] theorem vw2_nn {f : D → D → Option T} {x y : List D} : vw2 f ρ (.new (.lst x)) (.new (.lst y)) = (f (.lst x) (.lst y)).map fun z => (z, ρ) := nrfl rfl
@[simp] theorem vw1_d' {f : D → Option T} {x : D} : vw1 f ρ (.d x) = (f x).map fun z => (z, ρ) := nrfl rfl
@[simp] theorem vw1_n {f : D → Option T} {x : List D} : vw1 f ρ (.new (.lst x)) = (f (.lst x)).map fun z => (z, ρ) := nrfl rfl
@[simp] theorem vws_nil {f : List D → Option T} : vws f ρ [] = (f []).map fun z => (z, ρ) := nrfl rfl
@[simp] theorem vws_1 {f : List D → Option T} {x : D} : vws f ρ [.d x] = (f [x]).map fun z => (z, ρ) := nrfl rfl
@[simp] theorem vws_1n {f : List D → Option T} {x : List D} : vws f ρ [.new (.lst x)] = (f [.lst x]).map fun z => (z, ρ) := nrfl rfl
@[simp] theorem vws_2 {f : List D → Option T} {x y : D} : vws f ρ [.d x, .d y] = (f [x, y]).map fun z => (z, ρ) := nrfl rfl
@[simp] theorem views_nil : views ρ [] = some [] := nrfl rfl
@[simp] theorem views_1 {x : D} : views ρ [.d x] = some [x] := nrfl rfl
@[simp] theorem views_1n {x : List D} : views ρ [.new (.lst x)] = some [.lst x] := nrfl rfl
@[simp] theorem views_2 {x y : D} : views ρ [.d x, .d y] = some [x, y] := nrfl rfl
@[simp] theorem ixF_tup {xs : List D} {i : Int} : ixF (.tup xs) (.int i) = (atI xs i).map .d := nrfl rfl
@[simp] theorem ixF_lst {xs : List D} {i : Int} : ixF (.lst xs) (.int i) = (atI xs i).map .d := nrfl rfl
@[simp] theorem ixF_rd {xs : List D} {i : Int} : ixF (.rd xs) (.int i) = (atI xs i).map .d := nrfl rfl
@[simp] theorem bin_addi {i j : Int} : binF .Add (.int i) (.int j) = some (.d (.int (i + j))) := nrfl rfl
@[simp] theorem bin_subi {i j : Int} : binF .Sub (.int i) (.int j) = some (.d (.int (i - j))) := nrfl rfl
@[simp] theorem bin_addt {xs ys : List D} : binF .Add (.tup xs) (.tup ys) = if xs.length + ys.length ≤ sizeLine then some (.d (.tup (xs ++ ys))) else none := nrfl rfl
@[simp] theorem bin_addl {xs ys : List D} : binF .Add (.lst xs) (.lst ys) = if xs.length + ys.length ≤ sizeLine then some (.new (.lst (xs ++ ys))) else none := nrfl rfl
@[simp] theorem cmp_lt {i j : Int} : cmpF .Lt (.int i) (.int j) = some (decide (i < j)) := nrfl rfl
@[simp] theorem cmp_le {i j : Int} : cmpF .LtE (.int i) (.int j) = some (decide (i ≤ j)) := nrfl rfl
@[simp] theorem cmp_gt {i j : Int} : cmpF .Gt (.int i) (.int j) = some (decide (j < i)) := nrfl rfl
@[simp] theorem cmp_ge {i j : Int} : cmpF .GtE (.int i) (.int j) = some (decide (j ≤ i)) := nrfl rfl
@[simp] theorem cmp_eqi {i j : Int} : cmpF .Eq (.int i) (.int j) = some (decide (i = j)) := nrfl rfl
@[simp] theorem cmp_eqs {i j : Str} : cmpF .Eq (.str i) (.str j) = some (decide (i = j)) := nrfl rfl
@[simp] theorem cmp_nei {i j : Int} : cmpF .NotEq (.int i) (.int j) = some (!decide (i = j)) := nrfl rfl
@[simp] theorem cmp_nes {i j : Str} : cmpF .NotEq (.str i) (.str j) = some (!decide (i = j)) := nrfl rfl
@[simp] theorem isi_1 {d : D} {t : Fw.Ty} : isiF d [t] = (d.isTy t).map fun a => a || false := by
  unfold isiF
  cases d.isTy t <;> rfl
@[simp] theorem ty_str {s : Str} {t : Fw.Ty} : (D.str s).isTy t = some (decide (t = .str)) := nrfl rfl
@[simp] theorem ty_int {s : Int} {t : Fw.Ty} : (D.int s).isTy t = some (decide (t = .int)) := nrfl rfl
@[simp] theorem ty_tup {s : List D} {t : Fw.Ty} : (D.tup s).isTy t = some (decide (t = .tuple)) := nrfl rfl
@[simp] theorem ty_lst {s : List D} {t : Fw.Ty} : (D.lst s).isTy t = some (decide (t = .list)) := nrfl rfl
@[simp] theorem ty_bl {s : Bool} {t : Fw.Ty} : (D.bl s).isTy t = some (decide (t = .bool) || decide (t = .int)) := nrfl rfl
@[simp] theorem ty_non {t : Fw.Ty} : D.non.isTy t = some false := nrfl rfl
@[simp] theorem blt_lent {xs : List D} : bltF .len [.tup xs] = some (.d (.int xs.length)) := nrfl rfl
@[simp] theorem blt_lenl {xs : List D} : bltF .len [.lst xs] = some (.d (.int xs.length)) := nrfl rfl
@[simp] theorem blt_lenr {xs : List D} : bltF .len [.rd xs] = some (.d (.int xs.length)) := nrfl rfl
@[simp] theorem blt_inti {i : Int} : bltF .int [.int i] = some (.d (.int i)) := nrfl rfl
@[simp] theorem blt_abs {i : Int} : bltF .abs [.int i] = some (.d (.int (if i < 0 then -i else i))) := nrfl rfl
@[simp] theorem blt_min {i j : Int} : bltF .min [.int i, .int j] = some (.d (.int (if j < i then j else i))) := nrfl rfl
@[simp] theorem blt_tupt {xs : List D} : bltF .tuple [.tup xs] = some (.d (.tup xs)) := nrfl rfl
@[simp] theorem blt_tupl {xs : List D} : bltF .tuple [.lst xs] = some (.d (.tup xs)) := nrfl rfl
@[simp] theorem blt_lstt {xs : List D} : bltF .list [.tup xs] = some (.new (.lst xs)) := nrfl rfl
@[simp] theorem blt_lstl {xs : List D} : bltF .list [.lst xs] = some (.new (.lst xs)) := nrfl rfl
@[simp] theorem neg_int {i : Int} : negF (.int i) = some (.d (.int (-i))) := nrfl rfl
@[simp] theorem Ds_nil : Ds [] = some [] := nrfl rfl
@[simp] theorem Ds_cons {d : D} {ts : List T} : Ds (.d d :: ts) = (Ds ts).map (d :: ·) := nrfl rfl
theorem tupF_ok {ts : List T} {ds : List D} (h : Ds ts = some ds) (hl : ds.length ≤ sizeLine) : tupF ts = some (.d (.tup ds)) := by
  unfold tupF
  rw [h]
  exact if_pos hl
theorem lstF_ok {ts : List T} {ds : List D} (h : Ds ts = some ds) (hl : ds.length ≤ sizeLine) : lstF ts = some (.new (.lst ds)) := by
  unfold lstF
  rw [h]
  exact if_pos hl
theorem szl : (10 : Nat) ≤ sizeLine := by decide
@[simp] theorem tupF_1 {a : D} : tupF [.d a] = some (.d (.tup [a])) := tupF_ok rfl (Nat.le_trans (by decide : 1 ≤ 10) szl)
@[simp] theorem tupF_2 {a b : D} : tupF [.d a, .d b] = some (.d (.tup [a, b])) := tupF_ok rfl (Nat.le_trans (by decide : 2 ≤ 10) szl)
@[simp] theorem tupF_3 {a b c : D} : tupF [.d a, .d b, .d c] = some (.d (.tup [a, b, c])) := tupF_ok rfl (Nat.le_trans (by decide : 3 ≤ 10) szl)
@[simp] theorem tupF_4 {a b c d : D} : tupF [.d a, .d b, .d c, .d d] = some (.d (.tup [a, b, c, d])) := tupF_ok rfl (Nat.le_trans (by decide : 4 ≤ 10) szl)
@[simp] theorem tupF_0 : tupF [] = some (.d (.tup [])) := tupF_ok rfl (Nat.zero_le _)
@[simp] theorem lstF_0 : lstF [] = some (.new (.lst [])) := lstF_ok rfl (Nat.zero_le _)
@[simp] theorem lstF_1 {a : D} : lstF [.d a] = some (.new (.lst [a])) := lstF_ok rfl (Nat.le_trans (by decide : 1 ≤ 10) szl)
@[simp] theorem lstF_2 {a b : D} : lstF [.d a, .d b] = some (.new (.lst [a, b])) := lstF_ok rfl (Nat.le_trans (by decide : 2 ≤ 10) szl)
@[simp] theorem lstF_3 {a b c : D} : lstF [.d a, .d b, .d c] = some (.new (.lst [a, b, c])) := lstF_ok rfl (Nat.le_trans (by decide : 3 ≤ 10) szl)
/-! ### calls -/
/-- a def that changes no argument, at depth n -/
def Pure (call : Str → List Fw.Arg → Option (T × List Sl)) (f : Str) (ds : List D) (r : D) : Prop := ∃ bs, call f (ds.map .fr) = some (.d r, bs) ∧ bs.length = ds.length
theorem backs_d : ∀ {ds : List D} {bs : List Sl}, bs.length = ds.length → backs ρ (ds.map T.d) bs = some []
  | [], [], _ => rfl
  | d :: ds, b :: bs, h => backs_d (ds := ds) (bs := bs) (by simpa using h)
theorem toArgs_d : ∀ {ds : List D}, toArgs ρ (ds.map T.d) = some (ds.map .fr)
  | [] => rfl
  | d :: ds => by
    show (match some (Fw.Arg.fr d), toArgs ρ (ds.map T.d) with
      | some a, some as => some (a :: as)
      | _, _ => none) = _
    rw [toArgs_d (ds := ds)]
    rfl
theorem lent_d : ∀ {ds : List D}, lent ρ (ds.map T.d) = []
  | [] => rfl
  | d :: ds => lent_d (ds := ds)
theorem news_d : ∀ {ds : List D}, news (ds.map T.d) = 0
  | [] => rfl
  | d :: ds => news_d (ds := ds)
theorem call_pure {call : Str → List Fw.Arg → Option (T × List Sl)} {f : Str} {ds : List D} {r : D} (h : Pure call f ds r) : callF call f (ds.map T.d) ρ = some (.d r, ρ) := by
  obtain ⟨bs, e, l⟩ := h
  unfold callF
  rw [toArgs_d, lent_d, news_d]
  simp [e, backs_d l, setAll]
theorem call_p1 {call : Str → List Fw.Arg → Option (T × List Sl)} {f : Str} {a r : D} (h : Pure call f [a] r) : callF call f [.d a] ρ = some (.d r, ρ) := call_pure h
theorem call_p2 {call : Str → List Fw.Arg → Option (T × List Sl)} {f : Str} {a b r : D} (h : Pure call f [a, b] r) : callF call f [.d a, .d b] ρ = some (.d r, ρ) := call_pure h
theorem call_p3 {call : Str → List Fw.Arg → Option (T × List Sl)} {f : Str} {a b c r : D} (h : Pure call f [a, b, c] r) : callF call f [.d a, .d b, .d c] ρ = some (.d r, ρ) := call_pure h
end

/-! ### loops -/
section
variable {ρ : List Sl}
theorem forS_ind {f : List Sl → Rs Fl} {tg : Tg} (P : Nat → List Sl → Prop) : ∀ (ds : List D) (ρ : List Sl) (k : Nat), P k ρ →
    (∀ i (hi : i < ds.length) ρ, P (k + i) ρ → ∃ ρ1 ρ2 fl, bindT tg ds[i] ρ = some ρ1 ∧ f ρ1 = some (fl, ρ2) ∧ (fl = .nx ∨ fl = .ct) ∧ P (k + i + 1) ρ2) → ∃ ρ', forS f tg ds ρ = some (.nx, ρ') ∧ P (k + ds.length) ρ'
  | [], ρ, k, h0, _ => ⟨ρ, rfl, h0⟩
  | d :: ds, ρ, k, h0, hs => by
    obtain ⟨ρ1, ρ2, fl, e1, e2, e3, p⟩ := hs 0 (by simp) ρ h0
    obtain ⟨ρ', e4, q⟩ := forS_ind P ds ρ2 (k + 1) p fun i hi ρ h => by
      have z := hs (i + 1) (by simpa using hi) ρ (by rw [show k + (i + 1) = k + 1 + i by omega]; exact h)
      rw [show k + (i + 1) = k + 1 + i by omega] at z
      exact z
    refine ⟨ρ', ?_, by rw [List.length_cons, show k + (ds.length + 1) = k + 1 + ds.length by omega]; exact q⟩
    have e1' : bindT tg d ρ = some ρ1 := e1
    unfold forS
    rw [e1']
    show (f ρ1).bind _ = _
    rw [e2]
    rcases e3 with rfl | rfl
    · exact e4
    · exact e4
theorem for_ind {f : List Sl → Rs Fl} {tg : Tg} (P : Nat → List Sl → Prop) {ds : List D} {ρ : List Sl} (h0 : P 0 ρ)
    (hs : ∀ i (hi : i < ds.length) ρ, P i ρ → ∃ ρ1 ρ2 fl, bindT tg ds[i] ρ = some ρ1 ∧ f ρ1 = some (fl, ρ2) ∧ (fl = .nx ∨ fl = .ct) ∧ P (i + 1) ρ2) : ∃ ρ', forS f tg ds ρ = some (.nx, ρ') ∧ P ds.length ρ' := by
  have z := forS_ind P ds ρ 0 h0 fun i hi ρ h => by
    rw [Nat.zero_add] at h ⊢
    exact hs i hi ρ h
  rw [Nat.zero_add] at z
  exact z
/-- a comprehension's turns, its state a function of the turn -/
theorem turns_ind {F : D → List Sl → Rs (List D)} (P : List D → List Sl → Prop) : ∀ (ds : List D) (acc : List D) (ρ : List Sl), P acc ρ →
    (∀ d ∈ ds, ∀ acc ρ, P acc ρ → ∃ x ρ2, F d ρ = some (x, ρ2) ∧ P (acc ++ x) ρ2) → ∃ xs ρ', turns F ds ρ = some (xs, ρ') ∧ P (acc ++ xs) ρ'
  | [], acc, ρ, h0, _ => ⟨[], ρ, rfl, by rw [List.append_nil]; exact h0⟩
  | d :: ds, acc, ρ, h0, hs => by
    obtain ⟨x, ρ2, e1, p⟩ := hs d List.mem_cons_self acc ρ h0
    obtain ⟨xs, ρ', e2, q⟩ := turns_ind P ds (acc ++ x) ρ2 p fun d hd => hs d (List.mem_cons_of_mem _ hd)
    refine ⟨x ++ xs, ρ', ?_, by rw [← List.append_assoc]; exact q⟩
    unfold turns
    rw [e1]
    show (match turns F ds ρ2 with
      | some (r, ρ2) => some (x ++ r, ρ2)
      | none => none) = _
    rw [e2]
theorem turns_map {F : D → List Sl → Rs (List D)} {g : D → D} : ∀ {ds : List D} {ρ : List Sl}, (∀ d ∈ ds, F d ρ = some ([g d], ρ)) → turns F ds ρ = some (ds.map g, ρ)
  | [], ρ, _ => rfl
  | d :: ds, ρ, h => by
    unfold turns
    rw [h d List.mem_cons_self]
    show (match turns F ds ρ with
      | some (r, ρ2) => some ([g d] ++ r, ρ2)
      | none => none) = _
    rw [turns_map fun d hd => h d (List.mem_cons_of_mem _ hd)]
    rfl
theorem turns_flat {F : D → List Sl → Rs (List D)} {g : D → List D} : ∀ {ds : List D} {ρ : List Sl}, (∀ d ∈ ds, F d ρ = some (g d, ρ)) → turns F ds ρ = some (ds.flatMap g, ρ)
  | [], ρ, _ => rfl
  | d :: ds, ρ, h => by
    unfold turns
    rw [h d List.mem_cons_self]
    show (match turns F ds ρ with
      | some (r, ρ2) => some (g d ++ r, ρ2)
      | none => none) = _
    rw [turns_flat fun d hd => h d (List.mem_cons_of_mem _ hd)]
    rfl
/-! ### slices -/
theorem cut_to {α : Type} {xs : List α} {k : Nat} : cutD xs none (some (k : Int)) = xs.take k := by
  unfold cutD
  rw [HT.sIx_none, HT.sIx_nat, List.drop_zero, Nat.sub_zero]
  rcases Nat.le_total k xs.length with h | h
  · rw [Nat.min_eq_left h]
  · rw [Nat.min_eq_right h, List.take_of_length_le (Nat.le_refl _), List.take_of_length_le h]
theorem cut_from {α : Type} {xs : List α} {k : Nat} : cutD xs (some (k : Int)) none = xs.drop k := by
  unfold cutD
  rw [HT.sIx_none, HT.sIx_nat]
  rcases Nat.le_total k xs.length with h | h
  · rw [Nat.min_eq_left h, List.take_of_length_le (by simp)]
  · rw [Nat.min_eq_right h, List.drop_of_length_le (Nat.le_refl _), List.drop_of_length_le h, List.take_nil]
theorem cut_of {α : Type} {xs : List α} {a b : Nat} (h : a ≤ xs.length) (hb : b ≤ xs.length) : cutD xs (some (a : Int)) (some (b : Int)) = (xs.drop a).take (b - a) := by
  unfold cutD
  rw [HT.sIx_nat, HT.sIx_nat, Nat.min_eq_left h, Nat.min_eq_left hb]
@[simp] theorem slF_tup {xs : List D} {lo hi : Option Int} : slF (.tup xs) lo hi = some (.d (.tup (cutD xs lo hi))) := nrfl rfl
@[simp] theorem slF_str {z : Str} {lo hi : Option Int} : slF (.str z) lo hi = if z.length ≤ sizeLine then some (.d (.str (L2.cutS z lo hi))) else none := nrfl rfl
@[simp] theorem slF_lst {xs : List D} {lo hi : Option Int} : slF (.lst xs) lo hi = some (.new (.lst (cutD xs lo hi))) := nrfl rfl
@[simp] theorem items_tup {xs : List D} : items (.tup xs) = some xs := nrfl rfl
@[simp] theorem items_lst {xs : List D} : items (.lst xs) = some xs := nrfl rfl
@[simp] theorem seqOf_tup {xs : List D} : seqOf (.tup xs) = some xs := nrfl rfl
@[simp] theorem seqOf_lst {xs : List D} : seqOf (.lst xs) = some xs := nrfl rfl
/-! ### slots -/
/-- a slot that may be bound -/
def Fre (s : Sl) : Prop := s = .no ∨ ∃ d, s = .d d
theorem Fre.no : Fre .no := .inl rfl
theorem Fre.d {d : D} : Fre (.d d) := .inr ⟨d, rfl⟩
theorem Fre.b {s : Sl} (h : Fre s) {ρ : List Sl} {i : Nat} (e : ρ[i]? = some s) : bindable ρ i = true := by
  unfold bindable
  rw [e]
  rcases h with rfl | ⟨d, rfl⟩ <;> rfl
theorem bindT_fre {s : Sl} (h : Fre s) {ρ : List Sl} {i : Nat} {d : D} (e : ρ[i]? = some s) : bindT (.nm i) d ρ = some (ρ.set i (.d d)) := by
  unfold bindT
  rw [if_pos (h.b e)]
theorem store_fre {s : Sl} (h : Fre s) {ρ : List Sl} {i : Nat} {d : D} (e : ρ[i]? = some s) : store ρ i (.d d) = some (ρ.set i (.d d)) := if_pos (h.b e)
theorem storeN_fre {s : Sl} (h : Fre s) {ρ : List Sl} {i : Nat} {o : O} (e : ρ[i]? = some s) : store ρ i (.new o) = some (ρ.set i (.own o)) := if_pos (h.b e)
end
/-! ### defs with a list lent as their first argument -/
def Pol (call : Str → List Fw.Arg → Option (T × List Sl)) (f : Str) (o : O) (ds : List D) (r : D) (o' : O) : Prop := ∃ bs, call f (.bo o :: ds.map .fr) = some (.d r, .bor o' :: bs) ∧ bs.length = ds.length
def PureN (call : Str → List Fw.Arg → Option (T × List Sl)) (f : Str) (ds : List D) (r : List D) : Prop := ∃ bs, call f (ds.map .fr) = some (.new (.lst r), bs) ∧ bs.length = ds.length
section
variable {ρ : List Sl} {call : Str → List Fw.Arg → Option (T × List Sl)} {f : Str} {ds : List D} {r : D} {o o' : O} {i : Nat}
theorem call_pureN {r : List D} (h : PureN call f ds r) : callF call f (ds.map T.d) ρ = some (.new (.lst r), ρ) := by
  obtain ⟨bs, e, l⟩ := h
  unfold callF
  rw [toArgs_d, lent_d, news_d]
  simp [e, backs_d l, setAll]
theorem call_own (h : Pol call f o ds r o') (e : ρ[i]? = some (.own o)) : callF call f (.sl i :: ds.map T.d) ρ = some (.d r, ρ.set i (.own o')) := by
  obtain ⟨bs, e1, l⟩ := h
  have e2 : toArgs ρ (.sl i :: ds.map T.d) = some (.bo o :: ds.map .fr) := by
    have q : toArg ρ (.sl i) = some (.bo o) := by
      show (match ρ[i]? with
        | some (.own o) => some (Fw.Arg.bo o)
        | some (.bor o) => some (.bo o)
        | some (.d d) => some (.fr d)
        | some (.fz d) => some (.fr d)
        | _ => none) = _
      rw [e]
    unfold toArgs
    rw [toArgs_d, q]
  have e3 : lent ρ (.sl i :: ds.map T.d) = [i] := by
    show (match ρ[i]? with
      | some (.own _) => i :: lent ρ (ds.map T.d)
      | some (.bor _) => i :: lent ρ (ds.map T.d)
      | _ => lent ρ (ds.map T.d)) = _
    rw [e, lent_d]
  have e4 : backs ρ (.sl i :: ds.map T.d) (.bor o' :: bs) = some [(i, .own o')] := by
    unfold backs
    rw [e]
    show (back1 (.own o) (.bor o')).bind _ = _
    rw [backs_d l]
    rfl
  have e5 : news (.sl i :: ds.map T.d) = 0 := news_d
  unfold callF
  rw [e2, e3, e5]
  simp [e1, e4, setAll]
theorem call_bor (h : Pol call f o ds r o') (e : ρ[i]? = some (.bor o)) : callF call f (.sl i :: ds.map T.d) ρ = some (.d r, ρ.set i (.bor o')) := by
  obtain ⟨bs, e1, l⟩ := h
  have e2 : toArgs ρ (.sl i :: ds.map T.d) = some (.bo o :: ds.map .fr) := by
    have q : toArg ρ (.sl i) = some (.bo o) := by
      show (match ρ[i]? with
        | some (.own o) => some (Fw.Arg.bo o)
        | some (.bor o) => some (.bo o)
        | some (.d d) => some (.fr d)
        | some (.fz d) => some (.fr d)
        | _ => none) = _
      rw [e]
    unfold toArgs
    rw [toArgs_d, q]
  have e3 : lent ρ (.sl i :: ds.map T.d) = [i] := by
    show (match ρ[i]? with
      | some (.own _) => i :: lent ρ (ds.map T.d)
      | some (.bor _) => i :: lent ρ (ds.map T.d)
      | _ => lent ρ (ds.map T.d)) = _
    rw [e, lent_d]
  have e4 : backs ρ (.sl i :: ds.map T.d) (.bor o' :: bs) = some [(i, .bor o')] := by
    unfold backs
    rw [e]
    show (back1 (.bor o) (.bor o')).bind _ = _
    rw [backs_d l]
    rfl
  have e5 : news (.sl i :: ds.map T.d) = 0 := news_d
  unfold callF
  rw [e2, e3, e5]
  simp [e1, e4, setAll]
theorem call_new (h : Pol call f o ds r o') : callF call f (.new o :: ds.map T.d) ρ = some (.d r, ρ) := by
  obtain ⟨bs, e1, l⟩ := h
  have e2 : toArgs ρ (.new o :: ds.map T.d) = some (.bo o :: ds.map .fr) := by
    unfold toArgs
    rw [toArgs_d]
    rfl
  have e3 : lent ρ (.new o :: ds.map T.d) = [] := lent_d
  have e4 : backs ρ (.new o :: ds.map T.d) (.bor o' :: bs) = some [] := backs_d l
  have e5 : news (.new o :: ds.map T.d) = 1 := by
    show news (ds.map T.d) + 1 = 1
    rw [news_d]
  unfold callF
  rw [e2, e3, e5]
  simp [e1, e4, setAll]
end

/-! ### runs -/
def Run {α : Type} (x : Rs α) (Q : α → List Sl → Prop) : Prop := ∃ a ρ, x = some (a, ρ) ∧ Q a ρ
class PostC (α : Type) where
  q : α → List Sl → Prop
def RunI {α : Type} (x : Rs α) [q : PostC α] : Prop := Run x q.q
@[simp ↓] theorem run_runI {α : Type} {x : Rs α} {Q : α → List Sl → Prop} : Run x Q = @RunI α x ⟨Q⟩ := rfl
theorem run_some {α : Type} {a : α} {ρ : List Sl} {Q : α → List Sl → Prop} : Run (some (a, ρ)) Q ↔ Q a ρ := ⟨fun ⟨_, _, e, q⟩ => by cases e; exact q, fun q => ⟨a, ρ, rfl, q⟩⟩
@[simp] theorem runI_some {α : Type} {a : α} {ρ : List Sl} {Q : α → List Sl → Prop} : @RunI α (some (a, ρ)) ⟨Q⟩ ↔ Q a ρ := run_some
theorem Run.imp {α : Type} {x : Rs α} {Q Q' : α → List Sl → Prop} (h : Run x Q) (im : ∀ a ρ, Q a ρ → Q' a ρ) : Run x Q' := by
  obtain ⟨a, ρ, e, q⟩ := h
  exact ⟨a, ρ, e, im a ρ q⟩
theorem Run.bind {α β : Type} {x : Rs α} {k : α × List Sl → Rs β} {P : α → List Sl → Prop} {Q : β → List Sl → Prop} (h : Run x P) (hk : ∀ a ρ, P a ρ → Run (k (a, ρ)) Q) : Run (x.bind k) Q := by
  obtain ⟨a, ρ, rfl, p⟩ := h
  exact hk a ρ p
/-- what a turn of a for leaves -/
def ForEnd (P : List Sl → Prop) (B : Fl → List Sl → Prop) (fl : Fl) (ρ : List Sl) : Prop := match fl with
  | .nx => P ρ
  | .ct => P ρ
  | .bk => B .nx ρ
  | .rt t => B (.rt t) ρ
section
variable {P : List Sl → Prop} {B : Fl → List Sl → Prop} {ρ : List Sl}
@[simp] theorem forEnd_nx : ForEnd P B .nx ρ ↔ P ρ := Iff.rfl
@[simp] theorem forEnd_ct : ForEnd P B .ct ρ ↔ P ρ := Iff.rfl
@[simp] theorem forEnd_bk : ForEnd P B .bk ρ ↔ B .nx ρ := Iff.rfl
@[simp] theorem forEnd_rt {t : T} : ForEnd P B (.rt t) ρ ↔ B (.rt t) ρ := Iff.rfl
end
theorem run_for0 {f : List Sl → Rs Fl} {tg : Tg} {B : Fl → List Sl → Prop} (P : Nat → List Sl → Prop) : ∀ (ds : List D) (ρ : List Sl) (k : Nat), P k ρ →
    (∀ i (hi : i < ds.length) ρ, P (k + i) ρ → ∃ ρ1, bindT tg ds[i] ρ = some ρ1 ∧ Run (f ρ1) (ForEnd (P (k + i + 1)) B)) → (∀ ρ, P (k + ds.length) ρ → B .nx ρ) → Run (forS f tg ds ρ) B
  | [], ρ, k, h0, _, he => ⟨.nx, ρ, rfl, he ρ h0⟩
  | d :: ds, ρ, k, h0, hs, he => by
    obtain ⟨ρ1, e1, fl, ρ2, e2, p⟩ := hs 0 (by simp) ρ h0
    have e1' : bindT tg d ρ = some ρ1 := e1
    have rest : P (k + 1) ρ2 → Run (forS f tg ds ρ2) B := fun p => run_for0 P ds ρ2 (k + 1) p (fun i hi ρ h => by
      have z := hs (i + 1) (by simpa using hi) ρ (by rw [show k + (i + 1) = k + 1 + i by omega]; exact h)
      rw [show k + (i + 1) = k + 1 + i by omega] at z
      exact z) (fun ρ h => he ρ (by rw [List.length_cons, show k + (ds.length + 1) = k + 1 + ds.length by omega]; exact h))
    unfold forS
    rw [e1']
    show Run ((f ρ1).bind _) B
    rw [e2]
    cases fl with
    | nx => exact rest p
    | ct => exact rest p
    | bk => exact ⟨.nx, ρ2, rfl, p⟩
    | rt t => exact ⟨.rt t, ρ2, rfl, p⟩
/-- a for, its turns by P, then the rest -/
theorem run_for {f : List Sl → Rs Fl} {tg : Tg} {β : Type} {k : Fl × List Sl → Rs β} {Q : β → List Sl → Prop} {ds : List D} {ρ : List Sl} (P : Nat → List Sl → Prop) (h0 : P 0 ρ)
    (hs : ∀ i (hi : i < ds.length) ρ, P i ρ → ∃ ρ1, bindT tg ds[i] ρ = some ρ1 ∧ Run (f ρ1) (ForEnd (P (i + 1)) fun fl ρ => Run (k (fl, ρ)) Q)) (he : ∀ ρ, P ds.length ρ → Run (k (.nx, ρ)) Q) : @RunI β (@bnd _ _ (@forK ⟨f⟩ tg ds ρ) ⟨k⟩) ⟨Q⟩ := by
  have z := run_for0 (f := f) (tg := tg) (B := fun fl ρ => Run (k (fl, ρ)) Q) P ds ρ 0 h0 (fun i hi ρ h => by
    rw [Nat.zero_add] at h ⊢
    exact hs i hi ρ h) (fun ρ h => he ρ (by rw [Nat.zero_add] at h; exact h))
  exact z.bind fun a ρ h => h
theorem run_turns0 {F : D → List Sl → Rs (List D)} {B : List D → List Sl → Prop} (P : Nat → List D → List Sl → Prop) : ∀ (ds : List D) (acc : List D) (ρ : List Sl) (k : Nat), P k acc ρ →
    (∀ i (hi : i < ds.length) acc ρ, P (k + i) acc ρ → Run (F ds[i] ρ) fun x ρ2 => P (k + i + 1) (acc ++ x) ρ2) → (∀ xs ρ, P (k + ds.length) (acc ++ xs) ρ → B xs ρ) → Run (turns F ds ρ) B
  | [], acc, ρ, k, h0, _, he => ⟨[], ρ, rfl, he [] ρ (by rw [List.append_nil]; exact h0)⟩
  | d :: ds, acc, ρ, k, h0, hs, he => by
    obtain ⟨x, ρ2, e1, p⟩ := hs 0 (by simp) acc ρ h0
    have e1' : F d ρ = some (x, ρ2) := e1
    obtain ⟨xs, ρ3, e2, q⟩ := run_turns0 (B := fun xs ρ => B (x ++ xs) ρ) P ds (acc ++ x) ρ2 (k + 1) p (fun i hi acc ρ h => by
      have z := hs (i + 1) (by simpa using hi) acc ρ (by rw [show k + (i + 1) = k + 1 + i by omega]; exact h)
      rw [show k + (i + 1) = k + 1 + i by omega] at z
      exact z) (fun xs ρ h => he (x ++ xs) ρ (by rw [List.length_cons, show k + (ds.length + 1) = k + 1 + ds.length by omega, ← List.append_assoc]; exact h))
    refine ⟨x ++ xs, ρ3, ?_, q⟩
    unfold turns
    rw [e1']
    show (match turns F ds ρ2 with
      | some (r, ρ2) => some (x ++ r, ρ2)
      | none => none) = _
    rw [e2]
/-- a comprehension's turns by P, then the rest -/
theorem run_turns {F : D → List Sl → Rs (List D)} {β : Type} {k : List D × List Sl → Rs β} {Q : β → List Sl → Prop} {ds : List D} {ρ : List Sl} (P : Nat → List D → List Sl → Prop) (h0 : P 0 [] ρ)
    (hs : ∀ i (hi : i < ds.length) acc ρ, P i acc ρ → Run (F ds[i] ρ) fun x ρ2 => P (i + 1) (acc ++ x) ρ2) (he : ∀ xs ρ, P ds.length xs ρ → Run (k (xs, ρ)) Q) : @RunI β (@bnd _ _ (@turnsK ⟨F⟩ ds ρ) ⟨k⟩) ⟨Q⟩ := by
  have z := run_turns0 (F := F) (B := fun xs ρ => Run (k (xs, ρ)) Q) P ds [] ρ 0 h0 (fun i hi acc ρ h => by
    rw [Nat.zero_add] at h ⊢
    exact hs i hi acc ρ h) (fun xs ρ h => he xs ρ (by rw [Nat.zero_add] at h; exact h))
  exact z.bind fun a ρ h => h
/-- .. each turn by itself -/
theorem run_map {F : D → List Sl → Rs (List D)} {β : Type} {k : List D × List Sl → Rs β} {Q : β → List Sl → Prop} {ds : List D} {ρ : List Sl} (g : D → List D) (hs : ∀ d ∈ ds, F d ρ = some (g d, ρ)) (he : Run (k (ds.flatMap g, ρ)) Q) : @RunI β (@bnd _ _ (@turnsK ⟨F⟩ ds ρ) ⟨k⟩) ⟨Q⟩ := by
  show Run ((turns F ds ρ).bind k) Q
  rw [turns_flat hs]
  exact he

/-! ### binding -/
@[simp] theorem nop_var : ∀ x0, IE.isNop (.var x0) = false := fun _  => nrfl rfl
@[simp] theorem nop_non : IE.isNop .non = false := nrfl rfl
@[simp] theorem nop_bl : ∀ x0, IE.isNop (.bl x0) = false := fun _  => nrfl rfl
@[simp] theorem nop_int : ∀ x0, IE.isNop (.int x0) = false := fun _  => nrfl rfl
@[simp] theorem nop_str : ∀ x0, IE.isNop (.str x0) = false := fun _  => nrfl rfl
@[simp] theorem nop_glo : ∀ x0, IE.isNop (.glo x0) = false := fun _  => nrfl rfl
@[simp] theorem nop_bin : ∀ x0 x1 x2, IE.isNop (.bin x0 x1 x2) = false := fun _ _ _  => nrfl rfl
@[simp] theorem nop_neg : ∀ x0, IE.isNop (.neg x0) = false := fun _  => nrfl rfl
@[simp] theorem nop_cmp : ∀ x0 x1 x2, IE.isNop (.cmp x0 x1 x2) = false := fun _ _ _  => nrfl rfl
@[simp] theorem nop_chn : ∀ x0 x1 x2 x3 x4, IE.isNop (.chn x0 x1 x2 x3 x4) = false := fun _ _ _ _ _  => nrfl rfl
@[simp] theorem nop_and : ∀ x0 x1, IE.isNop (.and_ x0 x1) = false := fun _ _  => nrfl rfl
@[simp] theorem nop_or : ∀ x0 x1, IE.isNop (.or_ x0 x1) = false := fun _ _  => nrfl rfl
@[simp] theorem nop_one : ∀ x0, IE.isNop (.one x0) = false := fun _  => nrfl rfl
@[simp] theorem nop_not : ∀ x0, IE.isNop (.not_ x0) = false := fun _  => nrfl rfl
@[simp] theorem nop_ife : ∀ x0 x1 x2, IE.isNop (.ife x0 x1 x2) = false := fun _ _ _  => nrfl rfl
@[simp] theorem nop_ix : ∀ x0 x1, IE.isNop (.ix x0 x1) = false := fun _ _  => nrfl rfl
@[simp] theorem nop_kix : ∀ x0 x1, IE.isNop (.kix x0 x1) = false := fun _ _  => nrfl rfl
@[simp] theorem nop_slc : ∀ x0 x1 x2, IE.isNop (.slc x0 x1 x2) = false := fun _ _ _  => nrfl rfl
@[simp] theorem nop_frz : ∀ x0, IE.isNop (.frz x0) = false := fun _  => nrfl rfl
@[simp] theorem nop_tup : ∀ x0, IE.isNop (.tup x0) = false := fun _  => nrfl rfl
@[simp] theorem nop_lst : ∀ x0, IE.isNop (.lst x0) = false := fun _  => nrfl rfl
@[simp] theorem nop_call : ∀ x0 x1, IE.isNop (.call x0 x1) = false := fun _ _  => nrfl rfl
@[simp] theorem nop_blt : ∀ x0 x1, IE.isNop (.blt x0 x1) = false := fun _ _  => nrfl rfl
@[simp] theorem nop_isi : ∀ x0 x1, IE.isNop (.isi x0 x1) = false := fun _ _  => nrfl rfl
@[simp] theorem nop_rngs : ∀ x0 x1, IE.isNop (.rngs x0 x1) = false := fun _ _  => nrfl rfl
@[simp] theorem nop_lrev : ∀ x0, IE.isNop (.lrev x0) = false := fun _  => nrfl rfl
@[simp] theorem nop_mth : ∀ x0 x1 x2, IE.isNop (.mth x0 x1 x2) = false := fun _ _ _  => nrfl rfl
@[simp] theorem nop_lc : ∀ x0 x1 x2 x3 x4, IE.isNop (.lc x0 x1 x2 x3 x4) = false := fun _ _ _ _ _  => nrfl rfl
@[simp] theorem nop_lc2 : ∀ x0 x1 x2 x3 x4 x5 x6, IE.isNop (.lc2 x0 x1 x2 x3 x4 x5 x6) = false := fun _ _ _ _ _ _ _  => nrfl rfl

def bndO : Option Sl → Bool
  | some (.bor _) => false
  | some (.fz _) => false
  | some _ => true
  | none => false
section
variable {ρ : List Sl} {i : Nat} {d : D}
@[simp] theorem bndO_no : bndO (some .no) = true := nrfl rfl
@[simp] theorem bndO_d : bndO (some (.d d)) = true := nrfl rfl
@[simp] theorem bndO_own {o : O} : bndO (some (.own o)) = true := nrfl rfl
@[simp] theorem bindable_eq : bindable ρ i = bndO (ρ[i]?) := by
  unfold bindable bndO
  rfl
theorem Fre.bo {s : Sl} (h : Fre s) : bndO (some s) = true := by
  rcases h with rfl | ⟨d, rfl⟩ <;> rfl
@[simp] theorem bindT_nm : bindT (.nm i) d ρ = if bndO (ρ[i]?) then some (ρ.set i (.d d)) else none := by
  unfold bindT
  rw [bindable_eq]
@[simp] theorem bindT_tp {ts : List Tg} {ds : List D} : bindT (.tp ts) (.tup ds) ρ = bindTs ts ds ρ := by
  conv => lhs; unfold bindT
@[simp] theorem bindTs_nil : bindTs [] [] ρ = some ρ := by
  unfold bindTs
  rfl
@[simp] theorem bindTs_cons {t : Tg} {ts : List Tg} {ds : List D} : bindTs (t :: ts) (d :: ds) ρ = (bindT t d ρ).bind fun ρ' => bindTs ts ds ρ' := by
  conv => lhs; unfold bindTs
  cases bindT t d ρ <;> rfl
@[simp] theorem store_d : store ρ i (.d d) = if bndO (ρ[i]?) then some (ρ.set i (.d d)) else none := by
  rw [← bindable_eq]
  rfl
@[simp] theorem store_n {o : O} : store ρ i (.new o) = if bndO (ρ[i]?) then some (ρ.set i (.own o)) else none := by
  rw [← bindable_eq]
  rfl
def vwO : Option Sl → Option D
  | some (.own o) => some o.view
  | some (.bor o) => some o.view
  | some (.d d) => some d
  | some (.fz d) => some d
  | _ => none
@[simp] theorem vwO_own {o : O} : vwO (some (.own o)) = some o.view := nrfl rfl
@[simp] theorem vwO_bor {o : O} : vwO (some (.bor o)) = some o.view := nrfl rfl
@[simp] theorem view_sl : view ρ (.sl i) = vwO (ρ[i]?) := by
  unfold view vwO
  rfl
def stO (ρ : List Sl) (i : Nat) : Option Sl → Option (D × List Sl)
  | some (.own (.lst xs)) => some (.lst xs, ρ.set i (.d (.lst xs)))
  | some (.bor (.lst xs)) => some (.lst xs, ρ.set i (.fz (.lst xs)))
  | some (.d d) => some (d, ρ)
  | some (.fz d) => some (d, ρ)
  | _ => none
@[simp] theorem stO_own {xs : List D} : stO ρ i (some (.own (.lst xs))) = some (.lst xs, ρ.set i (.d (.lst xs))) := nrfl rfl
@[simp] theorem stO_bor {xs : List D} : stO ρ i (some (.bor (.lst xs))) = some (.lst xs, ρ.set i (.fz (.lst xs))) := nrfl rfl
def sfO (ρ : List Sl) (i : Nat) : Option Sl → Option (D × List Sl)
  | some (.own o) => some (o.frz, ρ.set i (.d o.frz))
  | some (.bor o) => some (o.frz, ρ.set i (.fz o.frz))
  | some (.d d) => some (d, ρ)
  | some (.fz d) => some (d, ρ)
  | _ => none
@[simp] theorem sfO_own {o : O} : sfO ρ i (some (.own o)) = some (o.frz, ρ.set i (.d o.frz)) := nrfl rfl
@[simp] theorem sfO_bor {o : O} : sfO ρ i (some (.bor o)) = some (o.frz, ρ.set i (.fz o.frz)) := nrfl rfl
@[simp] theorem asF_sl : asF (some (.sl i, ρ)) = sfO ρ i (ρ[i]?) := by
  unfold sfO
  rfl
@[simp] theorem isL_own {xs : List D} : isL (some (.own (.lst xs))) = true := nrfl rfl
@[simp] theorem isL_bor {xs : List D} : isL (some (.bor (.lst xs))) = true := nrfl rfl
@[simp] theorem chkL_eq : chkL ρ i = if isL (ρ[i]?) then some () else none := nrfl rfl
@[simp] theorem asD_sl : asD (some (.sl i, ρ)) = stO ρ i (ρ[i]?) := by
  unfold stO
  rfl
@[simp] theorem vw1_sl {f : D → Option T} : vw1 f ρ (.sl i) = (vwO (ρ[i]?)).bind fun x => (f x).map fun z => (z, ρ) := by
  rw [← view_sl]
  rfl
@[simp] theorem vw2_sd {f : D → D → Option T} {y : D} : vw2 f ρ (.sl i) (.d y) = (vwO (ρ[i]?)).bind fun x => (f x y).map fun z => (z, ρ) := by
  rw [← view_sl]
  rfl
@[simp] theorem vw2_sn {f : D → D → Option T} {y : List D} : vw2 f ρ (.sl i) (.new (.lst y)) = (vwO (ρ[i]?)).bind fun x => (f x (.lst y)).map fun z => (z, ρ) := by
  rw [← view_sl]
  rfl
@[simp] theorem vws_s {f : List D → Option T} : vws f ρ [.sl i] = (vwO (ρ[i]?)).bind fun x => (f [x]).map fun z => (z, ρ) := by
  rw [← view_sl]
  unfold vws views views
  cases view ρ (.sl i) <;> rfl
def gtO : Option Sl → Option O
  | some (.own o) => some o
  | some (.bor o) => some o
  | _ => none
@[simp] theorem gtO_own {o : O} : gtO (some (.own o)) = some o := nrfl rfl
@[simp] theorem gtO_bor {o : O} : gtO (some (.bor o)) = some o := nrfl rfl
@[simp] theorem getO_eq : getO ρ i = gtO (ρ[i]?) := by
  unfold getO gtO
  rfl
def seO (ρ : List Sl) (i : Nat) (o : O) : Option Sl → Option (List Sl)
  | some (.own _) => some (ρ.set i (.own o))
  | some (.bor _) => some (ρ.set i (.bor o))
  | _ => none
@[simp] theorem seO_own {o o' : O} : seO ρ i o (some (.own o')) = some (ρ.set i (.own o)) := nrfl rfl
@[simp] theorem seO_bor {o o' : O} : seO ρ i o (some (.bor o')) = some (ρ.set i (.bor o)) := nrfl rfl
@[simp] theorem setO_eq {o : O} : setO ρ i o = seO ρ i o (ρ[i]?) := by
  unfold setO seO
  rfl
@[simp] theorem mut_app {xs : List D} : mutF .append xs [d] = if xs.length < sizeLine then some (.non, xs ++ [d]) else none := nrfl rfl
@[simp] theorem mut_extt {xs ys : List D} : mutF .extend xs [.tup ys] = if xs.length + ys.length ≤ sizeLine then some (.non, xs ++ ys) else none := nrfl rfl
@[simp] theorem mut_extl {xs ys : List D} : mutF .extend xs [.lst ys] = if xs.length + ys.length ≤ sizeLine then some (.non, xs ++ ys) else none := nrfl rfl
theorem mut_pop {xs : List D} : mutF .pop (xs ++ [d]) [] = some (d, xs) := by
  unfold mutF
  simp
def rtO (ρ : List Sl) (i : Nat) : Option Sl → Rs T
  | some (.own o) => some (.new o, ρ.set i .no)
  | some (.bor (.lst xs)) => some (.d (.lst xs), ρ.set i (.fz (.lst xs)))
  | some (.d d) => some (.d d, ρ)
  | some (.fz d) => some (.d d, ρ)
  | _ => none
@[simp] theorem rtO_own {o : O} : rtO ρ i (some (.own o)) = some (.new o, ρ.set i .no) := nrfl rfl
@[simp] theorem rtO_bor {xs : List D} : rtO ρ i (some (.bor (.lst xs))) = some (.d (.lst xs), ρ.set i (.fz (.lst xs))) := nrfl rfl
@[simp] theorem retT_sl : retT ρ (.sl i) = rtO ρ i (ρ[i]?) := by
  unfold retT rtO
  dsimp only
  cases ρ[i]? with
  | none => rfl
  | some s => cases s <;> first | rfl | (rename_i o; cases o <;> rfl)
@[simp] theorem mthF_eq {m : Mt} {ts : List T} : mthF m i ts ρ = (views ρ ts).bind fun ds => (gtO (ρ[i]?)).bind fun o => match o with
    | .lst xs => (mutF m xs ds).bind fun r => (seO ρ i (.lst r.2) (ρ[i]?)).map fun ρ3 => (.d r.1, ρ3)
    | .dic _ _ => none := by
  unfold mthF
  simp only [getO_eq, setO_eq] <;> rfl
end
/-! ### comprehensions -/
section
variable {C : Cfg} {ρ : List Sl}
@[simp] theorem ev_lc {it : II} {tg : Tg} {c e : IE} {own : List Nat} : evE C (.lc it tg c e own) ρ = if noOwn ρ own then (evI C it ρ).bind fun r => if noOwn r.2 own then
      (turns (lcTurn own tg (fun ρ3 => asC c.isNop (evE C c ρ3) ρ3) (fun ρ4 => asD (evE C e ρ4))) r.1 (wipeS r.2 own)).bind fun s => if s.1.length ≤ sizeLine then some (.new (.lst s.1), restS r.2 s.2 own) else none else none else none := by
  conv => lhs; unfold evE
  rfl
@[simp] theorem ev_lc2 {it it1 : II} {tg tg1 : Tg} {c e : IE} {own : List Nat} : evE C (.lc2 it tg it1 tg1 c e own) ρ = if noOwn ρ own then (evI C it ρ).bind fun r => if noOwn r.2 own then
      (turns (lcTurn2 own tg tg1.ix (fun ρ3 => evI C it1 ρ3) tg1 (fun ρ3 => asC c.isNop (evE C c ρ3) ρ3) (fun ρ4 => asD (evE C e ρ4))) r.1 (wipeS r.2 own)).bind fun s => if s.1.length ≤ sizeLine then some (.new (.lst s.1), restS r.2 s.2 own) else none else none else none := by
  conv => lhs; unfold evE
  rfl
def noO : Option Sl → Bool
  | some (.own _) => false
  | some (.bor _) => false
  | some (.fz _) => false
  | some _ => true
  | none => false
@[simp] theorem noO_no : noO (some .no) = true := nrfl rfl
@[simp] theorem noO_d {d : D} : noO (some (.d d)) = true := nrfl rfl
theorem Fre.nw {s : Sl} (h : Fre s) : noO (some s) = true := by
  rcases h with rfl | ⟨d, rfl⟩ <;> rfl
@[simp] theorem noOwn_nil : noOwn ρ [] = true := nrfl rfl
@[simp] theorem noOwn_cons {v : Nat} {vs : List Nat} : noOwn ρ (v :: vs) = (noO (ρ[v]?) && noOwn ρ vs) := by
  unfold noOwn noO
  rfl
@[simp] theorem wipeS_nil : wipeS ρ [] = ρ := nrfl rfl
@[simp] theorem wipeS_cons {v : Nat} {vs : List Nat} : wipeS ρ (v :: vs) = (wipeS ρ vs).set v .no := nrfl rfl
@[simp] theorem restS_nil {ρ0 : List Sl} : restS ρ0 ρ [] = ρ := nrfl rfl
@[simp] theorem restS_cons {ρ0 : List Sl} {v : Nat} {vs : List Nat} : restS ρ0 ρ (v :: vs) = (restS ρ0 ρ vs).set v ((ρ0[v]?).getD .no) := nrfl rfl
@[simp] theorem lcTurn_eq {own : List Nat} {tg : Tg} {c : List Sl → Rs Bool} {e : List Sl → Rs D} {x : D} : lcTurn own tg c e x ρ = (bindT tg x ρ).bind fun ρ3 => (c ρ3).bind fun r => if r.1 then (e r.2).bind fun s => some ([s.1], wipeS s.2 own) else some ([], wipeS r.2 own) := nrfl rfl
@[simp] theorem lcTurn2_eq {own vs1 : List Nat} {tg tg1 : Tg} {f : List Sl → Rs (List D)} {c : List Sl → Rs Bool} {e : List Sl → Rs D} {x : D} : lcTurn2 own tg vs1 f tg1 c e x ρ =
    (bindT tg x ρ).bind fun ρ3 => (f ρ3).bind fun r => if noOwn r.2 vs1 then (turns (lcTurn vs1 tg1 c e) r.1 (wipeS r.2 vs1)).bind fun s => some (s.1, wipeS (restS r.2 s.2 vs1) own) else none := rfl
end

/-! ### turns over a list of any things -/
section
variable {α β : Type} {F : D → List Sl → Rs (List D)} {f : α → D} {ps : List α} {ρ : List Sl} {k : List D × List Sl → Rs β}
theorem turns_mapL {g : α → List D} : ∀ {ps : List α}, (∀ p ∈ ps, F (f p) ρ = some (g p, ρ)) → turns F (ps.map f) ρ = some (ps.flatMap g, ρ)
  | [], _ => rfl
  | p :: ps, h => by
    rw [List.map_cons]
    unfold turns
    rw [h p List.mem_cons_self]
    show (match turns F (ps.map f) ρ with
      | some (r, ρ2) => some (g p ++ r, ρ2)
      | none => none) = _
    rw [turns_mapL fun d hd => h d (List.mem_cons_of_mem _ hd)]
    rfl
theorem tb_map {g : α → List D} {y : Rs β} (hs : ∀ p ∈ ps, F (f p) ρ = some (g p, ρ)) (he : k (ps.flatMap g, ρ) = y) : @bnd _ _ (@turnsK ⟨F⟩ (ps.map f) ρ) ⟨k⟩ = y := by
  show (turns F (ps.map f) ρ).bind k = y
  rw [turns_mapL hs]
  exact he
theorem run_mapL {g : α → List D} {Q : β → List Sl → Prop} (hs : ∀ p ∈ ps, F (f p) ρ = some (g p, ρ)) (he : Run (k (ps.flatMap g, ρ)) Q) : @RunI β (@bnd _ _ (@turnsK ⟨F⟩ (ps.map f) ρ) ⟨k⟩) ⟨Q⟩ := by
  show Run ((turns F (ps.map f) ρ).bind k) Q
  rw [turns_mapL hs]
  exact he
theorem flat_one {h : α → D} : ps.flatMap (fun p => [h p]) = ps.map h := by
  induction ps with
  | nil => rfl
  | cons p ps ih => simp [ih]
theorem run_map1 {h : α → D} {Q : β → List Sl → Prop} (hs : ∀ p ∈ ps, F (f p) ρ = some ([h p], ρ)) (he : Run (k (ps.map h, ρ)) Q) : @RunI β (@bnd _ _ (@turnsK ⟨F⟩ (ps.map f) ρ) ⟨k⟩) ⟨Q⟩ :=
  run_mapL (g := fun p => [h p]) hs (by rw [flat_one]; exact he)
theorem tb_map1 {h : α → D} {y : Rs β} (hs : ∀ p ∈ ps, F (f p) ρ = some ([h p], ρ)) (he : k (ps.map h, ρ) = y) : @bnd _ _ (@turnsK ⟨F⟩ (ps.map f) ρ) ⟨k⟩ = y :=
  tb_map (g := fun p => [h p]) hs (by rw [flat_one]; exact he)
end
section
variable {ρ : List Sl} {call : Str → List Fw.Arg → Option (T × List Sl)} {f : Str} {a b c e g : D} {r : D} {rs : List D} {o o' : O} {i : Nat}
theorem call_p4 (h : Pure call f [a, b, c, e] r) : callF call f [.d a, .d b, .d c, .d e] ρ = some (.d r, ρ) := call_pure h
theorem call_p5 (h : Pure call f [a, b, c, e, g] r) : callF call f [.d a, .d b, .d c, .d e, .d g] ρ = some (.d r, ρ) := call_pure h
theorem call_p6 {g' : D} (h : Pure call f [a, b, c, e, g, g'] r) : callF call f [.d a, .d b, .d c, .d e, .d g, .d g'] ρ = some (.d r, ρ) := call_pure h
theorem call_n1 (h : PureN call f [a] rs) : callF call f [.d a] ρ = some (.new (.lst rs), ρ) := call_pureN h
theorem call_n2 (h : PureN call f [a, b] rs) : callF call f [.d a, .d b] ρ = some (.new (.lst rs), ρ) := call_pureN h
theorem call_b0 (h : Pol call f o [] r o') (e : ρ[i]? = some (.bor o)) : callF call f [.sl i] ρ = some (.d r, ρ.set i (.bor o')) := call_bor h e
theorem call_b1 (h : Pol call f o [a] r o') (e : ρ[i]? = some (.bor o)) : callF call f [.sl i, .d a] ρ = some (.d r, ρ.set i (.bor o')) := call_bor h e
theorem call_b2 (h : Pol call f o [a, b] r o') (e : ρ[i]? = some (.bor o)) : callF call f [.sl i, .d a, .d b] ρ = some (.d r, ρ.set i (.bor o')) := call_bor h e
theorem call_b3 (h : Pol call f o [a, b, c] r o') (e : ρ[i]? = some (.bor o)) : callF call f [.sl i, .d a, .d b, .d c] ρ = some (.d r, ρ.set i (.bor o')) := call_bor h e
theorem call_b4 (h : Pol call f o [a, b, c, g] r o') (e : ρ[i]? = some (.bor o)) : callF call f [.sl i, .d a, .d b, .d c, .d g] ρ = some (.d r, ρ.set i (.bor o')) := call_bor h e
theorem call_o0 (h : Pol call f o [] r o') (e : ρ[i]? = some (.own o)) : callF call f [.sl i] ρ = some (.d r, ρ.set i (.own o')) := call_own h e
theorem call_o1 (h : Pol call f o [a] r o') (e : ρ[i]? = some (.own o)) : callF call f [.sl i, .d a] ρ = some (.d r, ρ.set i (.own o')) := call_own h e
theorem call_o2 (h : Pol call f o [a, b] r o') (e : ρ[i]? = some (.own o)) : callF call f [.sl i, .d a, .d b] ρ = some (.d r, ρ.set i (.own o')) := call_own h e
theorem call_o3 (h : Pol call f o [a, b, c] r o') (e : ρ[i]? = some (.own o)) : callF call f [.sl i, .d a, .d b, .d c] ρ = some (.d r, ρ.set i (.own o')) := call_own h e
theorem call_w1 (h : Pol call f o [a] r o') : callF call f [.new o, .d a] ρ = some (.d r, ρ) := call_new h
theorem atI_last {α : Type} {xs : List α} {x : α} : atI (xs ++ [x]) (-1) = some x := by
  unfold atI ixN
  rw [if_neg (by omega), if_pos (by rw [List.length_append, List.length_singleton]; omega)]
  have e : ((-1 : Int) + ((xs ++ [x]).length : Nat)).toNat = xs.length := by
    rw [List.length_append, List.length_singleton]
    omega
  show (xs ++ [x])[((-1 : Int) + ((xs ++ [x]).length : Nat)).toNat]? = some x
  rw [e]
  simp
end

/-! ### what waits stands in front -/
section
variable {α : Type}
@[simp] theorem bnd_asc {α β γ : Type} {x : Option α} {f : α → Option β} {g : β → Option γ} : @bnd β γ (@bnd α β x ⟨f⟩) ⟨g⟩ = @bnd α γ x ⟨fun a => (f a).bind g⟩ := by
  cases x <;> rfl
@[simp] theorem asD_bnd {x : Option α} {f : α → Rs T} : asD (@bnd _ _ x ⟨f⟩) = @bnd _ _ x ⟨fun a => asD (f a)⟩ := by
  cases x <;> rfl
@[simp] theorem asB_bnd {x : Option α} {f : α → Rs T} : asB (@bnd _ _ x ⟨f⟩) = @bnd _ _ x ⟨fun a => asB (f a)⟩ := by
  cases x <;> rfl
end
end Fw

set_option maxHeartbeats 1000000
/-! Fw18: dicts, step by step. -/
namespace Fw
open PySem PySem.Spec PyProof.Rows L2
@[simp] theorem nop_bm : ∀ x0 x1 x2, IE.isNop (.bm x0 x1 x2) = false := fun _ _ _ => nrfl rfl
@[simp] theorem nop_dnew : IE.isNop .dnew = false := nrfl rfl
@[simp] theorem nop_dsp : ∀ x0 x1, IE.isNop (.dsp x0 x1) = false := fun _ _ => nrfl rfl
@[simp] theorem nop_dget : ∀ x0 x1, IE.isNop (.dget x0 x1) = false := fun _ _ => nrfl rfl
@[simp] theorem nop_srtk : ∀ x0 x1, IE.isNop (.srtk x0 x1) = false := fun _ _ => nrfl rfl
@[simp] theorem nop_mcl : ∀ x0 x1 x2, IE.isNop (.mcl x0 x1 x2) = false := fun _ _ _ => nrfl rfl
@[simp] theorem nop_obc : ∀ x0 x1 x2 x3, IE.isNop (.obc x0 x1 x2 x3) = false := fun _ _ _ _ => nrfl rfl
section
variable {ρ : List Sl} {i : Nat}
@[simp] theorem bindT_tpl {ts : List Tg} {ds : List D} : bindT (.tp ts) (.lst ds) ρ = bindTs ts ds ρ := by
  conv => lhs; unfold bindT
@[simp] theorem isL_owd {ks vs : List D} : isL (some (.own (.dic ks vs))) = false := nrfl rfl
@[simp] theorem ty_dic {ks vs : List D} {t : Fw.Ty} : (D.dic ks vs).isTy t = none := nrfl rfl
@[simp] theorem items_dic {ks vs : List D} : items (.dic ks vs) = some ks := nrfl rfl
@[simp] theorem items_str {z : Str} : items (.str z) = some (z.cps.toList.map fun c => .str ⟨#[c]⟩) := nrfl rfl
@[simp] theorem blt_lend {ks vs : List D} : bltF .len [.dic ks vs] = some (.d (.int ks.length)) := nrfl rfl
@[simp] theorem ixF_dic {ks vs : List D} {k : D} : ixF (.dic ks vs) k = if dOk ks k then (dFind ks vs k).map .d else none := nrfl rfl
theorem cmp_in_dic {ks vs : List D} {k : D} : cmpF .In k (.dic ks vs) = if dOk ks k then some (dHas ks k) else none := nrfl rfl
theorem cmp_nin_dic {ks vs : List D} {k : D} : cmpF .NotIn k (.dic ks vs) = (if dOk ks k then some (dHas ks k) else none).map (!·) := nrfl rfl
/-- a store into what a slot owns -/
def putO (o : O) (k x : D) : Option O := match o, k with
  | .lst xs, .int k => (ixN xs.length k).map fun j => .lst (xs.set j x)
  | .lst _, _ => none
  | .dic ks vs, k => (dPutF ks vs k x).map fun r => .dic r.1 r.2
@[simp] theorem putO_dic {ks vs : List D} {k x : D} : putO (.dic ks vs) k x = (dPutF ks vs k x).map fun r => .dic r.1 r.2 := nrfl rfl
@[simp] theorem setF_eq {k x : D} : setF ρ i k x = (gtO (ρ[i]?)).bind fun o => (putO o k x).bind fun o' => seO ρ i o' (ρ[i]?) := by
  unfold setF
  rw [getO_eq]
  cases gtO ρ[i]? with
  | none => rfl
  | some o =>
    cases o with
    | lst xs =>
      cases k <;> first | rfl | skip
      rename_i k
      show (ixN xs.length k).bind (fun j => setO ρ i (.lst (xs.set j x))) = ((ixN xs.length k).map fun j => O.lst (xs.set j x)).bind fun o' => seO ρ i o' ρ[i]?
      cases ixN xs.length k with
      | none => rfl
      | some j => exact setO_eq
    | dic ks vs =>
      show (dPutF ks vs k x).bind (fun r => setO ρ i (.dic r.1 r.2)) = ((dPutF ks vs k x).map fun r => O.dic r.1 r.2).bind fun o' => seO ρ i o' ρ[i]?
      cases dPutF ks vs k x with
      | none => rfl
      | some r => exact setO_eq
@[simp] theorem vw2_dk {f : D → D → Option T} {x : D} {ks vs : List D} : vw2 f ρ (.d x) (.new (.dic ks vs)) = (f x (.dic ks vs)).map fun z => (z, ρ) := nrfl rfl
@[simp] theorem vw2_ds {f : D → D → Option T} {x : D} : vw2 f ρ (.d x) (.sl i) = (vwO (ρ[i]?)).bind fun y => (f x y).map fun z => (z, ρ) := by
  rw [← view_sl]
  rfl
@[simp] theorem vw2_ss {f : D → D → Option T} {j : Nat} : vw2 f ρ (.sl i) (.sl j) = (vwO (ρ[i]?)).bind fun x => (vwO (ρ[j]?)).bind fun y => (f x y).map fun z => (z, ρ) := by
  rw [← view_sl, ← view_sl]
  rfl
@[simp] theorem chkDic_sl : chkDic ρ (.sl i) = if isDicO (vwO (ρ[i]?)) then some () else none := by
  unfold chkDic
  rw [view_sl]
@[simp] theorem isDicO_dic {ks vs : List D} : isDicO (some (.dic ks vs)) = true := nrfl rfl
@[simp] theorem chkDic_d {ks vs : List D} : chkDic ρ (.d (.dic ks vs)) = some () := nrfl rfl
end
/-! ### keys -/
/-- a family of keys -/
structure Emb {α : Type} [DecidableEq α] (f : α → D) : Prop where
  k1 : (∀ a, (f a).key1.isSome = true) ∨ (∀ a, (f a).key1.isSome = false ∧ (f a).tk.isSome = true)
  eq : ∀ a b, (f a).keq (f b) = decide (a = b)
section
variable {α β : Type} [DecidableEq α] {f : α → D} {g : β → D}
theorem Emb.ok (e : Emb f) (m : List α) (a : α) : dOk (m.map f) (f a) = true := by
  unfold dOk
  rcases e.k1 with h | h
  · cases m with
    | nil => simp [h a]
    | cons b m => simp [h a, h b]
  · cases m with
    | nil => simp [(h a).1, (h a).2]
    | cons b m => simp [(h a).1, (h a).2, (h b).1]
theorem Emb.has (e : Emb f) (m : List α) (a : α) : dHas (m.map f) (f a) = decide (a ∈ m) := by
  unfold dHas
  rw [List.any_map]
  induction m with
  | nil => rfl
  | cons b m ih =>
    rw [List.any_cons, ih]
    show ((f b).keq (f a) || _) = _
    rw [e.eq]
    by_cases h : b = a
    · subst h; simp
    · have h' : ¬ a = b := fun z => h z.symm
      simp [h, h']
theorem Emb.in_ (e : Emb f) {m : List α} {vs : List D} {a : α} : cmpF .In (f a) (.dic (m.map f) vs) = some (decide (a ∈ m)) := by
  rw [cmp_in_dic, if_pos (e.ok m a), e.has]
theorem Emb.nin (e : Emb f) {m : List α} {vs : List D} {a : α} : cmpF .NotIn (f a) (.dic (m.map f) vs) = some (!decide (a ∈ m)) := by
  rw [cmp_nin_dic, if_pos (e.ok m a), e.has]
  rfl
/-- the last binding of a key -/
def lookA (a : α) : List (α × β) → Option β
  | [] => none
  | p :: r => if p.1 = a then some p.2 else lookA a r
def dicA (f : α → D) (g : β → D) (m : List (α × β)) : D := .dic (m.map fun p => f p.1) (m.map fun p => g p.2)
theorem Emb.find (e : Emb f) {m : List (α × β)} {a : α} : dFind (m.map fun p => f p.1) (m.map fun p => g p.2) (f a) = (lookA a m).map g := by
  unfold dFind
  induction m with
  | nil => rfl
  | cons p m ih =>
    rw [List.map_cons, List.map_cons, List.zip_cons_cons, List.find?_cons]
    show (match (f p.1).keq (f a) with | true => _ | false => _ : Option (D × D)).map _ = _
    rw [e.eq]
    unfold lookA
    by_cases h : p.1 = a
    · simp [h]
    · simp only [h, decide_false, if_false]
      exact ih
/-- a set: each key once -/
def ins (m : List α) (a : α) : List α := if a ∈ m then m else m ++ [a]
theorem mem_ins {m : List α} {a b : α} : b ∈ ins m a ↔ b ∈ m ∨ b = a := by
  unfold ins
  split
  · rename_i h
    constructor
    · exact .inl
    · rintro (h' | rfl)
      · exact h'
      · exact h
  · simp
theorem nd_ins {m : List α} {a : α} (h : m.Nodup) : (ins m a).Nodup := by
  unfold ins
  split
  · exact h
  · rename_i h'
    exact List.nodup_append.mpr ⟨h, by simp, fun x hx y hy => by
      rw [List.mem_singleton] at hy
      subst hy
      exact fun e => h' (e ▸ hx)⟩
theorem len_ins {m : List α} {a : α} : (ins m a).length ≤ m.length + 1 := by
  unfold ins
  split
  · omega
  · simp
def insAll (m as : List α) : List α := as.foldl ins m
theorem insAll_nil {m : List α} : insAll m [] = m := rfl
theorem insAll_app {m as bs : List α} : insAll m (as ++ bs) = insAll (insAll m as) bs := List.foldl_append
theorem insAll_one {m : List α} {a : α} : insAll m [a] = ins m a := rfl
theorem mem_insAll {as : List α} {b : α} : ∀ {m : List α}, b ∈ insAll m as ↔ b ∈ m ∨ b ∈ as := by
  induction as with
  | nil => intro m; simp [insAll_nil]
  | cons a as ih =>
    intro m
    show b ∈ insAll (ins m a) as ↔ _
    rw [ih, mem_ins, List.mem_cons, or_assoc]
theorem nd_insAll {as : List α} : ∀ {m : List α}, m.Nodup → (insAll m as).Nodup := by
  induction as with
  | nil => intro m h; exact h
  | cons a as ih => intro m h; exact ih (nd_ins h)
theorem len_insAll {as : List α} : ∀ {m : List α}, (insAll m as).length ≤ m.length + as.length := by
  induction as with
  | nil => intro m; exact Nat.le_refl _
  | cons a as ih =>
    intro m
    have h1 := ih (m := ins m a)
    have h2 := len_ins (m := m) (a := a)
    show (insAll (ins m a) as).length ≤ _
    rw [List.length_cons]
    omega
/-- .. as a dict whose values are all x -/
def setX (f : α → D) (x : D) (m : List α) : D := .dic (m.map f) (m.map fun _ => x)
theorem zip_rep {m : List α} {x : D} {p : D → Bool} : ((m.map f).zip (m.map fun _ => x)).map (fun q => if p q.1 then x else q.2) = m.map fun _ => x := by
  induction m with
  | nil => rfl
  | cons a m ih =>
    rw [List.map_cons, List.map_cons, List.zip_cons_cons, List.map_cons, ih]
    split <;> rfl
theorem Emb.put (e : Emb f) {m : List α} {a : α} {x : D} (hl : m.length < sizeLine) : dPutF (m.map f) (m.map fun _ => x) (f a) x = some ((ins m a).map f, (ins m a).map fun _ => x) := by
  unfold dPutF
  rw [e.ok, e.has, List.length_map, decide_eq_true hl]
  simp only [Bool.and_self, if_true]
  unfold ins
  by_cases h : a ∈ m
  · simp only [h, decide_true, if_true]
    rw [zip_rep (p := fun d => d.keq (f a))]
  · simp only [h, decide_false, if_false, Bool.false_eq_true]
    simp
/-- maps -/
def putA (m : List (α × β)) (a : α) (b : β) : List (α × β) := if a ∈ m.map (·.1) then m.map fun p => if p.1 = a then (p.1, b) else p else m ++ [(a, b)]
theorem Emb.putM (e : Emb f) {m : List (α × β)} {a : α} {b : β} (hl : m.length < sizeLine) : dPutF (m.map fun p => f p.1) (m.map fun p => g p.2) (f a) (g b) = some ((putA m a b).map fun p => f p.1, (putA m a b).map fun p => g p.2) := by
  have e1 : (m.map fun p => f p.1) = (m.map (·.1)).map f := by rw [List.map_map]; rfl
  unfold dPutF
  rw [e1, e.ok, e.has, List.length_map, List.length_map, decide_eq_true hl]
  simp only [Bool.and_self, if_true]
  unfold putA
  by_cases h : a ∈ m.map (·.1)
  · simp only [h, decide_true, if_true]
    congr 1
    have h1 : ∀ l : List (α × β), (l.map (·.1)).map f = (l.map fun p => if p.1 = a then (p.1, b) else p).map fun p => f p.1 := fun l => by
      rw [List.map_map, List.map_map]
      apply List.map_congr_left
      intro p _
      show f p.1 = f (if p.1 = a then (p.1, b) else p).1
      split <;> rfl
    have h2 : ∀ l : List (α × β), (((l.map (·.1)).map f).zip (l.map fun p => g p.2)).map (fun p => if p.1.keq (f a) then g b else p.2) = (l.map fun p => if p.1 = a then (p.1, b) else p).map fun p => g p.2 := fun l => by
      induction l with
      | nil => rfl
      | cons p l ih =>
        simp only [List.map_cons, List.zip_cons_cons]
        rw [ih]
        congr 1
        show (if (f p.1).keq (f a) then g b else g p.2) = _
        rw [e.eq]
        by_cases h : p.1 = a
        · simp [h]
        · simp [h]
    exact Prod.ext (h1 m) (h2 m)
  · simp only [h, decide_false, if_false, Bool.false_eq_true]
    simp
end
/-! ### families -/
theorem emb_int : Emb D.int := ⟨.inl fun _ => rfl, fun a b => by
  show decide ((Sum.inl a : Key) = .inl b) = _
  by_cases h : a = b
  · subst h; simp
  · simp [h]⟩
theorem emb_str : Emb D.str := ⟨.inl fun _ => rfl, fun a b => by
  show decide ((Sum.inr a : Key) = .inr b) = _
  by_cases h : a = b
  · subst h; simp
  · simp [h]⟩
/-- a row of numbers -/
def rowI (l : List Int) : D := .tup (l.map .int)
theorem nks_int : ∀ l : List Int, D.nks (l.map .int) = some (l.map NestedKey.num)
  | [] => by simp [D.nks]
  | a :: l => by simp [D.nks, nks_int l, D.nk]
theorem nk_row (l : List Int) : (rowI l).nk = some (.tup (l.map NestedKey.num)) := by
  unfold rowI
  rw [D.nk, nks_int]
  rfl
theorem dep_num : ∀ l : List Int, NestedKey.depthAll (l.map NestedKey.num) = 0
  | [] => by simp [NestedKey.depthAll]
  | a :: l => by simp [NestedKey.depthAll, NestedKey.depth, dep_num l]
theorem num_inj : ∀ {a b : List Int}, a.map NestedKey.num = b.map NestedKey.num → a = b
  | [], [], _ => rfl
  | [], _ :: _, h => by cases h
  | _ :: _, [], h => by cases h
  | x :: a, y :: b, h => by
    rw [List.map_cons, List.map_cons] at h
    injection h with h1 h2
    injection h1 with h1
    rw [h1, num_inj h2]
theorem keq_nst {x y : D} {p q : NestedKey} (hx : x.key1 = none) (h1 : x.nk = some p) (h2 : y.nk = some q) : x.keq y = decide (p = q) := by
  unfold D.keq
  rw [hx, h1, h2]
theorem tk_of {xs : List D} {p : NestedKey} (h : (D.tup xs).nk = some p) (hd : p.depth ≤ 8) : (D.tup xs).tk = some p := by
  show (D.tup xs).nk.bind (fun k => if k.depth ≤ 8 then some k else none) = some p
  rw [h]
  exact if_pos hd
theorem emb_row : Emb rowI := ⟨.inr fun a => ⟨rfl, by
    have := tk_of (xs := a.map .int) (nk_row a) (by simp [NestedKey.depth, dep_num])
    show (D.tup (a.map .int)).tk.isSome = true
    rw [this]; rfl⟩, fun a b => by
  rw [keq_nst rfl (nk_row a) (nk_row b)]
  by_cases h : a = b
  · subst h; simp
  · have : ¬ (NestedKey.tup (a.map .num) = .tup (b.map .num)) := fun z => by injection z with z; exact h (num_inj z)
    simp [h, this]⟩
/-- two rows -/
def rows2 (p : List Int × List Int) : D := .tup [rowI p.1, rowI p.2]
theorem nk_rows2 (p : List Int × List Int) : (rows2 p).nk = some (.tup [.tup (p.1.map NestedKey.num), .tup (p.2.map NestedKey.num)]) := by
  unfold rows2
  rw [D.nk]
  simp [D.nks, nk_row]
theorem emb_rows2 : Emb rows2 := ⟨.inr fun a => ⟨rfl, by
    have := tk_of (xs := [rowI a.1, rowI a.2]) (nk_rows2 a) (by simp [NestedKey.depth, NestedKey.depthAll, dep_num])
    show (D.tup [rowI a.1, rowI a.2]).tk.isSome = true
    rw [this]; rfl⟩, fun a b => by
  rw [keq_nst rfl (nk_rows2 a) (nk_rows2 b)]
  by_cases h : a = b
  · subst h; simp
  · have : ¬ (NestedKey.tup [.tup (a.1.map .num), .tup (a.2.map .num)] = .tup [.tup (b.1.map .num), .tup (b.2.map .num)]) := fun z => by
      injection z with z
      injection z with z1 z2
      injection z1 with z1
      injection z2 with z2 _
      injection z2 with z2
      exact h (Prod.ext (num_inj z1) (num_inj z2))
    simp [h, this]⟩
/-! ### loops that fold -/
/-- a for over the images of xs: before x the state is that of what came before -/
theorem run_fold {α S : Type} {f : List Sl → Rs Fl} {tg : Tg} {β : Type} {k : Fl × List Sl → Rs β} {Q : β → List Sl → Prop} {xs : List α} {e : α → D} {ρ : List Sl} (h : S → α → S) (s0 : S) (st : S → List Sl → Prop) (h0 : st s0 ρ)
    (hs : ∀ pre x post, xs = pre ++ x :: post → ∀ ρ, st (pre.foldl h s0) ρ → ∃ ρ1, bindT tg (e x) ρ = some ρ1 ∧ Run (f ρ1) (ForEnd (st (h (pre.foldl h s0) x)) fun fl ρ => Run (k (fl, ρ)) Q)) (he : ∀ ρ, st (xs.foldl h s0) ρ → Run (k (.nx, ρ)) Q) :
    @RunI β (@bnd _ _ (@forK ⟨f⟩ tg (xs.map e) ρ) ⟨k⟩) ⟨Q⟩ := by
  refine run_for (fun i ρ => st ((xs.take i).foldl h s0) ρ) (by simpa using h0) (fun i hi ρ q => ?_) fun ρ q => he ρ (by rw [List.length_map, List.take_length] at q; exact q)
  have hi' : i < xs.length := by simpa using hi
  have e1 : xs = xs.take i ++ xs[i] :: xs.drop (i + 1) := by
    rw [List.getElem_cons_drop, List.take_append_drop]
  obtain ⟨ρ1, h1, h2⟩ := hs (xs.take i) xs[i] (xs.drop (i + 1)) e1 ρ q
  refine ⟨ρ1, by rw [List.getElem_map]; exact h1, ?_⟩
  have e2 : (xs.take (i + 1)).foldl h s0 = h ((xs.take i).foldl h s0) xs[i] := by
    rw [List.take_succ_eq_append_getElem hi', List.foldl_append]
    rfl
  rw [e2]
  exact h2
end Fw

set_option maxHeartbeats 0
namespace Tab
open PySem PySem.Spec PyProof.Rows L2 Fw
def top (i : Nat) : Stmt := PySem.Challenge.pw_fractionwords_k88_whole_moves_keep_holdi.main.body.getD i (.Pass ⟨0, 0, 0, 0⟩)
def inCls (i j : Nat) : Stmt := match top i with
  | .ClassDef _ _ _ b _ _ _ _ _ _ _ => b.getD j (.Pass ⟨0, 0, 0, 0⟩)
  | _ => .Pass ⟨0, 0, 0, 0⟩
def c_Truth : ClD := ⟨"Truth", ["bans", "banned"], 1, [.arg 0, .dict], [("banned_by", "Truth.banned_by", 1), ("failing", "Truth.failing", 1)]⟩
/-- is_atom_number -/
def f_is_atom_number : Fd := ⟨"is_atom_number", ["text"], ["text", "char"], (.cons (.if_ (.or_ (.not_ (.chn .LtE .LtE (.int 1) (.blt .len (.cons (.var 0) .nil)) (.glo "MOST_IN_NUMBER"))) (.one (.cmp .Eq (.ix (.var 0) (.int 0)) (.str "0")))) (.cons (.ret (.bl false)) .nil) .nil) (.cons (.ret (.blt .all (.cons (.lc (.seq (.var 0)) (.nm 1) .nop (.cmp .In (.var 1) (.glo "DIGITS")) [1]) .nil))) .nil)), []⟩
/-- is_atom -/
def f_is_atom : Fd := ⟨"is_atom", ["thing"], ["thing", "base", "dot", "number", "char"], (.cons (.if_ (.not_ (.isi (.var 0) [.str])) (.cons (.ret (.bl false)) .nil) .nil) (.cons (.asgT (.tp [(.nm 1), (.nm 2), (.nm 3)]) (.bm .partition (.var 0) (.cons (.str ".") .nil))) (.cons (.if_ (.or_ (.not_ (.chn .LtE .LtE (.int 1) (.blt .len (.cons (.var 1) .nil)) (.glo "MOST_IN_NAME"))) (.one (.cmp .NotIn (.ix (.var 1) (.int 0)) (.glo "LETTERS")))) (.cons (.ret (.bl false)) .nil) .nil) (.cons (.if_ (.not_ (.blt .all (.cons (.lc (.seq (.var 1)) (.nm 4) .nop (.or_ (.cmp .In (.var 4) (.glo "LETTERS")) (.one (.cmp .In (.var 4) (.glo "DIGITS")))) [4]) .nil))) (.cons (.ret (.bl false)) .nil) .nil) (.cons (.ret (.or_ (.cmp .Eq (.var 2) (.str "")) (.one (.call "is_atom_number" (.cons (.var 3) .nil))))) .nil))))), []⟩
/-- is_line -/
def f_is_line : Fd := ⟨"is_line", ["thing"], ["thing", "mark"], (.cons (.if_ (.or_ (.not_ (.isi (.var 0) [.tuple])) (.one (.not_ (.chn .LtE .LtE (.int 1) (.blt .len (.cons (.var 0) .nil)) (.glo "MOST_MARKS"))))) (.cons (.ret (.bl false)) .nil) .nil) (.cons (.for_ (.nm 1) (.seq (.var 0)) (.cons (.if_ (.or_ (.not_ (.isi (.var 1) [.int])) (.or_ (.isi (.var 1) [.bool]) (.one (.not_ (.chn .LtE .LtE (.int 0) (.var 1) (.glo "LAST_MARK")))))) (.cons (.ret (.bl false)) .nil) .nil) .nil)) (.cons (.ret (.bl true)) .nil))), []⟩
/-- are_unlike_lines -/
def f_are_unlike_lines : Fd := ⟨"are_unlike_lines", ["thing"], ["thing", "found", "line"], (.cons (.if_ (.or_ (.not_ (.isi (.var 0) [.tuple])) (.one (.not_ (.blt .all (.cons (.lc (.seq (.var 0)) (.nm 2) .nop (.call "is_line" (.cons (.var 2) .nil)) [2]) .nil))))) (.cons (.ret (.bl false)) .nil) .nil) (.cons (.asg 1 .dnew) (.cons (.for_ (.nm 2) (.seq (.var 0)) (.cons (.setI (.var 1) (.var 2) (.bl true)) .nil)) (.cons (.ret (.cmp .Eq (.blt .len (.cons (.var 1) .nil)) (.blt .len (.cons (.var 0) .nil)))) .nil)))), []⟩
/-- is_ban_list -/
def f_is_ban_list : Fd := ⟨"is_ban_list", ["thing"], ["thing", "met", "count", "pair", "atom", "lines"], (.cons (.if_ (.or_ (.not_ (.isi (.var 0) [.tuple])) (.one (.cmp .Gt (.blt .len (.cons (.var 0) .nil)) (.glo "MOST_LINES")))) (.cons (.ret (.bl false)) .nil) .nil) (.cons (.asg 1 .dnew) (.cons (.asg 2 (.int 0)) (.cons (.for_ (.nm 3) (.seq (.var 0)) (.cons (.if_ (.or_ (.not_ (.isi (.var 3) [.tuple])) (.one (.cmp .NotEq (.blt .len (.cons (.var 3) .nil)) (.int 2)))) (.cons (.ret (.bl false)) .nil) .nil) (.cons (.asgT (.tp [(.nm 4), (.nm 5)]) (.var 3)) (.cons (.if_ (.or_ (.not_ (.call "is_atom" (.cons (.var 4) .nil))) (.or_ (.cmp .In (.var 4) (.var 1)) (.one (.not_ (.call "are_unlike_lines" (.cons (.var 5) .nil)))))) (.cons (.ret (.bl false)) .nil) .nil) (.cons (.setI (.var 1) (.var 4) (.bl true)) (.cons (.aug 2 .Add (.blt .len (.cons (.var 5) .nil))) .nil)))))) (.cons (.ret (.cmp .LtE (.var 2) (.glo "MOST_LINES"))) .nil))))), []⟩
/-- atom_banned -/
def f_atom_banned : Fd := ⟨"atom_banned", ["bans", "atom"], ["bans", "atom", "found", "other", "lines", "line"], (.cons (.asg 2 .dnew) (.cons (.for_ (.tp [(.nm 3), (.nm 4)]) (.seq (.var 0)) (.cons (.if_ (.cmp .Eq (.var 3) (.var 1)) (.cons (.for_ (.nm 5) (.seq (.var 4)) (.cons (.setI (.var 2) (.var 5) (.bl true)) .nil)) .nil) .nil) .nil)) (.cons (.ret (.frz (.var 2))) .nil))), []⟩
/-- over_banned -/
def f_over_banned : Fd := ⟨"over_banned", ["result", "argument"], ["result", "argument", "found", "line", "cut"], (.cons (.asg 2 .dnew) (.cons (.for_ (.nm 3) (.seq (.var 0)) (.cons (.for_ (.nm 4) (.rng (.cons (.int 1) (.cons (.blt .len (.cons (.var 3) .nil)) .nil))) (.cons (.if_ (.cmp .NotIn (.slc (.var 3) (.var 4) .nop) (.var 1)) (.cons (.setI (.var 2) (.slc (.var 3) .nop (.var 4)) (.bl true)) .nil) .nil) .nil)) .nil)) (.cons (.ret (.frz (.var 2))) .nil))), []⟩
/-- under_banned -/
def f_under_banned : Fd := ⟨"under_banned", ["argument", "result"], ["argument", "result", "found", "line", "cut"], (.cons (.asg 2 .dnew) (.cons (.for_ (.nm 3) (.seq (.var 1)) (.cons (.for_ (.nm 4) (.rng (.cons (.int 1) (.cons (.blt .len (.cons (.var 3) .nil)) .nil))) (.cons (.if_ (.cmp .NotIn (.slc (.var 3) .nop (.var 4)) (.var 0)) (.cons (.setI (.var 2) (.slc (.var 3) (.var 4) .nop) (.bl true)) .nil) .nil) .nil)) .nil)) (.cons (.ret (.frz (.var 2))) .nil))), []⟩
/-- is_allowed_row -/
def f_is_allowed_row : Fd := ⟨"is_allowed_row", ["line", "first", "second"], ["line", "first", "second", "cut"], (.cons (.ret (.blt .any (.cons (.lc (.rng (.cons (.int 1) (.cons (.blt .len (.cons (.var 0) .nil)) .nil))) (.nm 3) .nop (.and_ (.cmp .NotIn (.slc (.var 0) .nop (.var 3)) (.var 1)) (.one (.cmp .NotIn (.slc (.var 0) (.var 3) .nop) (.var 2)))) [3]) .nil))) .nil), []⟩
/-- allowed_frames -/
def f_allowed_frames : Fd := ⟨"allowed_frames", ["lines", "first", "second"], ["lines", "first", "second", "found", "line", "start", "stop"], (.cons (.asg 3 .dnew) (.cons (.for_ (.nm 4) (.seq (.var 0)) (.cons (.for_ (.nm 5) (.rng (.cons (.blt .len (.cons (.var 4) .nil)) .nil)) (.cons (.for_ (.nm 6) (.rng (.cons (.bin .Add (.var 5) (.int 2)) (.cons (.bin .Add (.blt .len (.cons (.var 4) .nil)) (.int 1)) .nil))) (.cons (.if_ (.call "is_allowed_row" (.cons (.frz (.slc (.var 4) (.var 5) (.var 6))) (.cons (.var 1) (.cons (.var 2) .nil)))) (.cons (.setI (.var 3) (.tup (.cons (.frz (.slc (.var 4) .nop (.var 5))) (.cons (.frz (.slc (.var 4) (.var 6) .nop)) .nil))) (.bl true)) .nil) .nil) .nil)) .nil)) .nil)) (.cons (.ret (.frz (.var 3))) .nil))), []⟩
/-- pair_banned -/
def f_pair_banned : Fd := ⟨"pair_banned", ["bans", "first", "second"], ["bans", "first", "second", "found", "_", "lines", "frames", "line", "start", "stop"], (.cons (.asg 3 .dnew) (.cons (.for_ (.tp [(.nm 4), (.nm 5)]) (.seq (.var 0)) (.cons (.asg 6 (.call "allowed_frames" (.cons (.var 5) (.cons (.var 1) (.cons (.var 2) .nil))))) (.cons (.for_ (.nm 7) (.seq (.var 5)) (.cons (.for_ (.nm 8) (.rng (.cons (.blt .len (.cons (.var 7) .nil)) .nil)) (.cons (.for_ (.nm 9) (.rng (.cons (.bin .Add (.var 8) (.int 1)) (.cons (.bin .Add (.blt .len (.cons (.var 7) .nil)) (.int 1)) .nil))) (.cons (.if_ (.cmp .NotIn (.tup (.cons (.frz (.slc (.var 7) .nop (.var 8))) (.cons (.frz (.slc (.var 7) (.var 9) .nop)) .nil))) (.var 6)) (.cons (.setI (.var 3) (.slc (.var 7) (.var 8) (.var 9)) (.bl true)) .nil) .nil) .nil)) .nil)) .nil)) .nil))) (.cons (.ret (.frz (.var 3))) .nil))), []⟩
/-- kind_banned -/
def f_kind_banned : Fd := ⟨"kind_banned", ["bans", "kind"], ["bans", "kind", "first_banned", "second_banned", "sign", "first", "second"], (.cons (.if_ (.isi (.var 1) [.str]) (.cons (.ret (.call "atom_banned" (.cons (.var 0) (.cons (.var 1) .nil)))) .nil) .nil) (.cons (.asgT (.tp [(.nm 4), (.nm 5), (.nm 6)]) (.var 1)) (.cons (.asg 2 (.call "kind_banned" (.cons (.var 0) (.cons (.var 5) .nil)))) (.cons (.asg 3 (.call "kind_banned" (.cons (.var 0) (.cons (.var 6) .nil)))) (.cons (.if_ (.cmp .Eq (.var 4) (.str "/")) (.cons (.ret (.call "over_banned" (.cons (.var 2) (.cons (.var 3) .nil)))) .nil) .nil) (.cons (.if_ (.cmp .Eq (.var 4) (.str ">")) (.cons (.ret (.call "under_banned" (.cons (.var 2) (.cons (.var 3) .nil)))) .nil) .nil) (.cons (.ret (.call "pair_banned" (.cons (.var 0) (.cons (.var 2) (.cons (.var 3) .nil))))) .nil))))))), []⟩
/-- line_key -/
def f_line_key : Fd := ⟨"line_key", ["line"], ["line"], (.cons (.ret (.tup (.cons (.blt .len (.cons (.var 0) .nil)) (.cons (.var 0) .nil)))) .nil), []⟩
/-- banned_lines -/
def f_banned_lines : Fd := ⟨"banned_lines", ["bans", "kind"], ["bans", "kind"], (.cons (.ret (.blt .tuple (.cons (.srtk "line_key" (.call "kind_banned" (.cons (.var 0) (.cons (.var 1) .nil)))) .nil))) .nil), []⟩
/-- format_part -/
def f_format_part : Fd := ⟨"format_part", ["kind"], ["kind"], (.cons (.if_ (.isi (.var 0) [.str]) (.cons (.ret (.var 0)) .nil) .nil) (.cons (.ret (.bin .Add (.bin .Add (.str "(") (.call "format_kind" (.cons (.var 0) .nil))) (.str ")"))) .nil)), []⟩
/-- format_kind -/
def f_format_kind : Fd := ⟨"format_kind", ["kind"], ["kind", "sign", "first", "second"], (.cons (.if_ (.isi (.var 0) [.str]) (.cons (.ret (.var 0)) .nil) .nil) (.cons (.asgT (.tp [(.nm 1), (.nm 2), (.nm 3)]) (.var 0)) (.cons (.ret (.bin .Add (.bin .Add (.bin .Add (.bin .Add (.call "format_part" (.cons (.var 2) .nil)) (.str " ")) (.var 1)) (.str " ")) (.call "format_part" (.cons (.var 3) .nil)))) .nil))), []⟩
/-- pieces_of -/
def f_pieces_of : Fd := ⟨"pieces_of", ["line", "banned"], ["line", "banned", "reached", "lines", "further", "start", "pieces", "stop"], (.cons (.asg 2 (.frz (.dsp [.inl 0] (.cons (.tup .nil) .nil)))) (.cons (.for_ (.nm 3) (.seq (.var 1)) (.cons (.asg 4 .dnew) (.cons (.for_ (.tp [(.nm 5), (.nm 6)]) (.dit (.var 2)) (.cons (.for_ (.nm 7) (.rng (.cons (.bin .Add (.var 5) (.int 1)) (.cons (.bin .Add (.blt .len (.cons (.var 0) .nil)) (.int 1)) .nil))) (.cons (.if_ (.and_ (.cmp .NotIn (.slc (.var 0) (.var 5) (.var 7)) (.var 3)) (.one (.cmp .NotIn (.var 7) (.var 4)))) (.cons (.setI (.var 4) (.var 7) (.bin .Add (.var 6) (.tup (.cons (.frz (.slc (.var 0) (.var 5) (.var 7))) .nil)))) .nil) .nil) .nil)) .nil)) (.cons (.asg 2 (.frz (.var 4))) .nil)))) (.cons (.ret (.dget (.var 2) (.cons (.blt .len (.cons (.var 0) .nil)) .nil))) .nil))), []⟩
/-- Truth.banned_by -/
def f_Truth_banned_by : Fd := ⟨"Truth.banned_by", ["self", "kind", "self.bans", "self.banned"], ["self", "kind", "self.bans", "self.banned", "key"], (.cons (.asg 4 (.call "format_kind" (.cons (.var 1) .nil))) (.cons (.if_ (.cmp .NotIn (.var 4) (.var 3)) (.cons (.setI (.var 3) (.var 4) (.call "kind_banned" (.cons (.var 2) (.cons (.var 1) .nil)))) .nil) .nil) (.cons (.ret (.ix (.var 3) (.var 4))) .nil))), ["bans", "banned"]⟩
/-- Truth.failing -/
def f_Truth_failing : Fd := ⟨"Truth.failing", ["self", "sequent", "self.bans", "self.banned"], ["self", "sequent", "self.bans", "self.banned", "banned", "line", "premises", "goal", "pieces", "premise"], (.cons (.asgT (.tp [(.nm 6), (.nm 7)]) (.var 1)) (.cons (.asg 4 (.frz (.lc (.seq (.var 6)) (.nm 9) .nop (.mcl "Truth.banned_by" [2, 3] (.cons (.var 9) .nil)) [9]))) (.cons (.for_ (.nm 5) (.seq (.mcl "Truth.banned_by" [2, 3] (.cons (.var 7) .nil))) (.cons (.asg 8 (.call "pieces_of" (.cons (.var 5) (.cons (.var 4) .nil)))) (.cons (.if_ (.cmp .IsNot (.var 8) .non) (.cons (.ret (.var 8)) .nil) .nil) .nil))) (.cons (.ret .non) .nil)))), ["bans", "banned"]⟩
/-- failing_lines -/
def f_failing_lines : Fd := ⟨"failing_lines", ["bans", "sequent"], ["bans", "sequent"], (.cons (.ret (.obc "Truth.failing" [.arg 0, .dict] (.cons (.var 0) .nil) (.cons (.var 1) .nil))) .nil), []⟩
/-- holds -/
def f_holds : Fd := ⟨"holds", ["bans", "sequent"], ["bans", "sequent"], (.cons (.ret (.cmp .Is (.call "failing_lines" (.cons (.var 0) (.cons (.var 1) .nil))) .non)) .nil), []⟩
/-- _law_stir -/
def f_law_stir : Fd := ⟨"_law_stir", ["seed", "turn"], ["seed", "turn", "x"], (.cons (.asg 2 (.bin .Mod (.blt .int (.cons (.bin .Add (.bin .Add (.bin .Mult (.var 0) (.int 7681)) (.bin .Mult (.var 1) (.int 104711))) (.int 31)) .nil)) (.int 2147483647))) (.cons (.asg 2 (.bin .Mod (.blt .int (.cons (.bin .Add (.bin .Add (.bin .Mult (.var 2) (.var 2)) (.bin .Mult (.int 12289) (.var 1))) (.int 5)) .nil)) (.int 2147483629))) (.cons (.asg 2 (.bin .Mod (.blt .int (.cons (.bin .Add (.bin .Add (.bin .Mult (.var 2) (.var 2)) (.var 0)) (.int 786433)) .nil)) (.int 2147483587))) (.cons (.ret (.bin .FloorDiv (.var 2) (.int 32))) .nil)))), []⟩
/-- _law_source -/
def f_law_source : Fd := ⟨"_law_source", ["script", "k"], ["script", "k", "cell"], (.cons (.asg 2 (.int 0)) (.cons (.if_ (.cmp .Lt (.var 1) (.blt .len (.cons (.var 0) .nil))) (.cons (.asg 2 (.blt .int (.cons (.ix (.var 0) (.var 1)) .nil))) .nil) .nil) (.cons (.if_ (.cmp .GtE (.var 2) (.bin .Pow (.int 10) (.int 18))) (.cons (.ret (.lst (.cons (.bin .Sub (.var 2) (.bin .Pow (.int 10) (.int 18))) (.cons (.bin .Add (.var 1) (.int 1)) (.cons (.int 0) .nil))))) .nil) .nil) (.cons (.ret (.lst (.cons (.int 0) (.cons (.bin .Add (.bin .Add (.bin .Mult (.bin .Mod (.blt .int (.cons (.blt .abs (.cons (.var 2) .nil)) .nil)) (.int 1999999973)) (.int 61)) (.var 1)) (.int 1)) (.cons (.int 0) .nil))))) .nil)))), []⟩
/-- _law_take -/
def f_law_take : Fd := ⟨"_law_take", ["source", "many"], ["source", "many", "digit"], (.cons (.if_ (.cmp .Gt (.ix (.var 0) (.int 0)) (.int 0)) (.cons (.asg 2 (.bin .Mod (.blt .int (.cons (.ix (.var 0) (.int 0)) .nil)) (.var 1))) (.cons (.setI (.var 0) (.int 0) (.bin .FloorDiv (.ix (.var 0) (.int 0)) (.var 1))) (.cons (.ret (.var 2)) .nil))) .nil) (.cons (.setI (.var 0) (.int 2) (.bin .Add (.ix (.var 0) (.int 2)) (.int 1))) (.cons (.ret (.bin .Mod (.blt .int (.cons (.call "_law_stir" (.cons (.ix (.var 0) (.int 1)) (.cons (.ix (.var 0) (.int 2)) .nil))) .nil)) (.var 1))) .nil))), []⟩
/-- _law_atom -/
def f_law_atom : Fd := ⟨"_law_atom", ["source"], ["source", "letters", "atom", "k"], (.cons (.asg 1 (.str "abcdefghijklmnopqrstuvwxyz")) (.cons (.asg 2 (.ix (.var 1) (.call "_law_take" (.cons (.var 0) (.cons (.int 26) .nil))))) (.cons (.for_ (.nm 3) (.rng (.cons (.ix (.lst (.cons (.int 0) (.cons (.int 0) (.cons (.int 1) (.cons (.int 7) .nil))))) (.call "_law_take" (.cons (.var 0) (.cons (.int 4) .nil)))) .nil)) (.cons (.asg 2 (.frz (.bin .Add (.var 2) (.ix (.bin .Add (.var 1) (.str "0123456789")) (.call "_law_take" (.cons (.var 0) (.cons (.int 36) .nil))))))) .nil)) (.cons (.ret (.var 2)) .nil)))), []⟩
/-- _law_base -/
def f_law_base : Fd := ⟨"_law_base", ["atom"], ["atom"], (.cons (.ret (.ix (.bm .partition (.var 0) (.cons (.str ".") .nil)) (.int 0))) .nil), []⟩
/-- _law_names -/
def f_law_names : Fd := ⟨"_law_names", ["source", "many"], ["source", "many", "names", "k", "atom"], (.cons (.asg 2 (.lst .nil)) (.cons (.for_ (.nm 3) (.rng (.cons (.var 1) .nil)) (.cons (.asg 4 (.call "_law_atom" (.cons (.var 0) .nil))) (.cons (.if_ (.cmp .Eq (.call "_law_take" (.cons (.var 0) (.cons (.int 3) .nil))) (.int 0)) (.cons (.if_ (.cmp .Gt (.var 3) (.int 0)) (.cons (.asg 4 (.call "_law_base" (.cons (.ix (.var 2) (.int 0)) .nil))) .nil) .nil) (.cons (.asg 4 (.bin .Add (.bin .Add (.var 4) (.str ".")) (.blt .str (.cons (.bin .Add (.int 1) (.call "_law_take" (.cons (.var 0) (.cons (.ix (.lst (.cons (.int 9) (.cons (.int 999999) .nil))) (.call "_law_take" (.cons (.var 0) (.cons (.int 2) .nil)))) .nil)))) .nil)))) .nil)) .nil) (.cons (.ex (.mth .append (.var 2) (.cons (.var 4) .nil))) .nil)))) (.cons (.ret (.frz (.var 2))) .nil))), []⟩
/-- _law_size -/
def f_law_size : Fd := ⟨"_law_size", ["kind"], ["kind"], (.cons (.if_ (.not_ (.isi (.var 0) [.tuple])) (.cons (.ret (.int 1)) .nil) .nil) (.cons (.ret (.frz (.bin .Add (.call "_law_size" (.cons (.ix (.var 0) (.int 1)) .nil)) (.call "_law_size" (.cons (.ix (.var 0) (.int 2)) .nil))))) .nil)), []⟩
/-- _law_leaves -/
def f_law_leaves : Fd := ⟨"_law_leaves", ["kind"], ["kind"], (.cons (.if_ (.not_ (.isi (.var 0) [.tuple])) (.cons (.ret (.frz (.lst (.cons (.var 0) .nil)))) .nil) .nil) (.cons (.ret (.frz (.bin .Add (.call "_law_leaves" (.cons (.ix (.var 0) (.int 1)) .nil)) (.call "_law_leaves" (.cons (.ix (.var 0) (.int 2)) .nil))))) .nil)), []⟩
/-- _law_spots -/
def f_law_spots : Fd := ⟨"_law_spots", ["line"], ["line", "found", "kind"], (.cons (.asg 1 (.lst .nil)) (.cons (.for_ (.nm 2) (.seq (.bin .Add (.ix (.var 0) (.int 0)) (.tup (.cons (.ix (.var 0) (.int 1)) .nil)))) (.cons (.asg 1 (.bin .Add (.var 1) (.call "_law_leaves" (.cons (.var 2) .nil)))) .nil)) (.cons (.ret (.var 1)) .nil))), []⟩
/-- _law_bush -/
def f_law_bush : Fd := ⟨"_law_bush", ["source", "names", "size"], ["source", "names", "size", "left", "sign", "first"], (.cons (.if_ (.cmp .LtE (.var 2) (.int 1)) (.cons (.ret (.ix (.var 1) (.call "_law_take" (.cons (.var 0) (.cons (.blt .len (.cons (.var 1) .nil)) .nil))))) .nil) .nil) (.cons (.asg 3 (.bin .Add (.int 1) (.call "_law_take" (.cons (.var 0) (.cons (.bin .Sub (.var 2) (.int 1)) .nil))))) (.cons (.asg 4 (.ix (.str "/>*") (.call "_law_take" (.cons (.var 0) (.cons (.int 3) .nil))))) (.cons (.asg 5 (.call "_law_bush" (.cons (.var 0) (.cons (.var 1) (.cons (.var 3) .nil))))) (.cons (.ret (.tup (.cons (.var 4) (.cons (.var 5) (.cons (.call "_law_bush" (.cons (.var 0) (.cons (.var 1) (.cons (.bin .Sub (.var 2) (.var 3)) .nil)))) .nil))))) .nil))))), []⟩
/-- _law_bushes -/
def f_law_bushes : Fd := ⟨"_law_bushes", ["source", "names", "many", "cap", "most"], ["source", "names", "many", "cap", "most", "row", "left", "k", "size"], (.cons (.asg 5 (.lst .nil)) (.cons (.asg 6 (.var 4)) (.cons (.for_ (.nm 7) (.rng (.cons (.bin .Add (.var 2) (.int 1)) .nil)) (.cons (.asg 8 (.bin .Add (.int 1) (.call "_law_take" (.cons (.var 0) (.cons (.blt .max (.cons (.int 1) (.cons (.blt .min (.cons (.var 3) (.cons (.bin .Add (.bin .Sub (.var 6) (.var 2)) (.var 7)) .nil))) .nil))) .nil))))) (.cons (.asg 6 (.bin .Sub (.var 6) (.var 8))) (.cons (.ex (.mth .append (.var 5) (.cons (.call "_law_bush" (.cons (.var 0) (.cons (.var 1) (.cons (.var 8) .nil)))) .nil))) .nil)))) (.cons (.ret (.tup (.cons (.blt .tuple (.cons (.slc (.var 5) (.int 1) .nop) .nil)) (.cons (.ix (.var 5) (.int 0)) .nil)))) .nil)))), []⟩
/-- _law_poured -/
def f_law_poured : Fd := ⟨"_law_poured", ["kind", "rest"], ["kind", "rest", "first"], (.cons (.if_ (.not_ (.isi (.var 0) [.tuple])) (.cons (.ret (.mth .pop (.var 1) .nil)) .nil) .nil) (.cons (.asg 2 (.call "_law_poured" (.cons (.ix (.var 0) (.int 1)) (.cons (.var 1) .nil)))) (.cons (.ret (.tup (.cons (.ix (.var 0) (.int 0)) (.cons (.var 2) (.cons (.call "_law_poured" (.cons (.ix (.var 0) (.int 2)) (.cons (.var 1) .nil))) .nil))))) .nil))), []⟩
/-- _law_refilled -/
def f_law_refilled : Fd := ⟨"_law_refilled", ["line", "atoms"], ["line", "atoms", "rest", "row", "kind"], (.cons (.asg 2 (.lrev (.var 1))) (.cons (.asg 3 (.lst .nil)) (.cons (.for_ (.nm 4) (.seq (.ix (.var 0) (.int 0))) (.cons (.ex (.mth .append (.var 3) (.cons (.call "_law_poured" (.cons (.var 4) (.cons (.var 2) .nil))) .nil))) .nil)) (.cons (.ret (.tup (.cons (.blt .tuple (.cons (.var 3) .nil)) (.cons (.call "_law_poured" (.cons (.ix (.var 0) (.int 1)) (.cons (.var 2) .nil))) .nil)))) .nil)))), []⟩
/-- _law_below -/
def f_law_below : Fd := ⟨"_law_below", ["rule", "at", "lines"], ["rule", "at", "lines", "wide", "row", "goal", "inner", "met", "spot"], (.cons (.asgT (.tp [(.nm 4), (.nm 5)]) (.ix (.var 2) (.neg (.int 1)))) (.cons (.if_ (.cmp .Eq (.blt .len (.cons (.var 2) .nil)) (.int 1)) (.cons (.if_ (.and_ (.cmp .Eq (.var 0) (.str "over right")) (.and_ (.cmp .Eq (.var 1) (.int 0)) (.one (.cmp .Gt (.blt .len (.cons (.var 4) .nil)) (.int 1))))) (.cons (.ret (.tup (.cons (.frz (.slc (.var 4) .nop (.neg (.int 1)))) (.cons (.tup (.cons (.str "/") (.cons (.var 5) (.cons (.ix (.var 4) (.neg (.int 1))) .nil)))) (.cons (.int 0) .nil))))) .nil) .nil) (.cons (.if_ (.and_ (.cmp .Eq (.var 0) (.str "under right")) (.and_ (.cmp .Eq (.var 1) (.int 0)) (.one (.cmp .Gt (.blt .len (.cons (.var 4) .nil)) (.int 1))))) (.cons (.ret (.tup (.cons (.frz (.slc (.var 4) (.int 1) .nop)) (.cons (.tup (.cons (.str ">") (.cons (.ix (.var 4) (.int 0)) (.cons (.var 5) .nil)))) (.cons (.int 0) .nil))))) .nil) .nil) (.cons (.if_ (.and_ (.cmp .Eq (.var 0) (.str "pair left")) (.one (.chn .LtE .Lt (.int 0) (.var 1) (.bin .Sub (.blt .len (.cons (.var 4) .nil)) (.int 1))))) (.cons (.ret (.tup (.cons (.bin .Add (.bin .Add (.slc (.var 4) .nop (.var 1)) (.tup (.cons (.tup (.cons (.str "*") (.cons (.ix (.var 4) (.var 1)) (.cons (.ix (.var 4) (.bin .Add (.var 1) (.int 1))) .nil)))) .nil))) (.slc (.var 4) (.bin .Add (.var 1) (.int 2)) .nop)) (.cons (.var 5) (.cons (.int 0) .nil))))) .nil) .nil) (.cons (.ret .non) .nil)))) .nil) (.cons (.asgT (.tp [(.nm 6), (.nm 7)]) (.ix (.var 2) (.int 0))) (.cons (.asg 3 (.blt .len (.cons (.var 6) .nil))) (.cons (.if_ (.and_ (.cmp .Eq (.var 0) (.str "pair right")) (.one (.cmp .Eq (.var 1) (.var 3)))) (.cons (.ret (.tup (.cons (.frz (.bin .Add (.var 6) (.var 4))) (.cons (.tup (.cons (.str "*") (.cons (.var 7) (.cons (.var 5) .nil)))) (.cons (.int 0) .nil))))) .nil) .nil) (.cons (.if_ (.and_ (.cmp .Eq (.var 0) (.str "over left")) (.one (.chn .LtE .Lt (.int 0) (.var 1) (.blt .len (.cons (.var 4) .nil))))) (.cons (.ret (.tup (.cons (.bin .Add (.bin .Add (.bin .Add (.slc (.var 4) .nop (.var 1)) (.tup (.cons (.tup (.cons (.str "/") (.cons (.ix (.var 4) (.var 1)) (.cons (.var 7) .nil)))) .nil))) (.var 6)) (.slc (.var 4) (.bin .Add (.var 1) (.int 1)) .nop)) (.cons (.var 5) (.cons (.var 3) .nil))))) .nil) .nil) (.cons (.if_ (.and_ (.cmp .Eq (.var 0) (.str "under left")) (.one (.chn .LtE .Lt (.int 0) (.bin .Sub (.var 1) (.var 3)) (.blt .len (.cons (.var 4) .nil))))) (.cons (.asg 8 (.bin .Sub (.var 1) (.var 3))) (.cons (.ret (.tup (.cons (.bin .Add (.bin .Add (.bin .Add (.slc (.var 4) .nop (.var 8)) (.var 6)) (.tup (.cons (.tup (.cons (.str ">") (.cons (.var 7) (.cons (.ix (.var 4) (.var 8)) .nil)))) .nil))) (.slc (.var 4) (.bin .Add (.var 8) (.int 1)) .nop)) (.cons (.var 5) (.cons (.var 3) .nil))))) .nil)) .nil) (.cons (.if_ (.and_ (.cmp .Eq (.var 0) (.str "cut")) (.and_ (.chn .LtE .Lt (.int 0) (.var 1) (.blt .len (.cons (.var 4) .nil))) (.one (.cmp .Eq (.ix (.var 4) (.var 1)) (.var 7))))) (.cons (.ret (.tup (.cons (.frz (.bin .Add (.bin .Add (.slc (.var 4) .nop (.var 1)) (.var 6)) (.slc (.var 4) (.bin .Add (.var 1) (.int 1)) .nop))) (.cons (.var 5) (.cons (.var 3) .nil))))) .nil) .nil) (.cons (.ret .non) .nil))))))))), []⟩
/-- _law_axiom -/
def f_law_axiom : Fd := ⟨"_law_axiom", ["atom"], ["atom"], (.cons (.ret (.tup (.cons (.str "axiom") (.cons (.tup (.cons (.var 0) .nil)) (.cons (.var 0) (.cons (.int 0) (.cons (.int 0) (.cons (.tup .nil) .nil)))))))) .nil), []⟩
/-- _law_step -/
def f_law_step : Fd := ⟨"_law_step", ["rule", "at", "parts"], ["rule", "at", "parts", "made", "part"], (.cons (.asg 3 (.call "_law_below" (.cons (.var 0) (.cons (.var 1) (.cons (.frz (.lc (.seq (.var 2)) (.nm 4) .nop (.tup (.cons (.ix (.var 4) (.int 1)) (.cons (.ix (.var 4) (.int 2)) .nil))) [4])) .nil))))) (.cons (.if_ (.cmp .Is (.var 3) .non) (.cons (.ret .non) .nil) .nil) (.cons (.ret (.tup (.cons (.var 0) (.cons (.ix (.var 3) (.int 0)) (.cons (.ix (.var 3) (.int 1)) (.cons (.var 1) (.cons (.ix (.var 3) (.int 2)) (.cons (.blt .tuple (.cons (.var 2) .nil)) .nil)))))))) .nil))), []⟩
/-- _law_grown -/
def f_law_grown : Fd := ⟨"_law_grown", ["source", "names", "leaves"], ["source", "names", "leaves", "turn", "paper", "left", "one", "two", "way", "at"], (.cons (.if_ (.cmp .LtE (.var 2) (.int 1)) (.cons (.asg 4 (.call "_law_axiom" (.cons (.ix (.var 1) (.call "_law_take" (.cons (.var 0) (.cons (.blt .len (.cons (.var 1) .nil)) .nil)))) .nil))) .nil) (.cons (.asg 5 (.bin .Add (.int 1) (.call "_law_take" (.cons (.var 0) (.cons (.bin .Sub (.var 2) (.int 1)) .nil))))) (.cons (.asg 6 (.call "_law_grown" (.cons (.var 0) (.cons (.var 1) (.cons (.var 5) .nil))))) (.cons (.asg 7 (.call "_law_grown" (.cons (.var 0) (.cons (.var 1) (.cons (.bin .Sub (.var 2) (.var 5)) .nil))))) (.cons (.asg 8 (.call "_law_take" (.cons (.var 0) (.cons (.int 5) .nil)))) (.cons (.asg 9 (.call "_law_take" (.cons (.var 0) (.cons (.blt .len (.cons (.ix (.var 7) (.int 1)) .nil)) .nil)))) (.cons (.if_ (.cmp .Eq (.var 8) (.int 4)) (.cons (.asg 4 (.call "_law_step" (.cons (.str "pair right") (.cons (.blt .len (.cons (.ix (.var 6) (.int 1)) .nil)) (.cons (.frz (.lst (.cons (.var 6) (.cons (.var 7) .nil)))) .nil))))) .nil) (.cons (.if_ (.cmp .Gt (.var 8) (.int 1)) (.cons (.asg 4 (.call "_law_step" (.cons (.str "over left") (.cons (.var 9) (.cons (.frz (.lst (.cons (.var 6) (.cons (.var 7) .nil)))) .nil))))) .nil) (.cons (.asg 4 (.call "_law_step" (.cons (.str "under left") (.cons (.bin .Add (.var 9) (.blt .len (.cons (.ix (.var 6) (.int 1)) .nil))) (.cons (.frz (.lst (.cons (.var 6) (.cons (.var 7) .nil)))) .nil))))) .nil)) .nil)) .nil))))))) (.cons (.for_ (.nm 3) (.rng (.cons (.int 3) .nil)) (.cons (.asg 4 (.call "_law_turned" (.cons (.var 4) (.cons (.call "_law_take" (.cons (.var 0) (.cons (.int 9) .nil))) (.cons (.call "_law_take" (.cons (.var 0) (.cons (.int 40) .nil))) .nil))))) .nil)) (.cons (.ret (.var 4)) .nil))), []⟩
/-- _law_turned -/
def f_law_turned : Fd := ⟨"_law_turned", ["paper", "way", "at"], ["paper", "way", "at", "many", "made", "kind"], (.cons (.asg 3 (.blt .len (.cons (.ix (.var 0) (.int 1)) .nil))) (.cons (.if_ (.or_ (.cmp .Gt (.var 1) (.int 2)) (.one (.cmp .Lt (.var 3) (.int 2)))) (.cons (.ret (.var 0)) .nil) .nil) (.cons (.if_ (.cmp .Eq (.var 1) (.int 0)) (.cons (.asg 4 (.call "_law_step" (.cons (.str "over right") (.cons (.int 0) (.cons (.frz (.lst (.cons (.var 0) .nil))) .nil))))) .nil) (.cons (.if_ (.cmp .Eq (.var 1) (.int 1)) (.cons (.asg 4 (.call "_law_step" (.cons (.str "under right") (.cons (.int 0) (.cons (.frz (.lst (.cons (.var 0) .nil))) .nil))))) .nil) (.cons (.asg 4 (.call "_law_step" (.cons (.str "pair left") (.cons (.bin .Mod (.blt .int (.cons (.var 2) .nil)) (.bin .Sub (.var 3) (.int 1))) (.cons (.frz (.lst (.cons (.var 0) .nil))) .nil))))) .nil)) .nil)) (.cons (.if_ (.cmp .Gt (.blt .max (.cons (.lc (.seq (.bin .Add (.ix (.var 4) (.int 1)) (.tup (.cons (.ix (.var 4) (.int 2)) .nil)))) (.nm 5) .nop (.call "_law_size" (.cons (.var 5) .nil)) [5]) .nil)) (.int 40)) (.cons (.ret (.var 0)) .nil) .nil) (.cons (.ret (.var 4)) .nil))))), []⟩
/-- _law_is_whole -/
def f_law_is_whole : Fd := ⟨"_law_is_whole", ["told"], ["told"], (.cons (.ret (.and_ (.isi (.var 0) [.int]) (.one (.not_ (.isi (.var 0) [.bool]))))) .nil), []⟩
/-- _law_alike -/
def f_law_alike : Fd := ⟨"_law_alike", ["told", "due"], ["told", "due", "k"], (.cons (.if_ (.isi (.var 1) [.tuple]) (.cons (.if_ (.or_ (.not_ (.isi (.var 0) [.tuple])) (.one (.cmp .NotEq (.blt .len (.cons (.var 0) .nil)) (.blt .len (.cons (.var 1) .nil))))) (.cons (.ret (.bl false)) .nil) .nil) (.cons (.for_ (.nm 2) (.rng (.cons (.blt .len (.cons (.var 1) .nil)) .nil)) (.cons (.if_ (.not_ (.call "_law_alike" (.cons (.ix (.var 0) (.var 2)) (.cons (.ix (.var 1) (.var 2)) .nil)))) (.cons (.ret (.bl false)) .nil) .nil) .nil)) (.cons (.ret (.bl true)) .nil))) .nil) (.cons (.if_ (.isi (.var 1) [.int]) (.cons (.ret (.and_ (.isi (.var 0) [.int]) (.and_ (.cmp .Eq (.isi (.var 0) [.bool]) (.isi (.var 1) [.bool])) (.one (.cmp .Eq (.var 0) (.var 1)))))) .nil) .nil) (.cons (.ret (.and_ (.isi (.var 0) [.str]) (.and_ (.isi (.var 1) [.str]) (.one (.cmp .Eq (.var 0) (.var 1)))))) .nil))), []⟩
/-- _law_pair_bans -/
def f_law_pair_bans : Fd := ⟨"_law_pair_bans", ["bans", "one", "two"], ["bans", "one", "two", "found", "pair", "good", "line", "i", "j", "halves", "k"], (.cons (.asg 3 .dnew) (.cons (.for_ (.nm 4) (.seq (.var 0)) (.cons (.asg 5 .dnew) (.cons (.for_ (.nm 6) (.seq (.ix (.var 4) (.int 1))) (.cons (.for_ (.nm 7) (.rng (.cons (.blt .len (.cons (.var 6) .nil)) .nil)) (.cons (.for_ (.nm 8) (.rng (.cons (.bin .Add (.var 7) (.int 2)) (.cons (.bin .Add (.blt .len (.cons (.var 6) .nil)) (.int 1)) .nil))) (.cons (.asg 9 (.frz (.lc (.rng (.cons (.bin .Add (.var 7) (.int 1)) (.cons (.var 8) .nil))) (.nm 10) (.and_ (.cmp .NotIn (.slc (.var 6) (.var 7) (.var 10)) (.var 1)) (.one (.cmp .NotIn (.slc (.var 6) (.var 10) (.var 8)) (.var 2)))) (.var 10) [10]))) (.cons (.if_ (.cmp .Gt (.blt .len (.cons (.var 9) .nil)) (.int 0)) (.cons (.setI (.var 5) (.tup (.cons (.frz (.slc (.var 6) .nop (.var 7))) (.cons (.frz (.slc (.var 6) (.var 8) .nop)) .nil))) (.bl true)) .nil) .nil) .nil))) .nil)) .nil)) (.cons (.for_ (.nm 6) (.seq (.ix (.var 4) (.int 1))) (.cons (.for_ (.nm 7) (.rng (.cons (.blt .len (.cons (.var 6) .nil)) .nil)) (.cons (.for_ (.nm 8) (.rng (.cons (.bin .Add (.var 7) (.int 1)) (.cons (.bin .Add (.blt .len (.cons (.var 6) .nil)) (.int 1)) .nil))) (.cons (.if_ (.cmp .NotIn (.tup (.cons (.frz (.slc (.var 6) .nop (.var 7))) (.cons (.frz (.slc (.var 6) (.var 8) .nop)) .nil))) (.var 5)) (.cons (.setI (.var 3) (.slc (.var 6) (.var 7) (.var 8)) (.bl true)) .nil) .nil) .nil)) .nil)) .nil)) .nil)))) (.cons (.ret (.frz (.var 3))) .nil))), []⟩
/-- _law_kind_bans -/
def f_law_kind_bans : Fd := ⟨"_law_kind_bans", ["bans", "kind"], ["bans", "kind", "found", "one", "two", "line", "pair", "k"], (.cons (.asg 2 .dnew) (.cons (.if_ (.not_ (.isi (.var 1) [.tuple])) (.cons (.for_ (.nm 6) (.seq (.var 0)) (.cons (.if_ (.cmp .Eq (.ix (.var 6) (.int 0)) (.var 1)) (.cons (.for_ (.nm 5) (.seq (.ix (.var 6) (.int 1))) (.cons (.setI (.var 2) (.var 5) (.bl true)) .nil)) .nil) .nil) .nil)) (.cons (.ret (.frz (.var 2))) .nil)) .nil) (.cons (.asg 3 (.call "_law_kind_bans" (.cons (.var 0) (.cons (.ix (.var 1) (.int 1)) .nil)))) (.cons (.asg 4 (.call "_law_kind_bans" (.cons (.var 0) (.cons (.ix (.var 1) (.int 2)) .nil)))) (.cons (.if_ (.cmp .Eq (.ix (.var 1) (.int 0)) (.str "*")) (.cons (.ret (.call "_law_pair_bans" (.cons (.var 0) (.cons (.var 3) (.cons (.var 4) .nil))))) .nil) .nil) (.cons (.if_ (.cmp .Eq (.ix (.var 1) (.int 0)) (.str "/")) (.cons (.for_ (.nm 5) (.seq (.var 3)) (.cons (.for_ (.nm 7) (.rng (.cons (.int 1) (.cons (.blt .len (.cons (.var 5) .nil)) .nil))) (.cons (.if_ (.cmp .NotIn (.slc (.var 5) (.var 7) .nop) (.var 4)) (.cons (.setI (.var 2) (.slc (.var 5) .nop (.var 7)) (.bl true)) .nil) .nil) .nil)) .nil)) (.cons (.ret (.frz (.var 2))) .nil)) .nil) (.cons (.for_ (.nm 5) (.seq (.var 4)) (.cons (.for_ (.nm 7) (.rng (.cons (.int 1) (.cons (.blt .len (.cons (.var 5) .nil)) .nil))) (.cons (.if_ (.cmp .NotIn (.slc (.var 5) .nop (.var 7)) (.var 3)) (.cons (.setI (.var 2) (.slc (.var 5) (.var 7) .nop) (.bl true)) .nil) .nil) .nil)) .nil)) (.cons (.ret (.frz (.var 2))) .nil)))))))), []⟩
/-- _law_ordered -/
def f_law_ordered : Fd := ⟨"_law_ordered", ["lines"], ["lines", "keyed", "line", "size"], (.cons (.asg 1 (.frz (.blt .sorted (.cons (.lc (.seq (.var 0)) (.nm 2) .nop (.tup (.cons (.blt .len (.cons (.var 2) .nil)) (.cons (.var 2) .nil))) [2]) .nil)))) (.cons (.ret (.blt .tuple (.cons (.lc (.seq (.var 1)) (.tp [(.nm 3), (.nm 2)]) .nop (.var 2) [3, 2]) .nil))) .nil)), []⟩
/-- _law_cuttable -/
def f_law_cuttable : Fd := ⟨"_law_cuttable", ["line", "banned"], ["line", "banned", "reach", "lines", "further", "stop", "start"], (.cons (.asg 2 (.frz (.lst (.cons (.int 0) .nil)))) (.cons (.for_ (.nm 3) (.seq (.var 1)) (.cons (.asg 4 (.lst .nil)) (.cons (.for_ (.nm 5) (.rng (.cons (.int 1) (.cons (.bin .Add (.blt .len (.cons (.var 0) .nil)) (.int 1)) .nil))) (.cons (.if_ (.cmp .Gt (.blt .len (.cons (.lc (.seq (.var 2)) (.nm 6) (.and_ (.cmp .Lt (.var 6) (.var 5)) (.one (.cmp .NotIn (.slc (.var 0) (.var 6) (.var 5)) (.var 3)))) (.var 6) [6]) .nil)) (.int 0)) (.cons (.ex (.mth .append (.var 4) (.cons (.var 5) .nil))) .nil) .nil) .nil)) (.cons (.asg 2 (.frz (.var 4))) .nil)))) (.cons (.ret (.cmp .In (.blt .len (.cons (.var 0) .nil)) (.var 2))) .nil))), []⟩
/-- _law_fails -/
def f_law_fails : Fd := ⟨"_law_fails", ["bans", "line"], ["bans", "line", "banned", "row", "kind"], (.cons (.asg 2 (.frz (.lc (.seq (.ix (.var 1) (.int 0))) (.nm 4) .nop (.call "_law_kind_bans" (.cons (.var 0) (.cons (.var 4) .nil))) [4]))) (.cons (.for_ (.nm 3) (.seq (.call "_law_kind_bans" (.cons (.var 0) (.cons (.ix (.var 1) (.int 1)) .nil)))) (.cons (.if_ (.call "_law_cuttable" (.cons (.var 3) (.cons (.var 2) .nil))) (.cons (.ret (.bl true)) .nil) .nil) .nil)) (.cons (.ret (.bl false)) .nil))), []⟩
/-- _law_shows -/
def f_law_shows : Fd := ⟨"_law_shows", ["bans", "line", "told"], ["bans", "line", "told", "joined", "k", "mark"], (.cons (.if_ (.or_ (.not_ (.isi (.var 2) [.tuple])) (.one (.cmp .NotEq (.blt .len (.cons (.var 2) .nil)) (.blt .len (.cons (.ix (.var 1) (.int 0)) .nil))))) (.cons (.ret (.bl false)) .nil) .nil) (.cons (.asg 3 (.tup .nil)) (.cons (.for_ (.nm 4) (.rng (.cons (.blt .len (.cons (.var 2) .nil)) .nil)) (.cons (.if_ (.or_ (.not_ (.isi (.ix (.var 2) (.var 4)) [.tuple])) (.or_ (.cmp .Eq (.blt .len (.cons (.ix (.var 2) (.var 4)) .nil)) (.int 0)) (.one (.cmp .Gt (.blt .len (.cons (.ix (.var 2) (.var 4)) .nil)) (.int 100))))) (.cons (.ret (.bl false)) .nil) .nil) (.cons (.if_ (.cmp .Gt (.blt .len (.cons (.lc (.seq (.ix (.var 2) (.var 4))) (.nm 5) (.not_ (.call "_law_is_whole" (.cons (.var 5) .nil))) (.var 5) [5]) .nil)) (.int 0)) (.cons (.ret (.bl false)) .nil) .nil) (.cons (.if_ (.cmp .In (.ix (.var 2) (.var 4)) (.call "_law_kind_bans" (.cons (.var 0) (.cons (.ix (.ix (.var 1) (.int 0)) (.var 4)) .nil)))) (.cons (.ret (.bl false)) .nil) .nil) (.cons (.asg 3 (.frz (.bin .Add (.var 3) (.ix (.var 2) (.var 4))))) .nil))))) (.cons (.ret (.cmp .In (.var 3) (.call "_law_kind_bans" (.cons (.var 0) (.cons (.ix (.var 1) (.int 1)) .nil))))) .nil)))), []⟩
/-- _law_is_truth -/
def f_law_is_truth : Fd := ⟨"_law_is_truth", ["told", "due"], ["told", "due"], (.cons (.ret (.and_ (.isi (.var 0) [.bool]) (.one (.cmp .Eq (.var 0) (.var 1))))) .nil), []⟩
/-- _law_move -/
def f_law_move : Fd := ⟨"_law_move", ["line", "way", "at"], ["line", "way", "at", "sign", "row", "goal"], (.cons (.asgT (.tp [(.nm 4), (.nm 5)]) (.var 0)) (.cons (.asg 3 (.str "none")) (.cons (.if_ (.isi (.var 5) [.tuple]) (.cons (.asg 3 (.ix (.var 5) (.int 0))) .nil) .nil) (.cons (.if_ (.and_ (.cmp .Eq (.var 1) (.int 0)) (.one (.cmp .Gt (.blt .len (.cons (.var 4) .nil)) (.int 1)))) (.cons (.ret (.tup (.cons (.frz (.slc (.var 4) .nop (.neg (.int 1)))) (.cons (.tup (.cons (.str "/") (.cons (.var 5) (.cons (.ix (.var 4) (.neg (.int 1))) .nil)))) .nil)))) .nil) .nil) (.cons (.if_ (.and_ (.cmp .Eq (.var 1) (.int 1)) (.one (.cmp .Eq (.var 3) (.str "/")))) (.cons (.ret (.tup (.cons (.bin .Add (.var 4) (.tup (.cons (.ix (.var 5) (.int 2)) .nil))) (.cons (.ix (.var 5) (.int 1)) .nil)))) .nil) .nil) (.cons (.if_ (.and_ (.cmp .Eq (.var 1) (.int 2)) (.one (.cmp .Gt (.blt .len (.cons (.var 4) .nil)) (.int 1)))) (.cons (.ret (.tup (.cons (.frz (.slc (.var 4) (.int 1) .nop)) (.cons (.tup (.cons (.str ">") (.cons (.ix (.var 4) (.int 0)) (.cons (.var 5) .nil)))) .nil)))) .nil) .nil) (.cons (.if_ (.and_ (.cmp .Eq (.var 1) (.int 3)) (.one (.cmp .Eq (.var 3) (.str ">")))) (.cons (.ret (.tup (.cons (.bin .Add (.tup (.cons (.ix (.var 5) (.int 1)) .nil)) (.var 4)) (.cons (.ix (.var 5) (.int 2)) .nil)))) .nil) .nil) (.cons (.if_ (.and_ (.cmp .Eq (.var 1) (.int 4)) (.one (.cmp .Lt (.var 2) (.bin .Sub (.blt .len (.cons (.var 4) .nil)) (.int 1))))) (.cons (.ret (.tup (.cons (.bin .Add (.bin .Add (.slc (.var 4) .nop (.var 2)) (.tup (.cons (.tup (.cons (.str "*") (.cons (.ix (.var 4) (.var 2)) (.cons (.ix (.var 4) (.bin .Add (.var 2) (.int 1))) .nil)))) .nil))) (.slc (.var 4) (.bin .Add (.var 2) (.int 2)) .nop)) (.cons (.var 5) .nil)))) .nil) .nil) (.cons (.if_ (.and_ (.cmp .Eq (.var 1) (.int 5)) (.and_ (.isi (.ix (.var 4) (.var 2)) [.tuple]) (.one (.cmp .Eq (.ix (.ix (.var 4) (.var 2)) (.int 0)) (.str "*"))))) (.cons (.ret (.tup (.cons (.frz (.bin .Add (.bin .Add (.slc (.var 4) .nop (.var 2)) (.slc (.ix (.var 4) (.var 2)) (.int 1) .nop)) (.slc (.var 4) (.bin .Add (.var 2) (.int 1)) .nop))) (.cons (.var 5) .nil)))) .nil) .nil) (.cons (.ret .non) .nil)))))))))), []⟩
/-- _law_ban_list -/
def f_law_ban_list : Fd := ⟨"_law_ban_list", ["source", "atoms", "many", "wide"], ["source", "atoms", "many", "wide", "marks", "turn", "table", "atom", "line", "k"], (.cons (.asg 4 (.lst (.cons (.ix (.lst (.cons (.int 0) (.cons (.int 999999) .nil))) (.call "_law_take" (.cons (.var 0) (.cons (.int 2) .nil)))) .nil))) (.cons (.for_ (.nm 5) (.rng (.cons (.call "_law_take" (.cons (.var 0) (.cons (.int 3) .nil))) .nil)) (.cons (.ex (.mth .append (.var 4) (.cons (.call "_law_take" (.cons (.var 0) (.cons (.ix (.lst (.cons (.int 1000000) (.cons (.int 4) .nil))) (.call "_law_take" (.cons (.var 0) (.cons (.int 2) .nil)))) .nil))) .nil))) .nil)) (.cons (.asg 6 .dnew) (.cons (.for_ (.nm 5) (.rng (.cons (.var 2) .nil)) (.cons (.asg 7 (.ix (.var 1) (.call "_law_take" (.cons (.var 0) (.cons (.blt .len (.cons (.var 1) .nil)) .nil))))) (.cons (.asg 8 (.blt .tuple (.cons (.lc (.rng (.cons (.bin .Add (.int 1) (.call "_law_take" (.cons (.var 0) (.cons (.var 3) .nil)))) .nil)) (.nm 9) .nop (.ix (.var 4) (.call "_law_take" (.cons (.var 0) (.cons (.blt .len (.cons (.var 4) .nil)) .nil)))) [9]) .nil))) (.cons (.if_ (.cmp .NotIn (.var 8) (.dget (.var 6) (.cons (.var 7) (.cons (.tup .nil) .nil)))) (.cons (.setI (.var 6) (.var 7) (.bin .Add (.dget (.var 6) (.cons (.var 7) (.cons (.tup .nil) .nil))) (.tup (.cons (.var 8) .nil)))) .nil) .nil) .nil)))) (.cons (.ret (.blt .tuple (.cons (.lc (.seq (.frz (.var 6))) (.nm 7) .nop (.tup (.cons (.var 7) (.cons (.ix (.var 6) (.var 7)) .nil))) [7]) .nil))) .nil))))), []⟩
/-- _law_truth_agrees -/
def f_law_truth_agrees : Fd := ⟨"_law_truth_agrees", ["bans", "line", "due"], ["bans", "line", "due", "told"], (.cons (.if_ (.not_ (.call "_law_is_truth" (.cons (.call "holds" (.cons (.var 0) (.cons (.var 1) .nil))) (.cons (.var 2) .nil)))) (.cons (.ret (.bl false)) .nil) .nil) (.cons (.asg 3 (.call "failing_lines" (.cons (.var 0) (.cons (.var 1) .nil)))) (.cons (.if_ (.var 2) (.cons (.ret (.cmp .Is (.var 3) .non)) .nil) .nil) (.cons (.ret (.call "_law_shows" (.cons (.var 0) (.cons (.var 1) (.cons (.var 3) .nil))))) .nil)))), []⟩
/-- _law_scene -/
def f_law_scene : Fd := ⟨"_law_scene", ["source", "names"], ["source", "names", "paper", "line", "atoms", "one", "two"], (.cons (.if_ (.cmp .Eq (.call "_law_take" (.cons (.var 0) (.cons (.int 2) .nil))) (.int 0)) (.cons (.ret (.call "_law_bushes" (.cons (.var 0) (.cons (.var 1) (.cons (.bin .Add (.int 1) (.call "_law_take" (.cons (.var 0) (.cons (.int 4) .nil)))) (.cons (.bin .Add (.int 1) (.call "_law_take" (.cons (.var 0) (.cons (.int 4) .nil)))) (.cons (.int 9) .nil))))))) .nil) .nil) (.cons (.asg 2 (.call "_law_grown" (.cons (.var 0) (.cons (.var 1) (.cons (.bin .Add (.int 2) (.call "_law_take" (.cons (.var 0) (.cons (.int 3) .nil)))) .nil))))) (.cons (.asg 3 (.tup (.cons (.ix (.var 2) (.int 1)) (.cons (.ix (.var 2) (.int 2)) .nil)))) (.cons (.if_ (.cmp .Eq (.call "_law_take" (.cons (.var 0) (.cons (.int 2) .nil))) (.int 1)) (.cons (.asg 4 (.call "_law_spots" (.cons (.var 3) .nil))) (.cons (.par 5 6 (.call "_law_take" (.cons (.var 0) (.cons (.blt .len (.cons (.var 4) .nil)) .nil))) (.call "_law_take" (.cons (.var 0) (.cons (.blt .len (.cons (.var 4) .nil)) .nil)))) (.cons (.set2 (.var 4) (.var 5) (.var 4) (.var 6) (.tup (.cons (.ix (.var 4) (.var 6)) (.cons (.ix (.var 4) (.var 5)) .nil)))) (.cons (.asg 3 (.call "_law_refilled" (.cons (.var 3) (.cons (.frz (.var 4)) .nil)))) .nil)))) .nil) (.cons (.ret (.var 3)) .nil))))), []⟩
/-- _law_all_lines -/
def f_law_all_lines : Fd := ⟨"_law_all_lines", ["bans", "line"], ["bans", "line", "kind"], (.cons (.for_ (.nm 2) (.seq (.bin .Add (.ix (.var 1) (.int 0)) (.tup (.cons (.ix (.var 1) (.int 1)) .nil)))) (.cons (.if_ (.not_ (.call "_law_alike" (.cons (.call "banned_lines" (.cons (.var 0) (.cons (.var 2) .nil))) (.cons (.call "_law_ordered" (.cons (.call "_law_kind_bans" (.cons (.var 0) (.cons (.var 2) .nil))) .nil)) .nil)))) (.cons (.ret (.bl false)) .nil) .nil) .nil)) (.cons (.ret (.bl true)) .nil)), []⟩
/-- law -/
def f_law : Fd := ⟨"law", ["script"], ["script", "source", "names", "line", "size", "bans", "due", "turn", "new"], (.cons (.asg 1 (.call "_law_source" (.cons (.var 0) (.cons (.int 0) .nil)))) (.cons (.asg 2 (.call "_law_names" (.cons (.var 1) (.cons (.ix (.lst (.cons (.int 1) (.cons (.int 2) (.cons (.int 3) (.cons (.int 2) .nil))))) (.call "_law_take" (.cons (.var 1) (.cons (.int 4) .nil)))) .nil)))) (.cons (.asg 3 (.call "_law_scene" (.cons (.var 1) (.cons (.var 2) .nil)))) (.cons (.asg 1 (.call "_law_source" (.cons (.var 0) (.cons (.int 1) .nil)))) (.cons (.asg 4 (.call "_law_take" (.cons (.var 1) (.cons (.int 8) .nil)))) (.cons (.asg 5 (.call "_law_ban_list" (.cons (.var 1) (.cons (.frz (.bin .Add (.var 2) (.lst (.cons (.str "other") .nil)))) (.cons (.bin .Add (.int 1) (.call "_law_take" (.cons (.var 1) (.cons (.ix (.lst (.cons (.int 7) (.cons (.int 12) .nil))) (.bin .FloorDiv (.var 4) (.int 7))) .nil)))) (.cons (.ix (.lst (.cons (.int 4) (.cons (.int 6) .nil))) (.bin .FloorDiv (.var 4) (.int 7))) .nil)))))) (.cons (.asg 6 (.not_ (.call "_law_fails" (.cons (.var 5) (.cons (.var 3) .nil))))) (.cons (.if_ (.or_ (.cmp .IsNot (.call "is_ban_list" (.cons (.var 5) .nil)) (.bl true)) (.or_ (.not_ (.call "_law_truth_agrees" (.cons (.var 5) (.cons (.var 3) (.cons (.var 6) .nil))))) (.one (.not_ (.call "_law_all_lines" (.cons (.var 5) (.cons (.var 3) .nil))))))) (.cons (.ret (.bl false)) .nil) .nil) (.cons (.for_ (.nm 7) (.rng (.cons (.int 6) .nil)) (.cons (.asg 8 (.call "_law_move" (.cons (.var 3) (.cons (.call "_law_take" (.cons (.var 1) (.cons (.int 6) .nil))) (.cons (.call "_law_take" (.cons (.var 1) (.cons (.blt .len (.cons (.ix (.var 3) (.int 0)) .nil)) .nil))) .nil))))) (.cons (.if_ (.cmp .IsNot (.var 8) .non) (.cons (.asg 3 (.var 8)) (.cons (.if_ (.or_ (.cmp .Eq (.call "_law_fails" (.cons (.var 5) (.cons (.var 3) .nil))) (.var 6)) (.one (.not_ (.call "_law_truth_agrees" (.cons (.var 5) (.cons (.var 3) (.cons (.var 6) .nil))))))) (.cons (.ret (.bl false)) .nil) .nil) (.cons (.if_ (.or_ (.not_ (.call "_law_all_lines" (.cons (.var 5) (.cons (.var 3) .nil)))) (.one (.not_ (.call "_law_is_truth" (.cons (.call "holds" (.cons (.var 5) (.cons (.var 3) .nil))) (.cons (.var 6) .nil)))))) (.cons (.ret (.bl false)) .nil) .nil) .nil))) .nil) .nil))) (.cons (.ret (.bl true)) .nil)))))))))), []⟩
def dfs : List Df := [⟨f_is_atom_number, defArgs (top 5), defBody (top 5), defScope (top 5), "is_atom_number", none⟩,
  ⟨f_is_atom, defArgs (top 6), defBody (top 6), defScope (top 6), "is_atom", none⟩,
  ⟨f_is_line, defArgs (top 11), defBody (top 11), defScope (top 11), "is_line", none⟩,
  ⟨f_are_unlike_lines, defArgs (top 12), defBody (top 12), defScope (top 12), "are_unlike_lines", none⟩,
  ⟨f_is_ban_list, defArgs (top 13), defBody (top 13), defScope (top 13), "is_ban_list", none⟩,
  ⟨f_atom_banned, defArgs (top 14), defBody (top 14), defScope (top 14), "atom_banned", none⟩,
  ⟨f_over_banned, defArgs (top 15), defBody (top 15), defScope (top 15), "over_banned", none⟩,
  ⟨f_under_banned, defArgs (top 16), defBody (top 16), defScope (top 16), "under_banned", none⟩,
  ⟨f_is_allowed_row, defArgs (top 17), defBody (top 17), defScope (top 17), "is_allowed_row", none⟩,
  ⟨f_allowed_frames, defArgs (top 18), defBody (top 18), defScope (top 18), "allowed_frames", none⟩,
  ⟨f_pair_banned, defArgs (top 19), defBody (top 19), defScope (top 19), "pair_banned", none⟩,
  ⟨f_kind_banned, defArgs (top 20), defBody (top 20), defScope (top 20), "kind_banned", none⟩,
  ⟨f_line_key, defArgs (top 21), defBody (top 21), defScope (top 21), "line_key", none⟩,
  ⟨f_banned_lines, defArgs (top 22), defBody (top 22), defScope (top 22), "banned_lines", none⟩,
  ⟨f_format_part, defArgs (top 24), defBody (top 24), defScope (top 24), "format_part", none⟩,
  ⟨f_format_kind, defArgs (top 25), defBody (top 25), defScope (top 25), "format_kind", none⟩,
  ⟨f_pieces_of, defArgs (top 27), defBody (top 27), defScope (top 27), "pieces_of", none⟩,
  ⟨f_Truth_banned_by, defArgs (inCls 28 1), defBody (inCls 28 1), defScope (inCls 28 1), "banned_by", (some c_Truth)⟩,
  ⟨f_Truth_failing, defArgs (inCls 28 2), defBody (inCls 28 2), defScope (inCls 28 2), "failing", (some c_Truth)⟩,
  ⟨f_failing_lines, defArgs (top 29), defBody (top 29), defScope (top 29), "failing_lines", none⟩,
  ⟨f_holds, defArgs (top 30), defBody (top 30), defScope (top 30), "holds", none⟩,
  ⟨f_law_stir, defArgs (top 32), defBody (top 32), defScope (top 32), "_law_stir", none⟩,
  ⟨f_law_source, defArgs (top 33), defBody (top 33), defScope (top 33), "_law_source", none⟩,
  ⟨f_law_take, defArgs (top 34), defBody (top 34), defScope (top 34), "_law_take", none⟩,
  ⟨f_law_atom, defArgs (top 35), defBody (top 35), defScope (top 35), "_law_atom", none⟩,
  ⟨f_law_base, defArgs (top 36), defBody (top 36), defScope (top 36), "_law_base", none⟩,
  ⟨f_law_names, defArgs (top 37), defBody (top 37), defScope (top 37), "_law_names", none⟩,
  ⟨f_law_size, defArgs (top 38), defBody (top 38), defScope (top 38), "_law_size", none⟩,
  ⟨f_law_leaves, defArgs (top 39), defBody (top 39), defScope (top 39), "_law_leaves", none⟩,
  ⟨f_law_spots, defArgs (top 40), defBody (top 40), defScope (top 40), "_law_spots", none⟩,
  ⟨f_law_bush, defArgs (top 41), defBody (top 41), defScope (top 41), "_law_bush", none⟩,
  ⟨f_law_bushes, defArgs (top 42), defBody (top 42), defScope (top 42), "_law_bushes", none⟩,
  ⟨f_law_poured, defArgs (top 43), defBody (top 43), defScope (top 43), "_law_poured", none⟩,
  ⟨f_law_refilled, defArgs (top 44), defBody (top 44), defScope (top 44), "_law_refilled", none⟩,
  ⟨f_law_below, defArgs (top 45), defBody (top 45), defScope (top 45), "_law_below", none⟩,
  ⟨f_law_axiom, defArgs (top 46), defBody (top 46), defScope (top 46), "_law_axiom", none⟩,
  ⟨f_law_step, defArgs (top 47), defBody (top 47), defScope (top 47), "_law_step", none⟩,
  ⟨f_law_grown, defArgs (top 48), defBody (top 48), defScope (top 48), "_law_grown", none⟩,
  ⟨f_law_turned, defArgs (top 49), defBody (top 49), defScope (top 49), "_law_turned", none⟩,
  ⟨f_law_is_whole, defArgs (top 50), defBody (top 50), defScope (top 50), "_law_is_whole", none⟩,
  ⟨f_law_alike, defArgs (top 51), defBody (top 51), defScope (top 51), "_law_alike", none⟩,
  ⟨f_law_pair_bans, defArgs (top 52), defBody (top 52), defScope (top 52), "_law_pair_bans", none⟩,
  ⟨f_law_kind_bans, defArgs (top 53), defBody (top 53), defScope (top 53), "_law_kind_bans", none⟩,
  ⟨f_law_ordered, defArgs (top 54), defBody (top 54), defScope (top 54), "_law_ordered", none⟩,
  ⟨f_law_cuttable, defArgs (top 55), defBody (top 55), defScope (top 55), "_law_cuttable", none⟩,
  ⟨f_law_fails, defArgs (top 56), defBody (top 56), defScope (top 56), "_law_fails", none⟩,
  ⟨f_law_shows, defArgs (top 57), defBody (top 57), defScope (top 57), "_law_shows", none⟩,
  ⟨f_law_is_truth, defArgs (top 58), defBody (top 58), defScope (top 58), "_law_is_truth", none⟩,
  ⟨f_law_move, defArgs (top 59), defBody (top 59), defScope (top 59), "_law_move", none⟩,
  ⟨f_law_ban_list, defArgs (top 60), defBody (top 60), defScope (top 60), "_law_ban_list", none⟩,
  ⟨f_law_truth_agrees, defArgs (top 61), defBody (top 61), defScope (top 61), "_law_truth_agrees", none⟩,
  ⟨f_law_scene, defArgs (top 62), defBody (top 62), defScope (top 62), "_law_scene", none⟩,
  ⟨f_law_all_lines, defArgs (top 63), defBody (top 63), defScope (top 63), "_law_all_lines", none⟩,
  ⟨f_law, defArgs (top 64), defBody (top 64), defScope (top 64), "law", none⟩]
def cs : List Cl := [⟨c_Truth, defArgs (inCls 28 0), defBody (inCls 28 0), defScope (inCls 28 0), ["self", "bans"], "Truth.__init__"⟩]
theorem dfs_bi : ∀ d ∈ dfs, BindD d := by
  refine List.forall_mem_cons.mpr ⟨fun _ _ _ _ _ _ us hl => match us, hl with | [_], _ => rfl, ?_⟩
  refine List.forall_mem_cons.mpr ⟨fun _ _ _ _ _ _ us hl => match us, hl with | [_], _ => rfl, ?_⟩
  refine List.forall_mem_cons.mpr ⟨fun _ _ _ _ _ _ us hl => match us, hl with | [_], _ => rfl, ?_⟩
  refine List.forall_mem_cons.mpr ⟨fun _ _ _ _ _ _ us hl => match us, hl with | [_], _ => rfl, ?_⟩
  refine List.forall_mem_cons.mpr ⟨fun _ _ _ _ _ _ us hl => match us, hl with | [_], _ => rfl, ?_⟩
  refine List.forall_mem_cons.mpr ⟨fun _ _ _ _ _ _ us hl => match us, hl with | [_, _], _ => rfl, ?_⟩
  refine List.forall_mem_cons.mpr ⟨fun _ _ _ _ _ _ us hl => match us, hl with | [_, _], _ => rfl, ?_⟩
  refine List.forall_mem_cons.mpr ⟨fun _ _ _ _ _ _ us hl => match us, hl with | [_, _], _ => rfl, ?_⟩
  refine List.forall_mem_cons.mpr ⟨fun _ _ _ _ _ _ us hl => match us, hl with | [_, _, _], _ => rfl, ?_⟩
  refine List.forall_mem_cons.mpr ⟨fun _ _ _ _ _ _ us hl => match us, hl with | [_, _, _], _ => rfl, ?_⟩
  refine List.forall_mem_cons.mpr ⟨fun _ _ _ _ _ _ us hl => match us, hl with | [_, _, _], _ => rfl, ?_⟩
  refine List.forall_mem_cons.mpr ⟨fun _ _ _ _ _ _ us hl => match us, hl with | [_, _], _ => rfl, ?_⟩
  refine List.forall_mem_cons.mpr ⟨fun _ _ _ _ _ _ us hl => match us, hl with | [_], _ => rfl, ?_⟩
  refine List.forall_mem_cons.mpr ⟨fun _ _ _ _ _ _ us hl => match us, hl with | [_, _], _ => rfl, ?_⟩
  refine List.forall_mem_cons.mpr ⟨fun _ _ _ _ _ _ us hl => match us, hl with | [_], _ => rfl, ?_⟩
  refine List.forall_mem_cons.mpr ⟨fun _ _ _ _ _ _ us hl => match us, hl with | [_], _ => rfl, ?_⟩
  refine List.forall_mem_cons.mpr ⟨fun _ _ _ _ _ _ us hl => match us, hl with | [_, _], _ => rfl, ?_⟩
  refine List.forall_mem_cons.mpr ⟨fun _ _ _ _ _ _ us hl => match us, hl with | [_, _], _ => rfl, ?_⟩
  refine List.forall_mem_cons.mpr ⟨fun _ _ _ _ _ _ us hl => match us, hl with | [_, _], _ => rfl, ?_⟩
  refine List.forall_mem_cons.mpr ⟨fun _ _ _ _ _ _ us hl => match us, hl with | [_, _], _ => rfl, ?_⟩
  refine List.forall_mem_cons.mpr ⟨fun _ _ _ _ _ _ us hl => match us, hl with | [_, _], _ => rfl, ?_⟩
  refine List.forall_mem_cons.mpr ⟨fun _ _ _ _ _ _ us hl => match us, hl with | [_, _], _ => rfl, ?_⟩
  refine List.forall_mem_cons.mpr ⟨fun _ _ _ _ _ _ us hl => match us, hl with | [_, _], _ => rfl, ?_⟩
  refine List.forall_mem_cons.mpr ⟨fun _ _ _ _ _ _ us hl => match us, hl with | [_, _], _ => rfl, ?_⟩
  refine List.forall_mem_cons.mpr ⟨fun _ _ _ _ _ _ us hl => match us, hl with | [_], _ => rfl, ?_⟩
  refine List.forall_mem_cons.mpr ⟨fun _ _ _ _ _ _ us hl => match us, hl with | [_], _ => rfl, ?_⟩
  refine List.forall_mem_cons.mpr ⟨fun _ _ _ _ _ _ us hl => match us, hl with | [_, _], _ => rfl, ?_⟩
  refine List.forall_mem_cons.mpr ⟨fun _ _ _ _ _ _ us hl => match us, hl with | [_], _ => rfl, ?_⟩
  refine List.forall_mem_cons.mpr ⟨fun _ _ _ _ _ _ us hl => match us, hl with | [_], _ => rfl, ?_⟩
  refine List.forall_mem_cons.mpr ⟨fun _ _ _ _ _ _ us hl => match us, hl with | [_], _ => rfl, ?_⟩
  refine List.forall_mem_cons.mpr ⟨fun _ _ _ _ _ _ us hl => match us, hl with | [_, _, _], _ => rfl, ?_⟩
  refine List.forall_mem_cons.mpr ⟨fun _ _ _ _ _ _ us hl => match us, hl with | [_, _, _, _, _], _ => rfl, ?_⟩
  refine List.forall_mem_cons.mpr ⟨fun _ _ _ _ _ _ us hl => match us, hl with | [_, _], _ => rfl, ?_⟩
  refine List.forall_mem_cons.mpr ⟨fun _ _ _ _ _ _ us hl => match us, hl with | [_, _], _ => rfl, ?_⟩
  refine List.forall_mem_cons.mpr ⟨fun _ _ _ _ _ _ us hl => match us, hl with | [_, _, _], _ => rfl, ?_⟩
  refine List.forall_mem_cons.mpr ⟨fun _ _ _ _ _ _ us hl => match us, hl with | [_], _ => rfl, ?_⟩
  refine List.forall_mem_cons.mpr ⟨fun _ _ _ _ _ _ us hl => match us, hl with | [_, _, _], _ => rfl, ?_⟩
  refine List.forall_mem_cons.mpr ⟨fun _ _ _ _ _ _ us hl => match us, hl with | [_, _, _], _ => rfl, ?_⟩
  refine List.forall_mem_cons.mpr ⟨fun _ _ _ _ _ _ us hl => match us, hl with | [_, _, _], _ => rfl, ?_⟩
  refine List.forall_mem_cons.mpr ⟨fun _ _ _ _ _ _ us hl => match us, hl with | [_], _ => rfl, ?_⟩
  refine List.forall_mem_cons.mpr ⟨fun _ _ _ _ _ _ us hl => match us, hl with | [_, _], _ => rfl, ?_⟩
  refine List.forall_mem_cons.mpr ⟨fun _ _ _ _ _ _ us hl => match us, hl with | [_, _, _], _ => rfl, ?_⟩
  refine List.forall_mem_cons.mpr ⟨fun _ _ _ _ _ _ us hl => match us, hl with | [_, _], _ => rfl, ?_⟩
  refine List.forall_mem_cons.mpr ⟨fun _ _ _ _ _ _ us hl => match us, hl with | [_], _ => rfl, ?_⟩
  refine List.forall_mem_cons.mpr ⟨fun _ _ _ _ _ _ us hl => match us, hl with | [_, _], _ => rfl, ?_⟩
  refine List.forall_mem_cons.mpr ⟨fun _ _ _ _ _ _ us hl => match us, hl with | [_, _], _ => rfl, ?_⟩
  refine List.forall_mem_cons.mpr ⟨fun _ _ _ _ _ _ us hl => match us, hl with | [_, _, _], _ => rfl, ?_⟩
  refine List.forall_mem_cons.mpr ⟨fun _ _ _ _ _ _ us hl => match us, hl with | [_, _], _ => rfl, ?_⟩
  refine List.forall_mem_cons.mpr ⟨fun _ _ _ _ _ _ us hl => match us, hl with | [_, _, _], _ => rfl, ?_⟩
  refine List.forall_mem_cons.mpr ⟨fun _ _ _ _ _ _ us hl => match us, hl with | [_, _, _, _], _ => rfl, ?_⟩
  refine List.forall_mem_cons.mpr ⟨fun _ _ _ _ _ _ us hl => match us, hl with | [_, _, _], _ => rfl, ?_⟩
  refine List.forall_mem_cons.mpr ⟨fun _ _ _ _ _ _ us hl => match us, hl with | [_, _], _ => rfl, ?_⟩
  refine List.forall_mem_cons.mpr ⟨fun _ _ _ _ _ _ us hl => match us, hl with | [_, _], _ => rfl, ?_⟩
  refine List.forall_mem_cons.mpr ⟨fun _ _ _ _ _ _ us hl => match us, hl with | [_], _ => rfl, ?_⟩
  exact fun _ h => nomatch h
theorem cs_bi : ∀ c ∈ cs, BindC c := by
  refine List.forall_mem_cons.mpr ⟨fun _ _ _ _ _ _ us hl => match us, hl with | [_, _], _ => rfl, ?_⟩
  exact fun _ h => nomatch h
-- retnew: ['_law_source', '_law_spots']
-- mut: {'are_unlike_lines': ['found'], 'is_ban_list': ['met'], 'atom_banned': ['found'], 'over_banned': ['found'], 'under_banned': ['found'], 'allowed_frames': ['found'], 'pair_banned': ['found'], 'pieces_of': ['further'], 'Truth.banned_by': ['self.banned'], 'Truth.failing': ['self.banned'], '_law_take': ['source'], '_law_atom': ['source'], '_law_names': ['names', 'source'], '_law_spots': ['found'], '_law_bush': ['source'], '_law_bushes': ['row', 'source'], '_law_poured': ['rest'], '_law_refilled': ['rest', 'row'], '_law_grown': ['source'], '_law_pair_bans': ['found', 'good'], '_law_kind_bans': ['found'], '_law_cuttable': ['further'], '_law_ban_list': ['marks', 'source', 'table'], '_law_scene': ['atoms', 'source'], 'law': ['source']}
theorem dfs_ok : (dfs.all (okD dfs cs)) = true := by decide +kernel
theorem cs_ok : (cs.all (okC dfs)) = true := by decide +kernel
theorem tabOk : TabOk dfs cs := ⟨by decide +kernel, fun d h => List.all_eq_true.mp dfs_ok d h, dfs_bi, fun c h => List.all_eq_true.mp cs_ok c h, cs_bi⟩
end Tab

set_option maxHeartbeats 400000
namespace Tab
open PySem PySem.Spec PyProof.Rows L2 Fw
def gs : Glos := [("LETTERS", .str "abcdefghijklmnopqrstuvwxyz"), ("DIGITS", .str "0123456789"), ("MOST_IN_NAME", .int 8), ("MOST_IN_NUMBER", .int 6), ("MOST_LINES", .int 100), ("MOST_MARKS", .int 80), ("LAST_MARK", .int 999999)]
def ks : Kds := []
def wf : Nat := 0
abbrev cl (n : Nat) : Str → List Fw.Arg → Option (Fw.T × List Sl) := callN (tabOf dfs) (fun x => gs.lookup x) wf (fun x => ks.lookup x) n
abbrev cm (n : Nat) : Str → List Fw.Arg → Option (Fw.T × List Sl) := callM (tabOf dfs) (fun x => gs.lookup x) wf (fun x => ks.lookup x) n
abbrev cf (n : Nat) : Cfg := ⟨cl n, cm n, n, fun x => gs.lookup x, wf, fun x => ks.lookup x⟩
theorem cl_by {n : Nat} {fd : Fd} (h : fd ∈ tabOf dfs) (args : List Fw.Arg) : cl (n + 1) fd.name args = runF (cf n) fd args := by
  show callN _ _ _ _ (n + 1) _ _ = _
  rw [callN_s, find_name tabOk.nd h]
  rfl
theorem m_is_atom_number : f_is_atom_number ∈ tabOf dfs := by unfold tabOf dfs; simp
theorem m_is_atom : f_is_atom ∈ tabOf dfs := by unfold tabOf dfs; simp
theorem m_is_line : f_is_line ∈ tabOf dfs := by unfold tabOf dfs; simp
theorem m_are_unlike_lines : f_are_unlike_lines ∈ tabOf dfs := by unfold tabOf dfs; simp
theorem m_is_ban_list : f_is_ban_list ∈ tabOf dfs := by unfold tabOf dfs; simp
theorem m_atom_banned : f_atom_banned ∈ tabOf dfs := by unfold tabOf dfs; simp
theorem m_over_banned : f_over_banned ∈ tabOf dfs := by unfold tabOf dfs; simp
theorem m_under_banned : f_under_banned ∈ tabOf dfs := by unfold tabOf dfs; simp
theorem m_is_allowed_row : f_is_allowed_row ∈ tabOf dfs := by unfold tabOf dfs; simp
theorem m_allowed_frames : f_allowed_frames ∈ tabOf dfs := by unfold tabOf dfs; simp
theorem m_pair_banned : f_pair_banned ∈ tabOf dfs := by unfold tabOf dfs; simp
theorem m_kind_banned : f_kind_banned ∈ tabOf dfs := by unfold tabOf dfs; simp
theorem m_line_key : f_line_key ∈ tabOf dfs := by unfold tabOf dfs; simp
theorem m_banned_lines : f_banned_lines ∈ tabOf dfs := by unfold tabOf dfs; simp
theorem m_format_part : f_format_part ∈ tabOf dfs := by unfold tabOf dfs; simp
theorem m_format_kind : f_format_kind ∈ tabOf dfs := by unfold tabOf dfs; simp
theorem m_pieces_of : f_pieces_of ∈ tabOf dfs := by unfold tabOf dfs; simp
theorem m_Truth_banned_by : f_Truth_banned_by ∈ tabOf dfs := by unfold tabOf dfs; simp
theorem m_Truth_failing : f_Truth_failing ∈ tabOf dfs := by unfold tabOf dfs; simp
theorem m_failing_lines : f_failing_lines ∈ tabOf dfs := by unfold tabOf dfs; simp
theorem m_holds : f_holds ∈ tabOf dfs := by unfold tabOf dfs; simp
theorem m_law_stir : f_law_stir ∈ tabOf dfs := by unfold tabOf dfs; simp
theorem m_law_source : f_law_source ∈ tabOf dfs := by unfold tabOf dfs; simp
theorem m_law_take : f_law_take ∈ tabOf dfs := by unfold tabOf dfs; simp
theorem m_law_atom : f_law_atom ∈ tabOf dfs := by unfold tabOf dfs; simp
theorem m_law_base : f_law_base ∈ tabOf dfs := by unfold tabOf dfs; simp
theorem m_law_names : f_law_names ∈ tabOf dfs := by unfold tabOf dfs; simp
theorem m_law_size : f_law_size ∈ tabOf dfs := by unfold tabOf dfs; simp
theorem m_law_leaves : f_law_leaves ∈ tabOf dfs := by unfold tabOf dfs; simp
theorem m_law_spots : f_law_spots ∈ tabOf dfs := by unfold tabOf dfs; simp
theorem m_law_bush : f_law_bush ∈ tabOf dfs := by unfold tabOf dfs; simp
theorem m_law_bushes : f_law_bushes ∈ tabOf dfs := by unfold tabOf dfs; simp
theorem m_law_poured : f_law_poured ∈ tabOf dfs := by unfold tabOf dfs; simp
theorem m_law_refilled : f_law_refilled ∈ tabOf dfs := by unfold tabOf dfs; simp
theorem m_law_below : f_law_below ∈ tabOf dfs := by unfold tabOf dfs; simp
theorem m_law_axiom : f_law_axiom ∈ tabOf dfs := by unfold tabOf dfs; simp
theorem m_law_step : f_law_step ∈ tabOf dfs := by unfold tabOf dfs; simp
theorem m_law_grown : f_law_grown ∈ tabOf dfs := by unfold tabOf dfs; simp
theorem m_law_turned : f_law_turned ∈ tabOf dfs := by unfold tabOf dfs; simp
theorem m_law_is_whole : f_law_is_whole ∈ tabOf dfs := by unfold tabOf dfs; simp
theorem m_law_alike : f_law_alike ∈ tabOf dfs := by unfold tabOf dfs; simp
theorem m_law_pair_bans : f_law_pair_bans ∈ tabOf dfs := by unfold tabOf dfs; simp
theorem m_law_kind_bans : f_law_kind_bans ∈ tabOf dfs := by unfold tabOf dfs; simp
theorem m_law_ordered : f_law_ordered ∈ tabOf dfs := by unfold tabOf dfs; simp
theorem m_law_cuttable : f_law_cuttable ∈ tabOf dfs := by unfold tabOf dfs; simp
theorem m_law_fails : f_law_fails ∈ tabOf dfs := by unfold tabOf dfs; simp
theorem m_law_shows : f_law_shows ∈ tabOf dfs := by unfold tabOf dfs; simp
theorem m_law_is_truth : f_law_is_truth ∈ tabOf dfs := by unfold tabOf dfs; simp
theorem m_law_move : f_law_move ∈ tabOf dfs := by unfold tabOf dfs; simp
theorem m_law_ban_list : f_law_ban_list ∈ tabOf dfs := by unfold tabOf dfs; simp
theorem m_law_truth_agrees : f_law_truth_agrees ∈ tabOf dfs := by unfold tabOf dfs; simp
theorem m_law_scene : f_law_scene ∈ tabOf dfs := by unfold tabOf dfs; simp
theorem m_law_all_lines : f_law_all_lines ∈ tabOf dfs := by unfold tabOf dfs; simp
theorem m_law : f_law ∈ tabOf dfs := by unfold tabOf dfs; simp
@[simp] theorem g_LETTERS : List.lookup ("LETTERS" : Str) gs = some (.str "abcdefghijklmnopqrstuvwxyz" : D) := by rfl
@[simp] theorem g_DIGITS : List.lookup ("DIGITS" : Str) gs = some (.str "0123456789" : D) := by rfl
@[simp] theorem g_MOST_IN_NAME : List.lookup ("MOST_IN_NAME" : Str) gs = some (.int 8 : D) := by rfl
@[simp] theorem g_MOST_IN_NUMBER : List.lookup ("MOST_IN_NUMBER" : Str) gs = some (.int 6 : D) := by rfl
@[simp] theorem g_MOST_LINES : List.lookup ("MOST_LINES" : Str) gs = some (.int 100 : D) := by rfl
@[simp] theorem g_MOST_MARKS : List.lookup ("MOST_MARKS" : Str) gs = some (.int 80 : D) := by rfl
@[simp] theorem g_LAST_MARK : List.lookup ("LAST_MARK" : Str) gs = some (.int 999999 : D) := by rfl
end Tab

set_option maxHeartbeats 0
namespace Tab.Hd
open PySem PySem.Spec PyProof.Rows L2 Fw
def nm0 : List PySem.Str := ["LETTERS", "DIGITS", "MOST_IN_NAME", "MOST_IN_NUMBER", "is_atom_number", "is_atom", "MOST_LINES", "MOST_MARKS", "LAST_MARK", "is_line", "are_unlike_lines", "is_ban_list", "atom_banned", "over_banned", "under_banned", "is_allowed_row", "allowed_frames", "pair_banned", "kind_banned", "line_key", "banned_lines", "format_part", "format_kind", "pieces_of", "Truth", "failing_lines", "holds", "_law_stir", "_law_source", "_law_take"]
def nm1 : List PySem.Str := ["_law_atom", "_law_base", "_law_names", "_law_size", "_law_leaves", "_law_spots", "_law_bush", "_law_bushes", "_law_poured", "_law_refilled", "_law_below", "_law_axiom", "_law_step", "_law_grown", "_law_turned", "_law_is_whole", "_law_alike", "_law_pair_bans", "_law_kind_bans", "_law_ordered", "_law_cuttable", "_law_fails", "_law_shows", "_law_is_truth", "_law_move", "_law_ban_list", "_law_truth_agrees", "_law_scene", "_law_all_lines"]
def names : List PySem.Str := nm0 ++ nm1
abbrev R : PySem.W.OpenRow := PySem.W.OpenLaw.row PySem.Challenge.rw_fractionwords_k88_whole_moves_keep_holdi
abbrev hk : PySem.W.Hook := hkOf dfs cs gs ks
def ob (s : PySem.W.SharedT) : He.AlX := He.obsX 4 (faOf dfs cs) (fnOf dfs cs) (tsOf ks) [] (exB gs ks) (HandSHeadRun.getT s)
theorem ob_eq (s : PySem.W.SharedT) : ob s = hk.obs s.abs := He.obsX_eq (HandSHeadRun.getT_eq s)
theorem run (w : World) : HandSHeadRun.RunEq R (PySem.W.view R.prog [64]) hk ob 3000 names w :=
  PySem.W.byRow2 "special-get-raises" (P := fun w => HandSHeadRun.RunEq R (PySem.W.view R.prog [64]) hk ob 3000 names w) (fun w os => by kernel_rfl) (fun w os => by kernel_rfl) w
abbrev q : PySem.Program := PySem.W.view R.prog [64]
abbrev d0 : PySem.DefRec := HandSHeadRun.topDef R.prog 64
theorem h1 : PySem.W.opening R.prog = PySem.W.plainProg R.prog.main.scope.names := by kernel_rfl
theorem h2 : ∀ s : PySem.Shared, PySem.fenceModules? R.prog s = some s := fun s => by kernel_rfl
theorem h3 : PySem.W.defOf q R.name = some (d0, []) := by kernel_rfl
theorem h4 : R.prog.theDef R.name = some (d0.params, d0.body, d0.scope) := by kernel_rfl
theorem h5 : PySem.W.kwWritten? d0.params.kwonlyargs d0.params.kw_defaults = some [] := by kernel_rfl
theorem h6 : (!R.writes || List.isEmpty R.records) = true := by rfl
theorem h7 : R.wellSaid = true := by decide +kernel
theorem h8 : (PySem.W.chainsOk q && PySem.W.opensWell R.prog && (PySem.W.frees R.toRowW && R.within.isEmpty)) = true := by decide +kernel
theorem h9 : R.prog.bare := ⟨rfl, rfl, rfl, rfl, rfl, by decide +kernel⟩
theorem h10 : R.promised := by w_witness2
theorem h11 : d0.params.defaults = [] := by kernel_rfl
theorem h12 : d0.name = ("law" : PySem.Str) := by kernel_rfl
end Tab.Hd

set_option maxHeartbeats 400000
namespace Tab
open PySem PySem.Spec PyProof.Rows L2 Fw
theorem szl' : (10000 : Nat) ≤ sizeLine := by decide
theorem rng1 {n : Nat} (h : n ≤ 10000) : rngF [.int (n : Int)] = some ((List.range n).map fun (k : Nat) => D.int k) := by
  simp only [rngF]
  rw [if_pos (by omega)]
  unfold rngL
  simp
theorem rng2 {a b : Nat} (h : b ≤ 10000) (ha : a ≤ 10000) : rngF [.int (a : Int), .int (b : Int)] = some ((List.range' a (b - a)).map fun (k : Nat) => D.int k) := by
  simp only [rngF]
  rw [if_pos (by omega)]
  unfold rngL
  have e : ((b : Int) - (a : Int)).toNat = b - a := by omega
  rw [e, List.range'_eq_map_range, List.map_map]
  congr 1
theorem atI_map {α : Type} {f : α → D} {xs : List α} {i : Nat} {x : α} (h : xs[i]? = some x) : atI (xs.map f) (i : Int) = some (f x) := by
  obtain ⟨hi, e⟩ := List.getElem?_eq_some_iff.mp h
  rw [atI_nat (by simpa using hi)]
  simp [e]
theorem get_of {ds : List D} {i : Nat} {h : i < ds.length} {x : D} (e : ds[i]? = some x) : ds[i] = x := by
  rw [List.getElem?_eq_getElem h] at e
  exact Option.some.inj e
/-- by its body -/
theorem pure_by {n : Nat} {fd : Fd} {ds : List D} {r : D} (h : fd ∈ tabOf dfs) (hl : ds.length = fd.ps.length) (hN : ds.length ≤ fd.N.length)
    (e : Run (exSs (cf n) fd.body (ds.map Sl.d ++ List.replicate (fd.N.length - ds.length) .no)) fun fl ρ => fl = .rt (.d r) ∧ ds.length ≤ ρ.length) (hg : fd.gh = [] := by rfl) : Pure (cl (n + 1)) fd.name ds r := by
  obtain ⟨fl, ρ, e, rfl, l⟩ := e
  refine ⟨ρ.take ds.length, (cl_by h _).trans ?_, by rw [List.length_take]; omega⟩
  unfold runF
  rw [if_pos (by rw [List.length_map]; exact hl), hg]
  have e1 : (ds.map Fw.Arg.fr).map argSl = ds.map Sl.d := by rw [List.map_map]; rfl
  show (exSs (cf n) fd.body ((ds.map Fw.Arg.fr).map argSl ++ _)).bind _ = _
  rw [e1, List.length_map, e]
  rfl
theorem pureN_by {n : Nat} {fd : Fd} {ds : List D} {r : List D} (h : fd ∈ tabOf dfs) (hl : ds.length = fd.ps.length) (hN : ds.length ≤ fd.N.length)
    (e : Run (exSs (cf n) fd.body (ds.map Sl.d ++ List.replicate (fd.N.length - ds.length) .no)) fun fl ρ => fl = .rt (.new (.lst r)) ∧ ds.length ≤ ρ.length) (hg : fd.gh = [] := by rfl) : PureN (cl (n + 1)) fd.name ds r := by
  obtain ⟨fl, ρ, e, rfl, l⟩ := e
  refine ⟨ρ.take ds.length, (cl_by h _).trans ?_, by rw [List.length_take]; omega⟩
  unfold runF
  rw [if_pos (by rw [List.length_map]; exact hl), hg]
  have e1 : (ds.map Fw.Arg.fr).map argSl = ds.map Sl.d := by rw [List.map_map]; rfl
  show (exSs (cf n) fd.body ((ds.map Fw.Arg.fr).map argSl ++ _)).bind _ = _
  rw [e1, List.length_map, e]
  rfl
/-- .. its first argument lent -/
theorem pol_by {n : Nat} {fd : Fd} {o o' : O} {ds : List D} {r : D} (h : fd ∈ tabOf dfs) (hl : ds.length + 1 = fd.ps.length) (hN : ds.length + 1 ≤ fd.N.length)
    (e : Run (exSs (cf n) fd.body (.bor o :: (ds.map Sl.d ++ List.replicate (fd.N.length - (ds.length + 1)) .no))) fun fl ρ => fl = .rt (.d r) ∧ ds.length + 1 ≤ ρ.length ∧ ρ[0]? = some (.bor o')) (hg : fd.gh = [] := by rfl) : Pol (cl (n + 1)) fd.name o ds r o' := by
  obtain ⟨fl, ρ, e, rfl, l, h0⟩ := e
  cases ρ with
  | nil => simp at h0
  | cons s ρ =>
    simp at h0
    subst h0
    refine ⟨ρ.take ds.length, (cl_by h _).trans ?_, by rw [List.length_take]; rw [List.length_cons] at l; omega⟩
    unfold runF
    rw [if_pos (by rw [List.length_cons, List.length_map]; exact hl), hg]
    have e1 : (Fw.Arg.bo o :: ds.map Fw.Arg.fr).map argSl = .bor o :: ds.map Sl.d := by rw [List.map_cons, List.map_map]; rfl
    show (exSs (cf n) fd.body ((Fw.Arg.bo o :: ds.map Fw.Arg.fr).map argSl ++ _)).bind _ = _
    rw [e1, List.length_cons, List.length_map, List.cons_append, e]
    rfl
theorem polx_by {n : Nat} {fd : Fd} {o : O} {ds : List D} {R : D → O → Prop} (h : fd ∈ tabOf dfs) (hl : ds.length + 1 = fd.ps.length) (hN : ds.length + 1 ≤ fd.N.length)
    (e : Fw.Run (exSs (cf n) fd.body (.bor o :: (ds.map Sl.d ++ List.replicate (fd.N.length - (ds.length + 1)) .no))) fun fl ρ => ∃ r o', fl = .rt (.d r) ∧ ds.length + 1 ≤ ρ.length ∧ ρ[0]? = some (.bor o') ∧ R r o') (hg : fd.gh = [] := by rfl) : ∃ r o', R r o' ∧ Pol (cl (n + 1)) fd.name o ds r o' := by
  obtain ⟨fl, ρ, e, r, o', e1, e2, e3, hr⟩ := e
  exact ⟨r, o', hr, pol_by h hl hN ⟨fl, ρ, e, e1, e2, e3⟩ hg⟩
theorem purex_by {n : Nat} {fd : Fd} {ds : List D} {R : D → Prop} (h : fd ∈ tabOf dfs) (hl : ds.length = fd.ps.length) (hN : ds.length ≤ fd.N.length)
    (e : Run (exSs (cf n) fd.body (ds.map Sl.d ++ List.replicate (fd.N.length - ds.length) .no)) fun fl ρ => ∃ r, fl = .rt (.d r) ∧ ds.length ≤ ρ.length ∧ R r) (hg : fd.gh = [] := by rfl) : ∃ r, R r ∧ Pure (cl (n + 1)) fd.name ds r := by
  obtain ⟨fl, ρ, e, r, e1, e2, hr⟩ := e
  exact ⟨r, hr, pure_by h hl hN ⟨fl, ρ, e, e1, e2⟩ hg⟩
end Tab

set_option maxHeartbeats 400000
namespace Tab
open PySem PySem.Spec PyProof.Rows L2 Fw
/-! ### draws -/
def pl3 (a b c : Int) : O := .lst [.int a, .int b, .int c]
def PoolIn (m : Int) (o : O) : Prop := ∃ a b c : Int, o = pl3 a b c ∧ 0 ≤ b ∧ b ≤ 1000000000000 ∧ 0 ≤ c ∧ c ≤ m
theorem PoolIn.up {m m' : Int} {o : O} (h : PoolIn m o) (hm : m ≤ m') : PoolIn m' o := by
  obtain ⟨a, b, c, e, h1, h2, h3, h4⟩ := h
  exact ⟨a, b, c, e, h1, h2, h3, by omega⟩
theorem mul_ok {i j : Int} (h : -(2 ^ 64) < i ∧ i < 2 ^ 64) : binF .Mult (.int i) (.int j) = some (.d (.int (i * j))) := by
  show (if _ then _ else _ : Option Fw.T) = _
  rw [if_pos (.inl h)]
  rfl
theorem mod_ok {i j : Int} (h : j ≠ 0) : binF .Mod (.int i) (.int j) = some (.d (.int (i.fmod j))) := by
  show (if _ then _ else _ : Option Fw.T) = _
  rw [if_pos h]
  rfl
theorem fdiv_ok {i j : Int} (h : j ≠ 0 ∧ j.natAbs < 1073741824) : binF .FloorDiv (.int i) (.int j) = some (.d (.int (i.fdiv j))) := by
  show (if _ then _ else _ : Option Fw.T) = _
  rw [if_pos h]
  rfl
theorem fmod_rng {i : Int} {j : Int} (h : 0 < j) : 0 ≤ i.fmod j ∧ i.fmod j < j := ⟨Int.fmod_nonneg_of_pos _ h, Int.fmod_lt_of_pos _ h⟩
theorem putO_0 {a b c x : D} : putO (.lst [a, b, c]) (.int 0) x = some (.lst [x, b, c]) := by
  simp [putO, ixN]
theorem putO_2 {a b c x : D} : putO (.lst [a, b, c]) (.int 2) x = some (.lst [a, b, x]) := by
  simp [putO, ixN]
/-! ### atoms -/
abbrev tl (x : Str) : List Nat := x.cps.toList
def isLow (c : Nat) : Prop := 97 ≤ c ∧ c ≤ 122
def isDig (c : Nat) : Prop := 48 ≤ c ∧ c ≤ 57
instance (c : Nat) : Decidable (isLow c) := inferInstanceAs (Decidable (_ ∧ _))
instance (c : Nat) : Decidable (isDig c) := inferInstanceAs (Decidable (_ ∧ _))
/-- a name's base -/
structure Base (l : List Nat) (k : Nat) : Prop where
  ex : ∃ c r, l = c :: r ∧ isLow c ∧ (∀ x ∈ r, isLow x ∨ isDig x) ∧ r.length ≤ k
/-- an atom -/
structure Atm (s : Str) : Prop where
  ex : ∃ b, Base b 7 ∧ (tl s = b ∨ ∃ i, 1 ≤ i ∧ i ≤ 999999 ∧ tl s = b ++ 46 :: TL.numL i)
theorem tl_app {a b : Str} : tl (a ++ b) = tl a ++ tl b := TL.tl_append a b
theorem len_str {a : Str} : a.length = (tl a).length := TL.len_tl a
theorem ix_str {z : Str} {r : Nat} (hr : r < (tl z).length) (hz : z.length ≤ 100) : ixF (.str z) (.int (r : Nat)) = some (.d (.str ⟨#[(tl z)[r]]⟩)) := by
  show (if z.length ≤ sizeLine then (atI z.cps.toList (r : Nat)).map fun c => Fw.T.d (.str ⟨#[c]⟩) else none) = _
  rw [if_pos (Nat.le_trans hz (by decide)), atI_nat hr]
  rfl
theorem add_str {a b : Str} (h : a.length + b.length ≤ 10000) : binF .Add (.str a) (.str b) = some (.d (.str (a ++ b))) := by
  show (if a.length + b.length ≤ sizeLine then _ else _) = _
  rw [if_pos (Nat.le_trans h szl')]
theorem str_num {i : Nat} (h : i ≤ 2000000) : bltF .str [.int (i : Nat)] = some (.d (.str (Str.ofString (toString ((i : Nat) : Int))))) := by
  have : ((i : Nat) : Int).natAbs.log2 < 1920 := by
    have h2 : ((i : Nat) : Int).natAbs = i := rfl
    rw [h2]
    by_cases h0 : i = 0
    · subst h0; decide
    · exact (Nat.log2_lt h0).mpr (Nat.lt_of_le_of_lt h (Nat.lt_of_lt_of_le (by decide : 2000000 < 2 ^ 21) (Nat.pow_le_pow_right (by decide) (by decide))))
  show (if _ then _ else _) = _
  rw [if_pos this]
def small : Str := "abcdefghijklmnopqrstuvwxyz"
theorem small_low : ∀ x ∈ tl small, isLow x := by decide +kernel
theorem small_len : (tl small).length = 26 := by decide +kernel
end Tab

set_option maxHeartbeats 400000
namespace Tab
open PySem PySem.Spec PyProof.Rows L2 Fw
inductive Kd where
  | at (s : Str) | op (c : Str) (a b : Kd)
def Kd.d : Kd → D
  | .at s => .str s
  | .op c a b => .tup [.str c, a.d, b.d]
def Kd.sz : Kd → Nat
  | .at _ => 1
  | .op _ a b => a.sz + b.sz
def Kd.dep : Kd → Nat
  | .at _ => 0
  | .op _ a b => max a.dep b.dep + 1
def Kd.ats : Kd → List Str
  | .at s => [s]
  | .op _ a b => a.ats ++ b.ats
def Sgn (c : Str) : Prop := c = "/" ∨ c = ">" ∨ c = "*"
def Wf : Kd → Prop
  | .at _ => True
  | .op c a b => Sgn c ∧ Wf a ∧ Wf b
theorem Kd.dep_lt : ∀ k : Kd, k.dep < k.sz
  | .at _ => Nat.zero_lt_one
  | .op _ a b => by
    have h1 := a.dep_lt
    have h2 := b.dep_lt
    show max a.dep b.dep + 1 < a.sz + b.sz
    omega
theorem sign_ix {r : Nat} (h : r < 3) : ∃ c : Str, Sgn c ∧ ixF (.str ("/>*" : Str)) (.int (r : Nat)) = some (.d (.str c)) := by
  have e : tl ("/>*" : Str) = [47, 62, 42] := by decide +kernel
  have x := fun (r : Nat) (h : r < (tl ("/>*" : Str)).length) => ix_str (z := ("/>*" : Str)) (r := r) h (by decide +kernel)
  match r, h with
  | 0, _ => exact ⟨"/", .inl rfl, (x 0 (by rw [e]; decide)).trans (by rfl)⟩
  | 1, _ => exact ⟨">", .inr (.inl rfl), (x 1 (by rw [e]; decide)).trans (by rfl)⟩
  | 2, _ => exact ⟨"*", .inr (.inr rfl), (x 2 (by rw [e]; decide)).trans (by rfl)⟩
/-! ### rows -/
theorem rowI_len {l : List Int} : bltF .len [rowI l] = some (.d (.int l.length)) := by
  show some (iD _) = _
  rw [List.length_map]
  rfl
theorem cut_take {l : List Int} {k : Nat} : slF (rowI l) none (some (k : Int)) = some (.d (rowI (l.take k))) := by
  show some (Fw.T.d (.tup (cutD _ _ _))) = _
  rw [cut_to, ← List.map_take]
  rfl
theorem cut_drop {l : List Int} {k : Nat} : slF (rowI l) (some (k : Int)) none = some (.d (rowI (l.drop k))) := by
  show some (Fw.T.d (.tup (cutD _ _ _))) = _
  rw [cut_from, ← List.map_drop]
  rfl
theorem cut_mid {l : List Int} {a b : Nat} (ha : a ≤ l.length) (hb : b ≤ l.length) : slF (rowI l) (some (a : Int)) (some (b : Int)) = some (.d (rowI ((l.drop a).take (b - a)))) := by
  show some (Fw.T.d (.tup (cutD _ _ _))) = _
  rw [cut_of (by simpa using ha) (by simpa using hb), ← List.map_drop, ← List.map_take]
  rfl
/-- a set of rows -/
abbrev setR (m : List (List Int)) : D := setX rowI (.bl true) m
theorem nin_row {m : List (List Int)} {l : List Int} : cmpF .NotIn (rowI l) (setR m) = some (!decide (l ∈ m)) := by
  rw [show setR m = D.dic (m.map rowI) (m.map fun _ => .bl true) from rfl, emb_row.nin]
  congr
theorem in_row {m : List (List Int)} {l : List Int} : cmpF .In (rowI l) (setR m) = some (decide (l ∈ m)) := by
  rw [show setR m = D.dic (m.map rowI) (m.map fun _ => .bl true) from rfl, emb_row.in_]
  congr
end Tab

set_option maxHeartbeats 400000
namespace Tab
open PySem PySem.Spec PyProof.Rows L2 Fw
abbrev Row := List Int
abbrev Bans := List (Str × List Row)
def linesD (ls : List Row) : D := .tup (ls.map rowI)
def banD (p : Str × List Row) : D := .tup [.str p.1, linesD p.2]
def bansD (B : Bans) : D := .tup (B.map banD)
def cuts (l : Row) : List Nat := List.range' 1 (l.length - 1)
theorem mem_cuts {l : Row} {c : Nat} : c ∈ cuts l ↔ 1 ≤ c ∧ c < l.length := by
  unfold cuts
  rw [List.mem_range'_1]
  omega
/-- all stretches -/
def stretches (l : Row) : List Row := (List.range l.length).flatMap fun s => (List.range' (s + 1) (l.length - s)).map fun e => (l.drop s).take (e - s)
theorem mem_str {l x : Row} : x ∈ stretches l ↔ ∃ s e, s < e ∧ e ≤ l.length ∧ x = (l.drop s).take (e - s) := by
  unfold stretches
  simp only [List.mem_flatMap, List.mem_range, List.mem_map, List.mem_range'_1]
  constructor
  · rintro ⟨s, hs, e, he, rfl⟩
    exact ⟨s, e, by omega, by omega, rfl⟩
  · rintro ⟨s, e, h1, h2, rfl⟩
    exact ⟨s, by omega, e, by omega, rfl⟩
def St (B : Bans) : List Row := B.flatMap fun p => p.2.flatMap stretches
theorem mem_St {B : Bans} {x : Row} : x ∈ St B ↔ ∃ p ∈ B, ∃ l ∈ p.2, x ∈ stretches l := by
  unfold St
  simp only [List.mem_flatMap]
/-- a stretch of a stretch -/
theorem str_str {l x y : Row} (h : x ∈ stretches l) (h' : y ∈ stretches x) : y ∈ stretches l := by
  obtain ⟨s, e, h1, h2, rfl⟩ := mem_str.mp h
  obtain ⟨s', e', h3, h4, rfl⟩ := mem_str.mp h'
  have hl : ((l.drop s).take (e - s)).length = e - s := by rw [List.length_take, List.length_drop]; omega
  rw [hl] at h4
  refine mem_str.mpr ⟨s + s', s + e', by omega, by omega, ?_⟩
  rw [List.drop_take, List.drop_drop, List.take_take]
  congr 1
  omega
theorem str_self {l : Row} (h : l ≠ []) : l ∈ stretches l := by
  refine mem_str.mpr ⟨0, l.length, ?_, Nat.le_refl _, by simp⟩
  cases l with
  | nil => exact absurd rfl h
  | cons => simp
theorem take_str {l : Row} {c : Nat} (h : 1 ≤ c) (h' : c ≤ l.length) : l.take c ∈ stretches l := mem_str.mpr ⟨0, c, by omega, h', by simp⟩
theorem drop_str {l : Row} {c : Nat} (h : c < l.length) : l.drop c ∈ stretches l := mem_str.mpr ⟨c, l.length, h, Nat.le_refl _, by rw [List.take_of_length_le]; simp⟩
theorem St_up {B : Bans} {x y : Row} (h : x ∈ St B) (h' : y ∈ stretches x) : y ∈ St B := by
  obtain ⟨p, hp, l, hl, hx⟩ := mem_St.mp h
  exact mem_St.mpr ⟨p, hp, l, hl, str_str hx h'⟩
theorem St_ne {B : Bans} {x : Row} (h : x ∈ St B) : x ≠ [] := by
  obtain ⟨p, hp, l, hl, hx⟩ := mem_St.mp h
  obtain ⟨s, e, h1, h2, rfl⟩ := mem_str.mp hx
  intro z
  have := congrArg List.length z
  rw [List.length_take, List.length_drop] at this
  simp at this
  omega
/-! ### sizes -/
theorem nd_le {α : Type} [DecidableEq α] : ∀ {m s : List α}, m.Nodup → (∀ x ∈ m, x ∈ s) → m.length ≤ s.length
  | [], s, _, _ => Nat.zero_le _
  | a :: m, s, h, hs => by
    have h1 := hs a List.mem_cons_self
    have h2 := nd_le (m := m) (s := s.erase a) (List.nodup_cons.mp h).2 fun x hx => by
      have : x ≠ a := fun z => (List.nodup_cons.mp h).1 (z ▸ hx)
      exact (List.mem_erase_of_ne this).mpr (hs x (List.mem_cons_of_mem _ hx))
    rw [List.length_erase_of_mem h1] at h2
    have h3 := List.length_pos_of_mem h1
    rw [List.length_cons]
    omega
theorem sum_le {α : Type} {f : α → Nat} {c : Nat} : ∀ {l : List α}, (∀ x ∈ l, f x ≤ c) → (l.map f).sum ≤ l.length * c
  | [], _ => by simp
  | a :: l, h => by
    have h1 := h a List.mem_cons_self
    have h2 := sum_le (l := l) (f := f) (c := c) fun x hx => h x (List.mem_cons_of_mem _ hx)
    rw [List.map_cons, List.sum_cons, List.length_cons, Nat.succ_mul]
    omega
theorem flat_len {α β : Type} {g : α → List β} {c : Nat} {l : List α} (h : ∀ x ∈ l, (g x).length ≤ c) : (l.flatMap g).length ≤ l.length * c := by
  rw [List.length_flatMap]
  exact sum_le h
/-- what a list of bans may be -/
structure BOk (B : Bans) : Prop where
  ls : ∀ p ∈ B, p.2.length ≤ 100
  ln : ∀ p ∈ B, ∀ l ∈ p.2, l ≠ [] ∧ l.length ≤ 80
  st : (St B).length ≤ 400000
theorem szM : 400000 < sizeLine := by decide
theorem szF : 700000 < sizeLine := by decide
theorem set_put {m : List Row} {a : Row} (hl : m.length < sizeLine) : dPutF (m.map rowI) (m.map fun _ => D.bl true) (rowI a) (.bl true) = some ((ins m a).map rowI, (ins m a).map fun _ => .bl true) := emb_row.put hl
theorem set_ok {B : Bans} (b : BOk B) {m : List Row} (nd : m.Nodup) (h : ∀ x ∈ m, x ∈ St B) : m.length < sizeLine := Nat.lt_of_le_of_lt (Nat.le_trans (nd_le nd h) b.st) szM
theorem fold_ins {α β : Type} [DecidableEq β] {g : α → List β} : ∀ {l : List α} {m : List β}, l.foldl (fun m x => insAll m (g x)) m = insAll m (l.flatMap g)
  | [], m => rfl
  | a :: l, m => by
    rw [List.foldl_cons, fold_ins, List.flatMap_cons, insAll_app]
/-! ### the program's sets -/
def atomB (B : Bans) (a : Str) : List Row := insAll [] (B.flatMap fun p => if p.1 = a then p.2 else [])
def overB (F S : List Row) : List Row := insAll [] (F.flatMap fun l => (cuts l).flatMap fun c => if l.drop c ∈ S then [] else [l.take c])
def underB (F S : List Row) : List Row := insAll [] (S.flatMap fun l => (cuts l).flatMap fun c => if l.take c ∈ F then [] else [l.drop c])
def allowed (l : Row) (F S : List Row) : Bool := (cuts l).any fun c => !decide (l.take c ∈ F) && !decide (l.drop c ∈ S)
def framesB (ls : List Row) (F S : List Row) : List (Row × Row) := insAll [] (ls.flatMap fun l => (List.range l.length).flatMap fun s => (List.range' (s + 2) (l.length - (s + 1))).flatMap fun e => if allowed ((l.drop s).take (e - s)) F S then [(l.take s, l.drop e)] else [])
def pairB (B : Bans) (F S : List Row) : List Row := insAll [] (B.flatMap fun p => p.2.flatMap fun l => (List.range l.length).flatMap fun s => (List.range' (s + 1) (l.length - s)).flatMap fun e => if (l.take s, l.drop e) ∈ framesB p.2 F S then [] else [(l.drop s).take (e - s)])
def KB (B : Bans) : Kd → List Row
  | .at s => atomB B s
  | .op c a b => if c = "/" then overB (KB B a) (KB B b) else if c = ">" then underB (KB B a) (KB B b) else pairB B (KB B a) (KB B b)
/-- a set among the stretches -/
structure SOk (B : Bans) (m : List Row) : Prop where
  nd : m.Nodup
  st : ∀ x ∈ m, x ∈ St B
theorem SOk.len {B : Bans} (b : BOk B) {m : List Row} (h : SOk B m) : m.length < sizeLine := set_ok b h.nd h.st
theorem SOk.all {B : Bans} {as : List Row} (h : ∀ x ∈ as, x ∈ St B) : SOk B (insAll [] as) := ⟨nd_insAll List.nodup_nil, fun x hx => by
  rcases mem_insAll.mp hx with h' | h'
  · cases h'
  · exact h x h'⟩
theorem SOk.row {B : Bans} (b : BOk B) {m : List Row} (h : SOk B m) {l : Row} (hl : l ∈ m) : l ≠ [] ∧ l.length ≤ 80 := by
  have h1 := h.st l hl
  refine ⟨St_ne h1, ?_⟩
  obtain ⟨p, hp, l', hl', hx⟩ := mem_St.mp h1
  have := (b.ln p hp l' hl').2
  obtain ⟨s, e, z1, z2, rfl⟩ := mem_str.mp hx
  rw [List.length_take, List.length_drop]
  omega
theorem e_atom_banned (B : Bans) (b : BOk B) (a : Str) (n : Nat) (hn : 0 < n) : Pure (cl n) "atom_banned" [bansD B, .str a] (setR (atomB B a)) := by
  obtain ⟨n, rfl⟩ : ∃ m, n = m + 1 := ⟨n - 1, by omega⟩
  refine pure_by m_atom_banned rfl (Nat.le_of_ble_eq_true rfl) ?_
  obtain ⟨P, hP⟩ : ∃ P : List Row → List Sl → Prop, P = fun m ρ => ∃ s1 s2 s3, Fre s1 ∧ Fre s2 ∧ Fre s3 ∧ ρ = [.d (.tup (B.map banD)), .d (.str a), .own (.dic (m.map rowI) (m.map fun _ => .bl true)), s1, s2, s3] := ⟨_, rfl⟩
  have mk : ∀ {m s1 s2 s3}, Fre s1 → Fre s2 → Fre s3 → P m [.d (.tup (B.map banD)), .d (.str a), .own (.dic (m.map rowI) (m.map fun _ => .bl true)), s1, s2, s3] := fun h1 h2 h3 => hP ▸ ⟨_, _, _, h1, h2, h3, rfl⟩
  have un : ∀ {m ρ}, P m ρ → ∃ s1 s2 s3, Fre s1 ∧ Fre s2 ∧ Fre s3 ∧ ρ = [.d (.tup (B.map banD)), .d (.str a), .own (.dic (m.map rowI) (m.map fun _ => .bl true)), s1, s2, s3] := fun h => by rw [hP] at h; exact h
  clear hP
  simp -implicitDefEqProofs [f_atom_banned, bansD]
  refine run_fold (S := List Row) (e := banD) (xs := B) (fun m p => insAll m (if p.1 = a then p.2 else [])) [] P (mk (m := []) .no .no .no) (fun pre p post hx ρ q => ?_) fun ρ q => ?_
  · obtain ⟨s1, s2, s3, h1, h2, h3, rfl⟩ := un q
    rw [fold_ins]
    have ok : SOk B (insAll [] (pre.flatMap (fun p => if p.1 = a then p.2 else []))) := SOk.all fun x hx' => by
      obtain ⟨q, hq, hx'⟩ := List.mem_flatMap.mp hx'
      split at hx'
      · have hb : q ∈ B := by rw [hx]; exact List.mem_append_left _ hq
        exact mem_St.mpr ⟨q, hb, x, hx', str_self (b.ln q hb x hx').1⟩
      · cases hx'
    have hp : p ∈ B := by rw [hx]; simp
    generalize insAll [] (pre.flatMap fun p => if p.1 = a then p.2 else []) = m at ok
    refine ⟨_, by simp -implicitDefEqProofs [banD, h1.bo, h2.bo]; rfl, ?_⟩
    by_cases ha : p.1 = a
    · rw [show (if p.1 = a then p.2 else []) = p.2 from if_pos ha]
      simp -implicitDefEqProofs [ha, linesD]
      refine run_fold (S := List Row) (e := rowI) (xs := p.2) ins m P (mk Fre.d Fre.d h3) (fun pre' x post' hx' ρ q => ?_) fun ρ q => ?_
      · obtain ⟨s1, s2, s3, h1, h2, h3, rfl⟩ := un q
        rw [show pre'.foldl ins m = insAll m pre' from rfl]
        have ok' : (insAll m pre').length < sizeLine := set_ok b (nd_insAll ok.nd) fun y hy => by
          rcases mem_insAll.mp hy with hy | hy
          · exact ok.st y hy
          · have : y ∈ p.2 := by
              rw [hx']
              exact List.mem_append_left _ hy
            exact mem_St.mpr ⟨p, hp, y, this, str_self (b.ln p hp y this).1⟩
        refine ⟨_, bindT_fre h3 rfl, ?_⟩
        simp -implicitDefEqProofs [set_put ok']
        exact mk h1 h2 Fre.d
      · obtain ⟨s1, s2, s3, h1, h2, h3, rfl⟩ := un q
        simp -implicitDefEqProofs
        exact mk h1 h2 h3
    · simp -implicitDefEqProofs [ha]
      exact mk Fre.d Fre.d h3
  · obtain ⟨s1, s2, s3, h1, h2, h3, rfl⟩ := un q
    rw [fold_ins]
    simp -implicitDefEqProofs [setX, atomB]
end Tab

set_option maxHeartbeats 400000
namespace Tab
open PySem PySem.Spec PyProof.Rows L2 Fw
def natD (k : Nat) : D := .int k
theorem rng_cuts {l : Row} (h : l.length ≤ 10000) : rngF [.int 1, .int (l.length : Nat)] = some ((cuts l).map natD) := rng2 (a := 1) h (by decide)
theorem rng_n {n : Nat} (h : n ≤ 10000) : rngF [.int (n : Int)] = some ((List.range n).map natD) := rng1 h
theorem rng_s2 {s n : Nat} (h : n + 1 ≤ 10000) (hs : s ≤ 9000) : rngF [.int ((s : Int) + 2), .int ((n : Int) + 1)] = some ((List.range' (s + 2) (n - (s + 1))).map natD) := by
  have := rng2 (a := s + 2) (b := n + 1) h (by omega)
  rw [show n + 1 - (s + 2) = n - (s + 1) by omega] at this
  exact this
theorem rng_s1 {s n : Nat} (h : n + 1 ≤ 10000) (hs : s ≤ 9000) : rngF [.int ((s : Int) + 1), .int ((n : Int) + 1)] = some ((List.range' (s + 1) (n - s)).map natD) := by
  have := rng2 (a := s + 1) (b := n + 1) h (by omega)
  rw [show n + 1 - (s + 1) = n - s by omega] at this
  exact this
theorem SOk.pre {B : Bans} {α : Type} {g : α → List Row} {xs : List α} (h : SOk B (insAll [] (xs.flatMap g))) {pre post : List α} {x : α} (e : xs = pre ++ x :: post) : SOk B (insAll [] (pre.flatMap g)) := by
  refine SOk.all fun y hy => h.st y (mem_insAll.mpr (.inr ?_))
  rw [e, List.flatMap_append]
  exact List.mem_append_left _ hy
theorem SOk.more {B : Bans} {m as : List Row} (h : SOk B m) (ha : ∀ x ∈ as, x ∈ St B) : SOk B (insAll m as) := ⟨nd_insAll h.nd, fun x hx => by
  rcases mem_insAll.mp hx with h' | h'
  · exact h.st x h'
  · exact ha x h'⟩
theorem over_ok {B : Bans} (b : BOk B) {F S : List Row} (hF : SOk B F) {l : Row} (hl : l ∈ F) : ∀ x ∈ (cuts l).flatMap (fun c => if l.drop c ∈ S then [] else [l.take c]), x ∈ St B := fun x hx => by
  obtain ⟨c, hc, hx⟩ := List.mem_flatMap.mp hx
  have := mem_cuts.mp hc
  split at hx
  · cases hx
  · rw [List.mem_singleton.mp hx]
    exact St_up (hF.st l hl) (take_str this.1 (by omega))
theorem under_ok {B : Bans} (b : BOk B) {F S : List Row} (hS : SOk B S) {l : Row} (hl : l ∈ S) : ∀ x ∈ (cuts l).flatMap (fun c => if l.take c ∈ F then [] else [l.drop c]), x ∈ St B := fun x hx => by
  obtain ⟨c, hc, hx⟩ := List.mem_flatMap.mp hx
  have := mem_cuts.mp hc
  split at hx
  · cases hx
  · rw [List.mem_singleton.mp hx]
    exact St_up (hS.st l hl) (drop_str (by omega))
theorem e_over (B : Bans) (b : BOk B) (F S : List Row) (hF : SOk B F) (n : Nat) (hn : 0 < n) : Pure (cl n) "over_banned" [setR F, setR S] (setR (overB F S)) := by
  obtain ⟨n, rfl⟩ : ∃ m, n = m + 1 := ⟨n - 1, by omega⟩
  refine pure_by m_over_banned rfl (Nat.le_of_ble_eq_true rfl) ?_
  obtain ⟨P, hP⟩ : ∃ P : Sl → List Row → List Sl → Prop, P = fun s1 m ρ => ∃ s2, Fre s2 ∧ ρ = [.d (setR F), .d (setR S), .own (.dic (m.map rowI) (m.map fun _ => .bl true)), s1, s2] := ⟨_, rfl⟩
  have mk : ∀ {m s1 s2}, Fre s2 → P s1 m [.d (setR F), .d (setR S), .own (.dic (m.map rowI) (m.map fun _ => .bl true)), s1, s2] := fun h2 => hP ▸ ⟨_, h2, rfl⟩
  have un : ∀ {s1 m ρ}, P s1 m ρ → ∃ s2, Fre s2 ∧ ρ = [.d (setR F), .d (setR S), .own (.dic (m.map rowI) (m.map fun _ => .bl true)), s1, s2] := fun h => by rw [hP] at h; exact h
  clear hP
  have it : items (setR F) = some (F.map rowI) := rfl
  simp -implicitDefEqProofs [f_over_banned, it]
  refine run_fold (S := List Row) (e := rowI) (xs := F) (fun m l => insAll m ((cuts l).flatMap fun c => if l.drop c ∈ S then [] else [l.take c])) [] (fun m ρ => ∃ s1, Fre s1 ∧ P s1 m ρ) ⟨_, .no, mk (m := []) .no⟩ (fun pre l post hx ρ q => ?_) fun ρ q => ?_
  · obtain ⟨s1, h1, q⟩ := q
    obtain ⟨s2, h2, rfl⟩ := un q
    rw [fold_ins]
    have hl : l ∈ F := by rw [hx]; simp
    have ok : SOk B (insAll [] (pre.flatMap fun l => (cuts l).flatMap fun c => if l.drop c ∈ S then [] else [l.take c])) := SOk.all fun x hx' => by
      obtain ⟨l', hl', hx'⟩ := List.mem_flatMap.mp hx'
      exact over_ok b hF (by rw [hx]; exact List.mem_append_left _ hl') x hx'
    have fin := over_ok b hF (S := S) hl
    generalize insAll [] (pre.flatMap fun l => (cuts l).flatMap fun c => if l.drop c ∈ S then [] else [l.take c]) = m at ok
    have ll := (hF.row b hl).2
    refine ⟨_, bindT_fre h1 rfl, ?_⟩
    simp -implicitDefEqProofs [rowI_len, rng_cuts (l := l) (by omega)]
    refine run_fold (S := List Row) (e := natD) (xs := cuts l) (fun m c => insAll m (if l.drop c ∈ S then [] else [l.take c])) m (P (.d (rowI l))) (mk h2) (fun pre' c post' hx' ρ q => ?_) fun ρ q => ?_
    · obtain ⟨s2, h2, rfl⟩ := un q
      rw [fold_ins]
      have ok2 : (insAll m (pre'.flatMap fun c => if l.drop c ∈ S then [] else [l.take c])).length < sizeLine := SOk.len b (ok.more fun x hx2 => fin x (by
        rw [hx', List.flatMap_append]
        exact List.mem_append_left _ hx2))
      generalize insAll m (pre'.flatMap fun c => if l.drop c ∈ S then [] else [l.take c]) = m2 at ok2
      refine ⟨_, bindT_fre h2 rfl, ?_⟩
      by_cases hc : l.drop c ∈ S
      · simp -implicitDefEqProofs [natD, cut_drop, nin_row, hc]
        exact mk Fre.d
      · simp -implicitDefEqProofs [natD, cut_drop, cut_take, nin_row, hc, set_put ok2]
        exact mk Fre.d
    · obtain ⟨s2, h2, rfl⟩ := un q
      rw [fold_ins]
      simp -implicitDefEqProofs
      exact ⟨_, Fre.d, mk h2⟩
  · obtain ⟨s1, h1, q⟩ := q
    obtain ⟨s2, h2, rfl⟩ := un q
    rw [fold_ins]
    simp -implicitDefEqProofs [setX, overB]
theorem e_under (B : Bans) (b : BOk B) (F S : List Row) (hS : SOk B S) (n : Nat) (hn : 0 < n) : Pure (cl n) "under_banned" [setR F, setR S] (setR (underB F S)) := by
  obtain ⟨n, rfl⟩ : ∃ m, n = m + 1 := ⟨n - 1, by omega⟩
  refine pure_by m_under_banned rfl (Nat.le_of_ble_eq_true rfl) ?_
  obtain ⟨P, hP⟩ : ∃ P : Sl → List Row → List Sl → Prop, P = fun s1 m ρ => ∃ s2, Fre s2 ∧ ρ = [.d (setR F), .d (setR S), .own (.dic (m.map rowI) (m.map fun _ => .bl true)), s1, s2] := ⟨_, rfl⟩
  have mk : ∀ {m s1 s2}, Fre s2 → P s1 m [.d (setR F), .d (setR S), .own (.dic (m.map rowI) (m.map fun _ => .bl true)), s1, s2] := fun h2 => hP ▸ ⟨_, h2, rfl⟩
  have un : ∀ {s1 m ρ}, P s1 m ρ → ∃ s2, Fre s2 ∧ ρ = [.d (setR F), .d (setR S), .own (.dic (m.map rowI) (m.map fun _ => .bl true)), s1, s2] := fun h => by rw [hP] at h; exact h
  clear hP
  have it : items (setR S) = some (S.map rowI) := rfl
  simp -implicitDefEqProofs [f_under_banned, it]
  refine run_fold (S := List Row) (e := rowI) (xs := S) (fun m l => insAll m ((cuts l).flatMap fun c => if l.take c ∈ F then [] else [l.drop c])) [] (fun m ρ => ∃ s1, Fre s1 ∧ P s1 m ρ) ⟨_, .no, mk (m := []) .no⟩ (fun pre l post hx ρ q => ?_) fun ρ q => ?_
  · obtain ⟨s1, h1, q⟩ := q
    obtain ⟨s2, h2, rfl⟩ := un q
    rw [fold_ins]
    have hl : l ∈ S := by rw [hx]; simp
    have ok : SOk B (insAll [] (pre.flatMap fun l => (cuts l).flatMap fun c => if l.take c ∈ F then [] else [l.drop c])) := SOk.all fun x hx' => by
      obtain ⟨l', hl', hx'⟩ := List.mem_flatMap.mp hx'
      exact under_ok b hS (by rw [hx]; exact List.mem_append_left _ hl') x hx'
    have fin := under_ok b hS (F := F) hl
    generalize insAll [] (pre.flatMap fun l => (cuts l).flatMap fun c => if l.take c ∈ F then [] else [l.drop c]) = m at ok
    have ll := (hS.row b hl).2
    refine ⟨_, bindT_fre h1 rfl, ?_⟩
    simp -implicitDefEqProofs [rowI_len, rng_cuts (l := l) (by omega)]
    refine run_fold (S := List Row) (e := natD) (xs := cuts l) (fun m c => insAll m (if l.take c ∈ F then [] else [l.drop c])) m (P (.d (rowI l))) (mk h2) (fun pre' c post' hx' ρ q => ?_) fun ρ q => ?_
    · obtain ⟨s2, h2, rfl⟩ := un q
      rw [fold_ins]
      have ok2 : (insAll m (pre'.flatMap fun c => if l.take c ∈ F then [] else [l.drop c])).length < sizeLine := SOk.len b (ok.more fun x hx2 => fin x (by
        rw [hx', List.flatMap_append]
        exact List.mem_append_left _ hx2))
      generalize insAll m (pre'.flatMap fun c => if l.take c ∈ F then [] else [l.drop c]) = m2 at ok2
      refine ⟨_, bindT_fre h2 rfl, ?_⟩
      by_cases hc : l.take c ∈ F
      · simp -implicitDefEqProofs [natD, cut_take, nin_row, hc]
        exact mk Fre.d
      · simp -implicitDefEqProofs [natD, cut_drop, cut_take, nin_row, hc, set_put ok2]
        exact mk Fre.d
    · obtain ⟨s2, h2, rfl⟩ := un q
      rw [fold_ins]
      simp -implicitDefEqProofs
      exact ⟨_, Fre.d, mk h2⟩
  · obtain ⟨s1, h1, q⟩ := q
    obtain ⟨s2, h2, rfl⟩ := un q
    rw [fold_ins]
    simp -implicitDefEqProofs [setX, underB]
end Tab

set_option maxHeartbeats 400000
namespace Tab
open PySem PySem.Spec PyProof.Rows L2 Fw
theorem bools_map {α : Type} {f : α → Bool} : ∀ xs : List α, D.bools (xs.map fun x => D.bl (f x)) = some (xs.map f)
  | [] => rfl
  | x :: xs => by
    show (D.bools (xs.map fun x => D.bl (f x))).map (f x :: ·) = _
    rw [bools_map xs]
    rfl
theorem any_bl {α : Type} {f : α → Bool} {xs : List α} : bltF .any [.lst (xs.map fun x => D.bl (f x))] = some (.d (.bl (xs.any f))) := by
  show (D.bools (xs.map fun x => D.bl (f x))).map (fun bs => Fw.T.d (.bl (bs.any id))) = _
  rw [bools_map]
  show some (Fw.T.d (.bl ((xs.map f).any id))) = _
  rw [List.any_map]
  rfl
theorem all_bl {α : Type} {f : α → Bool} {xs : List α} : bltF .all [.lst (xs.map fun x => D.bl (f x))] = some (.d (.bl (xs.all f))) := by
  show (D.bools (xs.map fun x => D.bl (f x))).map (fun bs => Fw.T.d (.bl (bs.all id))) = _
  rw [bools_map]
  show some (Fw.T.d (.bl ((xs.map f).all id))) = _
  rw [List.all_map]
  rfl
theorem e_allowed (l : Row) (hl : l.length ≤ 1000) (F S : List Row) (n : Nat) (hn : 0 < n) : Pure (cl n) "is_allowed_row" [rowI l, setR F, setR S] (.bl (allowed l F S)) := by
  obtain ⟨n, rfl⟩ : ∃ m, n = m + 1 := ⟨n - 1, by omega⟩
  show Pure (cl (n + 1)) f_is_allowed_row.name [rowI l, setR F, setR S] _
  refine pure_by m_is_allowed_row rfl (Nat.le_of_ble_eq_true rfl) ?_
  have z := szl'
  have lc : (cuts l).length ≤ sizeLine := Nat.le_trans (by unfold cuts; rw [List.length_range']; omega : (cuts l).length ≤ 10000) z
  simp -implicitDefEqProofs [f_is_allowed_row, rowI_len, rng_cuts (l := l) (by omega)]
  refine run_map1 (f := natD) (ps := cuts l) (h := fun c => .bl (!decide (l.take c ∈ F) && !decide (l.drop c ∈ S))) (fun c hc => ?_) ?_
  · simp -implicitDefEqProofs [natD, cut_take, cut_drop, nin_row]
    by_cases h1 : l.take c ∈ F
    · simp -implicitDefEqProofs [h1]
    · simp -implicitDefEqProofs [h1, cut_drop, nin_row]
  · simp -implicitDefEqProofs [lc, any_bl, allowed]
end Tab

set_option maxHeartbeats 400000
namespace Tab
open PySem PySem.Spec PyProof.Rows L2 Fw
abbrev setF2 (m : List (Row × Row)) : D := setX rows2 (.bl true) m
theorem nin_rows2 {m : List (Row × Row)} {a b : Row} : cmpF .NotIn (.tup [rowI a, rowI b]) (setF2 m) = some (!decide ((a, b) ∈ m)) := by
  rw [show setF2 m = D.dic (m.map rows2) (m.map fun _ => .bl true) from rfl, show D.tup [rowI a, rowI b] = rows2 (a, b) from rfl, emb_rows2.nin]
  congr
theorem set2_put {m : List (Row × Row)} {a b : Row} (hl : m.length < sizeLine) : dPutF (m.map rows2) (m.map fun _ => D.bl true) (.tup [rowI a, rowI b]) (.bl true) = some ((ins m (a, b)).map rows2, (ins m (a, b)).map fun _ => .bl true) := emb_rows2.put (a := (a, b)) hl
/-- all frames -/
def Fr (ls : List Row) : List (Row × Row) := ls.flatMap fun l => (List.range l.length).flatMap fun s => (List.range' 0 (l.length + 1)).map fun e => (l.take s, l.drop e)
theorem mem_Fr {ls : List Row} {l : Row} {s e : Nat} (hl : l ∈ ls) (hs : s < l.length) (he : e ≤ l.length) : (l.take s, l.drop e) ∈ Fr ls := by
  unfold Fr
  simp only [List.mem_flatMap, List.mem_range, List.mem_map, List.mem_range'_1]
  exact ⟨l, hl, s, hs, e, by omega, rfl⟩
theorem Fr_len {ls : List Row} (h1 : ls.length ≤ 100) (h2 : ∀ l ∈ ls, l.length ≤ 80) : (Fr ls).length ≤ 648000 := by
  unfold Fr
  refine Nat.le_trans (flat_len (c := 80 * 81) fun l hl => ?_) (by omega)
  refine Nat.le_trans (flat_len (c := 81) fun s hs => ?_) ?_
  · have := h2 l hl
    simp
    omega
  · have := h2 l hl
    simp
    omega
structure FOk (ls : List Row) (m : List (Row × Row)) : Prop where
  nd : m.Nodup
  fr : ∀ x ∈ m, x ∈ Fr ls
theorem FOk.len {ls : List Row} (h1 : ls.length ≤ 100) (h2 : ∀ l ∈ ls, l.length ≤ 80) {m : List (Row × Row)} (h : FOk ls m) : m.length < sizeLine :=
  Nat.lt_of_le_of_lt (Nat.le_trans (nd_le h.nd h.fr) (Fr_len h1 h2)) (Nat.lt_of_le_of_lt (by decide : 648000 ≤ 700000) szF)
theorem FOk.all {ls : List Row} {as : List (Row × Row)} (h : ∀ x ∈ as, x ∈ Fr ls) : FOk ls (insAll [] as) := ⟨nd_insAll List.nodup_nil, fun x hx => by
  rcases mem_insAll.mp hx with h' | h'
  · cases h'
  · exact h x h'⟩
theorem FOk.more {ls : List Row} {m as : List (Row × Row)} (h : FOk ls m) (ha : ∀ x ∈ as, x ∈ Fr ls) : FOk ls (insAll m as) := ⟨nd_insAll h.nd, fun x hx => by
  rcases mem_insAll.mp hx with h' | h'
  · exact h.fr x h'
  · exact ha x h'⟩
def g3 (F S : List Row) (l : Row) (s e : Nat) : List (Row × Row) := if allowed ((l.drop s).take (e - s)) F S then [(l.take s, l.drop e)] else []
def g2 (F S : List Row) (l : Row) (s : Nat) : List (Row × Row) := (List.range' (s + 2) (l.length - (s + 1))).flatMap (g3 F S l s)
def g1 (F S : List Row) (l : Row) : List (Row × Row) := (List.range l.length).flatMap (g2 F S l)
theorem framesB_eq (ls F S : List Row) : framesB ls F S = insAll [] (ls.flatMap (g1 F S)) := rfl
theorem g3_fr {F S ls : List Row} {l : Row} (hl : l ∈ ls) {s e : Nat} (hs : s < l.length) (he : e ≤ l.length) : ∀ x ∈ g3 F S l s e, x ∈ Fr ls := fun x hx => by
  unfold g3 at hx
  split at hx
  · rw [List.mem_singleton.mp hx]; exact mem_Fr hl hs he
  · cases hx
theorem g2_fr {F S ls : List Row} {l : Row} (hl : l ∈ ls) {s : Nat} (hs : s < l.length) : ∀ x ∈ g2 F S l s, x ∈ Fr ls := fun x hx => by
  unfold g2 at hx
  obtain ⟨e, he, hx⟩ := List.mem_flatMap.mp hx
  rw [List.mem_range'_1] at he
  exact g3_fr hl hs (by omega) x hx
theorem g1_fr {F S ls : List Row} {l : Row} (hl : l ∈ ls) : ∀ x ∈ g1 F S l, x ∈ Fr ls := fun x hx => by
  unfold g1 at hx
  obtain ⟨s, hs, hx⟩ := List.mem_flatMap.mp hx
  exact g2_fr hl (List.mem_range.mp hs) x hx
theorem e_frames (ls : List Row) (h1 : ls.length ≤ 100) (h2 : ∀ l ∈ ls, l.length ≤ 80) (F S : List Row) (n : Nat) (hn : 1 < n) : Pure (cl n) "allowed_frames" [linesD ls, setR F, setR S] (setF2 (framesB ls F S)) := by
  obtain ⟨n, rfl⟩ : ∃ m, n = m + 1 := ⟨n - 1, by omega⟩
  show Pure (cl (n + 1)) f_allowed_frames.name [linesD ls, setR F, setR S] _
  refine pure_by m_allowed_frames rfl (Nat.le_of_ble_eq_true rfl) ?_
  obtain ⟨P, hP⟩ : ∃ P : Sl → Sl → List (Row × Row) → List Sl → Prop, P = fun s4 s5 m ρ => ∃ s6, Fre s6 ∧ ρ = [.d (.tup (ls.map rowI)), .d (setR F), .d (setR S), .own (.dic (m.map rows2) (m.map fun _ => .bl true)), s4, s5, s6] := ⟨_, rfl⟩
  have mk : ∀ {m s4 s5 s6}, Fre s6 → P s4 s5 m [.d (.tup (ls.map rowI)), .d (setR F), .d (setR S), .own (.dic (m.map rows2) (m.map fun _ => .bl true)), s4, s5, s6] := fun h2 => hP ▸ ⟨_, h2, rfl⟩
  have un : ∀ {s4 s5 m ρ}, P s4 s5 m ρ → ∃ s6, Fre s6 ∧ ρ = [.d (.tup (ls.map rowI)), .d (setR F), .d (setR S), .own (.dic (m.map rows2) (m.map fun _ => .bl true)), s4, s5, s6] := fun h => by rw [hP] at h; exact h
  clear hP
  simp -implicitDefEqProofs [f_allowed_frames, linesD]
  refine run_fold (S := List (Row × Row)) (e := rowI) (xs := ls) (fun m l => insAll m (g1 F S l)) [] (fun m ρ => ∃ s4, Fre s4 ∧ ∃ s5, Fre s5 ∧ P s4 s5 m ρ) ⟨_, .no, _, .no, mk (m := []) .no⟩ (fun pre l post hx ρ q => ?_) fun ρ q => ?_
  · obtain ⟨s4, h4, s5, h5, q⟩ := q
    obtain ⟨s6, h6, rfl⟩ := un q
    rw [fold_ins]
    have hl : l ∈ ls := by rw [hx]; simp
    have ok : FOk ls (insAll [] (pre.flatMap (g1 F S))) := FOk.all fun x hx' => by
      obtain ⟨l', hl', hx'⟩ := List.mem_flatMap.mp hx'
      exact g1_fr (by rw [hx]; exact List.mem_append_left _ hl') x hx'
    generalize insAll [] (pre.flatMap (g1 F S)) = m at ok
    have ll := h2 l hl
    refine ⟨_, bindT_fre h4 rfl, ?_⟩
    simp -implicitDefEqProofs [rowI_len, rng_n (n := l.length) (by omega)]
    refine run_fold (S := List (Row × Row)) (e := natD) (xs := List.range l.length) (fun m s => insAll m (g2 F S l s)) m (fun m ρ => ∃ s5, Fre s5 ∧ P (.d (rowI l)) s5 m ρ) ⟨_, h5, mk h6⟩ (fun pre1 s post1 hx1 ρ q => ?_) fun ρ q => ?_
    · obtain ⟨s5, h5, q⟩ := q
      obtain ⟨s6, h6, rfl⟩ := un q
      rw [fold_ins]
      have hs : s < l.length := by
        have : s ∈ List.range l.length := by rw [hx1]; simp
        exact List.mem_range.mp this
      have ok1 : FOk ls (insAll m (pre1.flatMap (g2 F S l))) := ok.more fun x hx' => by
        obtain ⟨s', hs', hx'⟩ := List.mem_flatMap.mp hx'
        have : s' ∈ List.range l.length := by rw [hx1]; exact List.mem_append_left _ hs'
        exact g2_fr hl (List.mem_range.mp this) x hx'
      generalize insAll m (pre1.flatMap (g2 F S l)) = m1 at ok1
      have rg := rng_s2 (s := s) (n := l.length) (by omega) (by omega)
      refine ⟨_, bindT_fre h5 rfl, ?_⟩
      simp -implicitDefEqProofs [natD, rowI_len, rg]
      refine run_fold (S := List (Row × Row)) (e := natD) (xs := List.range' (s + 2) (l.length - (s + 1))) (fun m e => insAll m (g3 F S l s e)) m1 (P (.d (rowI l)) (.d (.int s))) (mk h6) (fun pre2 e post2 hx2 ρ q => ?_) fun ρ q => ?_
      · obtain ⟨s6, h6, rfl⟩ := un q
        rw [fold_ins]
        have he : s + 2 ≤ e ∧ e ≤ l.length := by
          have : e ∈ List.range' (s + 2) (l.length - (s + 1)) := by rw [hx2]; simp
          rw [List.mem_range'_1] at this
          omega
        have ok2 : (insAll m1 (pre2.flatMap (g3 F S l s))).length < sizeLine := (ok1.more fun x hx' => by
          obtain ⟨e', he', hx'⟩ := List.mem_flatMap.mp hx'
          have : e' ∈ List.range' (s + 2) (l.length - (s + 1)) := by rw [hx2]; exact List.mem_append_left _ he'
          rw [List.mem_range'_1] at this
          exact g3_fr hl hs (by omega) x hx' : FOk ls _).len h1 h2
        generalize insAll m1 (pre2.flatMap (g3 F S l s)) = m2 at ok2
        have al := e_allowed ((l.drop s).take (e - s)) (by rw [List.length_take, List.length_drop]; omega) F S n (by omega)
        refine ⟨_, bindT_fre h6 rfl, ?_⟩
        unfold g3
        have cm := cut_mid (l := l) (a := s) (b := e) (by omega) (by omega)
        by_cases hc : allowed ((l.drop s).take (e - s)) F S = true
        · rw [hc] at al
          simp -implicitDefEqProofs [natD, cm, cut_take, cut_drop, call_p3 al, hc, set2_put ok2]
          exact mk Fre.d
        · rw [Bool.not_eq_true] at hc
          rw [hc] at al
          simp -implicitDefEqProofs [natD, cm, call_p3 al, hc]
          exact mk Fre.d
      · obtain ⟨s6, h6, rfl⟩ := un q
        rw [fold_ins]
        simp -implicitDefEqProofs
        exact ⟨_, Fre.d, mk h6⟩
    · obtain ⟨s5, h5, q⟩ := q
      obtain ⟨s6, h6, rfl⟩ := un q
      rw [fold_ins]
      simp -implicitDefEqProofs
      exact ⟨_, Fre.d, _, h5, mk h6⟩
  · obtain ⟨s4, h4, s5, h5, q⟩ := q
    obtain ⟨s6, h6, rfl⟩ := un q
    rw [fold_ins]
    simp -implicitDefEqProofs [setX, framesB_eq]
end Tab

set_option maxHeartbeats 400000
namespace Tab
open PySem PySem.Spec PyProof.Rows L2 Fw
def q4 (F S : List Row) (ls : List Row) (l : Row) (s e : Nat) : List Row := if (l.take s, l.drop e) ∈ framesB ls F S then [] else [(l.drop s).take (e - s)]
def q3 (F S : List Row) (ls : List Row) (l : Row) (s : Nat) : List Row := (List.range' (s + 1) (l.length - s)).flatMap (q4 F S ls l s)
def q2 (F S : List Row) (ls : List Row) (l : Row) : List Row := (List.range l.length).flatMap (q3 F S ls l)
def q1 (F S : List Row) (p : Str × List Row) : List Row := p.2.flatMap (q2 F S p.2)
theorem pairB_eq (B : Bans) (F S : List Row) : pairB B F S = insAll [] (B.flatMap (q1 F S)) := rfl
theorem q4_st {F S ls : List Row} {l : Row} {s e : Nat} (hs : s < e) (he : e ≤ l.length) : ∀ x ∈ q4 F S ls l s e, x ∈ stretches l := fun x hx => by
  unfold q4 at hx
  split at hx
  · cases hx
  · rw [List.mem_singleton.mp hx]; exact mem_str.mpr ⟨s, e, hs, he, rfl⟩
theorem q3_st {F S ls : List Row} {l : Row} {s : Nat} : ∀ x ∈ q3 F S ls l s, x ∈ stretches l := fun x hx => by
  unfold q3 at hx
  obtain ⟨e, he, hx⟩ := List.mem_flatMap.mp hx
  rw [List.mem_range'_1] at he
  exact q4_st (by omega) (by omega) x hx
theorem q2_st {F S ls : List Row} {l : Row} : ∀ x ∈ q2 F S ls l, x ∈ stretches l := fun x hx => by
  unfold q2 at hx
  obtain ⟨s, hs, hx⟩ := List.mem_flatMap.mp hx
  exact q3_st x hx
theorem q1_st {F S : List Row} {B : Bans} {p : Str × List Row} (hp : p ∈ B) : ∀ x ∈ q1 F S p, x ∈ St B := fun x hx => by
  unfold q1 at hx
  obtain ⟨l, hl, hx⟩ := List.mem_flatMap.mp hx
  exact mem_St.mpr ⟨p, hp, l, hl, q2_st x hx⟩
theorem e_pair (B : Bans) (b : BOk B) (F S : List Row) (n : Nat) (hn : 2 < n) : Pure (cl n) "pair_banned" [bansD B, setR F, setR S] (setR (pairB B F S)) := by
  obtain ⟨n, rfl⟩ : ∃ m, n = m + 1 := ⟨n - 1, by omega⟩
  show Pure (cl (n + 1)) f_pair_banned.name [bansD B, setR F, setR S] _
  refine pure_by m_pair_banned rfl (Nat.le_of_ble_eq_true rfl) ?_
  obtain ⟨P, hP⟩ : ∃ P : Sl → Sl → Sl → Sl → Sl → List Row → List Sl → Prop, P = fun s4 s5 s6 s7 s8 m ρ => ∃ s9, Fre s9 ∧ ρ = [.d (.tup (B.map banD)), .d (setR F), .d (setR S), .own (.dic (m.map rowI) (m.map fun _ => .bl true)), s4, s5, s6, s7, s8, s9] := ⟨_, rfl⟩
  have mk : ∀ {m s4 s5 s6 s7 s8 s9}, Fre s9 → P s4 s5 s6 s7 s8 m [.d (.tup (B.map banD)), .d (setR F), .d (setR S), .own (.dic (m.map rowI) (m.map fun _ => .bl true)), s4, s5, s6, s7, s8, s9] := fun h2 => hP ▸ ⟨_, h2, rfl⟩
  have un : ∀ {s4 s5 s6 s7 s8 m ρ}, P s4 s5 s6 s7 s8 m ρ → ∃ s9, Fre s9 ∧ ρ = [.d (.tup (B.map banD)), .d (setR F), .d (setR S), .own (.dic (m.map rowI) (m.map fun _ => .bl true)), s4, s5, s6, s7, s8, s9] := fun h => by rw [hP] at h; exact h
  clear hP
  simp -implicitDefEqProofs [f_pair_banned, bansD]
  refine run_fold (S := List Row) (e := banD) (xs := B) (fun m p => insAll m (q1 F S p)) [] (fun m ρ => ∃ s4, Fre s4 ∧ ∃ s5, Fre s5 ∧ ∃ s6, Fre s6 ∧ ∃ s7, Fre s7 ∧ ∃ s8, Fre s8 ∧ P s4 s5 s6 s7 s8 m ρ) ⟨_, .no, _, .no, _, .no, _, .no, _, .no, mk (m := []) .no⟩ (fun pre p post hx ρ q => ?_) fun ρ q => ?_
  · obtain ⟨s4, h4, s5, h5, s6, h6, s7, h7, s8, h8, q⟩ := q
    obtain ⟨s9, h9, rfl⟩ := un q
    rw [fold_ins]
    have hp : p ∈ B := by rw [hx]; simp
    have ok : SOk B (insAll [] (pre.flatMap (q1 F S))) := SOk.all fun x hx' => by
      obtain ⟨p', hp', hx'⟩ := List.mem_flatMap.mp hx'
      exact q1_st (by rw [hx]; exact List.mem_append_left _ hp') x hx'
    generalize insAll [] (pre.flatMap (q1 F S)) = m at ok
    have fr := e_frames p.2 (b.ls p hp) (fun l hl => (b.ln p hp l hl).2) F S n (by omega)
    refine ⟨_, by simp -implicitDefEqProofs [banD, h4.bo, h5.bo]; rfl, ?_⟩
    unfold linesD at fr ⊢
    simp -implicitDefEqProofs [call_p3 fr, h6.bo]
    unfold q1
    refine run_fold (S := List Row) (e := rowI) (xs := p.2) (fun m l => insAll m (q2 F S p.2 l)) m (fun m ρ => ∃ s7, Fre s7 ∧ ∃ s8, Fre s8 ∧ P (.d (.str p.1)) (.d (.tup (p.2.map rowI))) (.d (setF2 (framesB p.2 F S))) s7 s8 m ρ) ⟨_, h7, _, h8, mk h9⟩ (fun pre0 l post0 hx0 ρ q => ?_) fun ρ q => ?_
    · obtain ⟨s7, h7, s8, h8, q⟩ := q
      obtain ⟨s9, h9, rfl⟩ := un q
      rw [fold_ins]
      have hl : l ∈ p.2 := by rw [hx0]; simp
      have ll := (b.ln p hp l hl).2
      have up : ∀ {l'}, l' ∈ p.2 → ∀ x ∈ stretches l', x ∈ St B := fun hl' x hx' => mem_St.mpr ⟨p, hp, _, hl', hx'⟩
      have ok0 : SOk B (insAll m (pre0.flatMap (q2 F S p.2))) := ok.more fun x hx' => by
        obtain ⟨l', hl', hx'⟩ := List.mem_flatMap.mp hx'
        exact up (by rw [hx0]; exact List.mem_append_left _ hl') x (q2_st x hx')
      generalize insAll m (pre0.flatMap (q2 F S p.2)) = m0 at ok0
      refine ⟨_, bindT_fre h7 rfl, ?_⟩
      simp -implicitDefEqProofs [rowI_len, rng_n (n := l.length) (by omega)]
      refine run_fold (S := List Row) (e := natD) (xs := List.range l.length) (fun m s => insAll m (q3 F S p.2 l s)) m0 (fun m ρ => ∃ s8, Fre s8 ∧ P (.d (.str p.1)) (.d (.tup (p.2.map rowI))) (.d (setF2 (framesB p.2 F S))) (.d (rowI l)) s8 m ρ) ⟨_, h8, mk h9⟩ (fun pre1 s post1 hx1 ρ q => ?_) fun ρ q => ?_
      · obtain ⟨s8, h8, q⟩ := q
        obtain ⟨s9, h9, rfl⟩ := un q
        rw [fold_ins]
        have hs : s < l.length := by
          have : s ∈ List.range l.length := by rw [hx1]; simp
          exact List.mem_range.mp this
        have ok1 : SOk B (insAll m0 (pre1.flatMap (q3 F S p.2 l))) := ok0.more fun x hx' => by
          obtain ⟨s', hs', hx'⟩ := List.mem_flatMap.mp hx'
          exact up hl x (q3_st x hx')
        generalize insAll m0 (pre1.flatMap (q3 F S p.2 l)) = m1 at ok1
        refine ⟨_, bindT_fre h8 rfl, ?_⟩
        simp -implicitDefEqProofs [natD, rowI_len, rng_s1 (s := s) (n := l.length) (by omega) (by omega)]
        refine run_fold (S := List Row) (e := natD) (xs := List.range' (s + 1) (l.length - s)) (fun m e => insAll m (q4 F S p.2 l s e)) m1 (P (.d (.str p.1)) (.d (.tup (p.2.map rowI))) (.d (setF2 (framesB p.2 F S))) (.d (rowI l)) (.d (.int s))) (mk h9) (fun pre2 e post2 hx2 ρ q => ?_) fun ρ q => ?_
        · obtain ⟨s9, h9, rfl⟩ := un q
          rw [fold_ins]
          have he : s + 1 ≤ e ∧ e ≤ l.length := by
            have : e ∈ List.range' (s + 1) (l.length - s) := by rw [hx2]; simp
            rw [List.mem_range'_1] at this
            omega
          have ok2 : (insAll m1 (pre2.flatMap (q4 F S p.2 l s))).length < sizeLine := SOk.len b (ok1.more fun x hx' => by
            obtain ⟨e', he', hx'⟩ := List.mem_flatMap.mp hx'
            have : e' ∈ List.range' (s + 1) (l.length - s) := by rw [hx2]; exact List.mem_append_left _ he'
            rw [List.mem_range'_1] at this
            exact up hl x (q4_st (by omega) (by omega) x hx'))
          generalize insAll m1 (pre2.flatMap (q4 F S p.2 l s)) = m2 at ok2
          refine ⟨_, bindT_fre h9 rfl, ?_⟩
          unfold q4
          have cm := cut_mid (l := l) (a := s) (b := e) (by omega) (by omega)
          by_cases hc : (l.take s, l.drop e) ∈ framesB p.2 F S
          · simp -implicitDefEqProofs [natD, cut_take, cut_drop, nin_rows2, hc]
            exact mk Fre.d
          · simp -implicitDefEqProofs [natD, cm, cut_take, cut_drop, nin_rows2, hc, set_put ok2]
            exact mk Fre.d
        · obtain ⟨s9, h9, rfl⟩ := un q
          rw [fold_ins]
          simp -implicitDefEqProofs
          exact ⟨_, Fre.d, mk h9⟩
      · obtain ⟨s8, h8, q⟩ := q
        obtain ⟨s9, h9, rfl⟩ := un q
        rw [fold_ins]
        simp -implicitDefEqProofs
        exact ⟨_, Fre.d, _, h8, mk h9⟩
    · obtain ⟨s7, h7, s8, h8, q⟩ := q
      obtain ⟨s9, h9, rfl⟩ := un q
      rw [fold_ins]
      simp -implicitDefEqProofs
      exact ⟨_, Fre.d, _, Fre.d, _, Fre.d, _, h7, _, h8, mk h9⟩
  · obtain ⟨s4, h4, s5, h5, s6, h6, s7, h7, s8, h8, q⟩ := q
    obtain ⟨s9, h9, rfl⟩ := un q
    rw [fold_ins]
    simp -implicitDefEqProofs [setX, pairB_eq]
/-! ### kinds -/
theorem KB_ok {B : Bans} (b : BOk B) : ∀ k : Kd, SOk B (KB B k)
  | .at s => SOk.all fun x hx => by
    obtain ⟨q, hq, hx⟩ := List.mem_flatMap.mp hx
    split at hx
    · exact mem_St.mpr ⟨q, hq, x, hx, str_self (b.ln q hq x hx).1⟩
    · cases hx
  | .op c k1 k2 => by
    unfold KB
    split
    · exact SOk.all fun x hx => by
        obtain ⟨l, hl, hx⟩ := List.mem_flatMap.mp hx
        exact over_ok b (KB_ok b k1) hl x hx
    · split
      · exact SOk.all fun x hx => by
          obtain ⟨l, hl, hx⟩ := List.mem_flatMap.mp hx
          exact under_ok b (KB_ok b k2) hl x hx
      · rw [pairB_eq]
        exact SOk.all fun x hx => by
          obtain ⟨p, hp, hx⟩ := List.mem_flatMap.mp hx
          exact q1_st hp x hx
theorem e_kind_banned (B : Bans) (b : BOk B) : ∀ (k : Kd), Wf k → ∀ n, k.dep + 3 < n → Pure (cl n) "kind_banned" [bansD B, k.d] (setR (KB B k))
  | .at s, _, n, hn => by
    obtain ⟨n, rfl⟩ : ∃ m, n = m + 1 := ⟨n - 1, by omega⟩
    have h1 := e_atom_banned B b s n (by omega)
    refine pure_by m_kind_banned rfl (Nat.le_of_ble_eq_true rfl) ?_
    simp -implicitDefEqProofs [f_kind_banned, Kd.d, KB, call_p2 h1]
  | .op c k1 k2, w, n, hn => by
    obtain ⟨n, rfl⟩ : ∃ m, n = m + 1 := ⟨n - 1, by omega⟩
    have hd : (Kd.op c k1 k2).dep = max k1.dep k2.dep + 1 := rfl
    have h1 := e_kind_banned B b k1 w.2.1 n (by omega)
    have h2 := e_kind_banned B b k2 w.2.2 n (by omega)
    have h3 := e_over B b (KB B k1) (KB B k2) (KB_ok b k1) n (by omega)
    have h4 := e_under B b (KB B k1) (KB B k2) (KB_ok b k2) n (by omega)
    have h5 := e_pair B b (KB B k1) (KB B k2) n (by omega)
    refine pure_by m_kind_banned rfl (Nat.le_of_ble_eq_true rfl) ?_
    have n1 : ¬ ((">" : Str) = "/") := by decide +kernel
    have n2 : ¬ (("*" : Str) = "/") := by decide +kernel
    have n3 : ¬ (("*" : Str) = ">") := by decide +kernel
    rcases w.1 with rfl | rfl | rfl
    · simp -implicitDefEqProofs [f_kind_banned, Kd.d, KB, call_p2 h1, call_p2 h2, call_p2 h3]
    · simp -implicitDefEqProofs [f_kind_banned, Kd.d, KB, call_p2 h1, call_p2 h2, call_p2 h4, n1]
    · simp -implicitDefEqProofs [f_kind_banned, Kd.d, KB, call_p2 h1, call_p2 h2, call_p3 h5, n2, n3]
end Tab

set_option maxHeartbeats 400000
namespace Tab
open PySem PySem.Spec PyProof.Rows L2 Fw
/-! ### sorting rows -/
def keyI (l : Row) : D := .tup [.int l.length, rowI l]
def rpd (l : Row) : List PyData := l.map .int
theorem pds_int : ∀ l : Row, D.pds (l.map .int) = rpd l
  | [] => by simp [D.pds, rpd]
  | a :: l => by
    have := pds_int l
    unfold rpd at this ⊢
    simp [D.pds, D.pd, this]
theorem pd_row (l : Row) : (rowI l).pd = .tuple (rpd l) := by
  unfold rowI
  rw [D.pd, pds_int]
theorem pd_key (l : Row) : (keyI l).pd = .tuple [.int l.length, .tuple (rpd l)] := by
  unfold keyI
  simp [D.pd, D.pds, pd_row]
theorem lay_ints : ∀ l : Row, PyData.canLayAll0 (rpd l) = true ∧ PyData.depthAll (rpd l) = 0
  | [] => by simp [rpd, PyData.canLayAll0, PyData.depthAll]
  | a :: l => by
    have := lay_ints l
    unfold rpd at this ⊢
    simp [PyData.canLayAll0, PyData.canLay0, PyData.depthAll, PyData.depth, this.1, this.2]
theorem alike_ints : ∀ l m : Row, PySem.W.alikeAll (rpd l) (rpd m) = true
  | [], _ => by simp [rpd, PySem.W.alikeAll]
  | _ :: _, [] => by simp [rpd, PySem.W.alikeAll]
  | a :: l, b :: m => by
    have := alike_ints l m
    unfold rpd at this ⊢
    simp [PySem.W.alikeAll, PySem.W.alike, this]
def rowLe (p q : Row) : Bool := decide (p ≤ q)
def keyLe (p q : Row) : Bool := decide (p.length < q.length ∨ (p.length = q.length ∧ p ≤ q))
theorem not_lt_row (x y : Row) : (!decide (y < x)) = decide (x ≤ y) := by
  by_cases h : y < x
  · have h' : ¬ x ≤ y := fun r => List.not_lt.mpr r h
    simp [h, h']
  · have h' : x ≤ y := List.not_lt.mp h
    simp [h, h']
theorem lt_rows (x y : Row) : PySem.W.dataLt (.tuple (rpd x)) (.tuple (rpd y)) = decide (x < y) := by
  rw [PySem.W.dataLt_tuple]
  exact PySem.W.dataLt_ints x y
theorem le_rows (x y : Row) : PySem.W.dataLe false D.pd (rowI x) (rowI y) = rowLe x y := by
  show (!PySem.W.dataLt (rowI y).pd (rowI x).pd) = _
  rw [pd_row, pd_row, lt_rows, not_lt_row]
  rfl
theorem eqv_ints : ∀ x y : Row, PyData.eqvAll (rpd x) (rpd y) = decide (x = y)
  | [], [] => by simp [rpd, PyData.eqvAll]
  | [], _ :: _ => by simp [rpd, PyData.eqvAll]
  | _ :: _, [] => by simp [rpd, PyData.eqvAll]
  | a :: x, b :: y => by
    have := eqv_ints x y
    unfold rpd at this ⊢
    simp [PyData.eqvAll, PyData.eqv, this]
    by_cases h : a = b <;> by_cases h2 : x = y <;> simp [h, h2]
theorem le_keys (x y : Row) : PySem.W.dataLe false (fun p : D × D => p.2.pd) (rowI x, keyI x) (rowI y, keyI y) = keyLe x y := by
  show (!PySem.W.dataLt (keyI y).pd (keyI x).pd) = _
  rw [pd_key, pd_key, PySem.W.dataLt_pair (by simp [PySem.W.alike]) (by simp [PySem.W.alike, alike_ints]), lt_rows, PySem.W.dataLt_int]
  have e : PyData.eqv (.tuple (rpd y)) (.tuple (rpd x)) = decide (y = x) := by simp [PyData.eqv, eqv_ints]
  have e1 : PyData.eqv (.int y.length) (.int x.length) = decide ((y.length : Int) = x.length) := by
    simp only [PyData.eqv]
    rfl
  rw [e, e1]
  unfold keyLe
  by_cases h1 : (y.length : Int) = x.length
  · have h1' : x.length = y.length := by omega
    by_cases h2 : y = x
    · subst h2
      have : y ≤ y := List.le_refl y
      simp [this]
    · simp only [h1, h2, decide_true, decide_false, if_true, Bool.false_eq_true, if_false]
      rw [not_lt_row]
      simp [h1']
  · have h1' : ¬ x.length = y.length := by omega
    simp only [h1, decide_false, Bool.false_eq_true, if_false]
    by_cases h3 : y.length < x.length
    · have : ¬ x.length < y.length := by omega
      have h4 : (y.length : Int) < x.length := by omega
      simp [h4, h1', this]
    · have h4 : ¬ (y.length : Int) < x.length := by omega
      have h5 : x.length < y.length := by omega
      simp [h4, h5]
theorem sok_keys {m : List Row} (hl : m.length ≤ 400000) : sortOk (m.map keyI) = true := by
  unfold sortOk
  simp only [Bool.and_eq_true, Bool.or_eq_true, List.all_eq_true, decide_eq_true_eq, List.length_map, List.mem_map]
  refine ⟨⟨?_, .inl ?_⟩, Nat.le_trans hl (Nat.le_of_lt szM)⟩
  · rintro d ⟨x, _, rfl⟩
    refine ⟨⟨?_, ?_⟩, ?_⟩
    · rw [pd_key]; simp [PyData.canLay0, PyData.canLayAll0, (lay_ints x).1]
    · rw [pd_key]; simp [PyData.depth, PyData.depthAll, (lay_ints x).2]
    · rintro e ⟨y, _, rfl⟩
      rw [pd_key, pd_key]
      simp [PySem.W.alike, PySem.W.alikeAll, alike_ints]
  · rintro d ⟨x, _, rfl⟩
    rw [pd_key]; rfl
theorem sok_rows {m : List Row} (hl : m.length ≤ 400000) (hne : ∀ l ∈ m, l ≠ []) : sortOk (m.map rowI) = true := by
  unfold sortOk
  simp only [Bool.and_eq_true, Bool.or_eq_true, List.all_eq_true, decide_eq_true_eq, List.length_map, List.mem_map]
  refine ⟨⟨?_, .inl ?_⟩, Nat.le_trans hl (Nat.le_of_lt szM)⟩
  · rintro d ⟨x, _, rfl⟩
    refine ⟨⟨?_, ?_⟩, ?_⟩
    · rw [pd_row]; simp [PyData.canLay0, (lay_ints x).1]
    · rw [pd_row]; simp [PyData.depth, (lay_ints x).2]
    · rintro e ⟨y, _, rfl⟩
      rw [pd_row, pd_row]
      simp [PySem.W.alike, alike_ints]
  · rintro d ⟨x, hx, rfl⟩
    rw [pd_row]
    cases x with
    | nil => exact absurd rfl (hne _ hx)
    | cons a x => rfl
theorem srt_rows {m : List Row} (hl : m.length ≤ 400000) (hne : ∀ l ∈ m, l ≠ []) : srtF (m.map rowI) = some (.new (.lst ((m.mergeSort rowLe).map rowI))) := by
  unfold srtF
  rw [if_pos (sok_rows hl hne)]
  unfold sortD
  rw [← List.map_mergeSort (r := rowLe) fun a _ b _ => (le_rows a b).symm]
theorem e_line_key (l : Row) (n : Nat) (hn : 0 < n) : Pure (cl n) "line_key" [rowI l] (keyI l) := by
  obtain ⟨n, rfl⟩ : ∃ m, n = m + 1 := ⟨n - 1, by omega⟩
  refine pure_by m_line_key rfl (Nat.le_of_ble_eq_true rfl) ?_
  simp -implicitDefEqProofs [f_line_key, rowI_len, keyI]
theorem keys_rows {n : Nat} (hn : 0 < n) : ∀ m : List Row, keysF (cl n) "line_key" (m.map rowI) = some (m.map keyI)
  | [] => rfl
  | l :: m => by
    obtain ⟨bs, e, _⟩ := e_line_key l n hn
    have e' : cl n "line_key" [.fr (rowI l)] = some (.d (keyI l), bs) := e
    show (match cl n "line_key" [.fr (rowI l)] with
      | some (.d k, _) => (keysF (cl n) "line_key" (m.map rowI)).map (k :: ·)
      | _ => none) = _
    rw [e', keys_rows hn m]
    rfl
theorem srtk_rows {n : Nat} (hn : 0 < n) {m : List Row} (hl : m.length ≤ 400000) : srtkF (cl n) "line_key" (setR m) = some (.new (.lst ((m.mergeSort keyLe).map rowI))) := by
  show (some (m.map rowI) : Option (List D)).bind _ = _
  rw [Option.bind_some, keys_rows hn, Option.bind_some, if_pos (sok_keys hl)]
  have e : (m.map rowI).zip (m.map keyI) = m.map fun l => (rowI l, keyI l) := by
    rw [List.zip_map']
  rw [e, ← List.map_mergeSort (r := keyLe) fun a _ b _ => (le_keys a b).symm, List.map_map]
  rfl
theorem e_banned_lines (B : Bans) (b : BOk B) (k : Kd) (w : Wf k) (n : Nat) (hn : k.dep + 5 < n) : Pure (cl n) "banned_lines" [bansD B, k.d] (.tup (((KB B k).mergeSort keyLe).map rowI)) := by
  obtain ⟨n, rfl⟩ : ∃ m, n = m + 2 := ⟨n - 2, by omega⟩
  have h1 := e_kind_banned B b k w (n + 1) (by omega)
  have h2 := srtk_rows (n := n) (by omega) (Nat.le_trans (nd_le (KB_ok b k).nd (KB_ok b k).st) b.st)
  refine pure_by m_banned_lines rfl (Nat.le_of_ble_eq_true rfl) ?_
  have e : cm (n + 1) = cl n := callM_s
  simp -implicitDefEqProofs [f_banned_lines, call_p2 h1, e, h2]
end Tab

set_option maxHeartbeats 400000
namespace Tab
open PySem PySem.Spec PyProof.Rows L2 Fw
theorem run_find {α : Type} {f : List Sl → Rs Fl} {tg : Tg} {β : Type} {k : Fl × List Sl → Rs β} {Q : β → List Sl → Prop} {xs : List α} {e : α → D} {ρ : List Sl} (c : α → Bool) (st : List Sl → Prop) (h0 : st ρ)
    (hs : ∀ x ∈ xs, ∀ ρ, st ρ → ∃ ρ1, bindT tg (e x) ρ = some ρ1 ∧ Run (f ρ1) (ForEnd (fun ρ' => c x = false ∧ st ρ') fun fl ρ => Run (k (fl, ρ)) Q)) (he : xs.any c = false → ∀ ρ, st ρ → Run (k (.nx, ρ)) Q) :
    @RunI β (@bnd _ _ (@forK ⟨f⟩ tg (xs.map e) ρ) ⟨k⟩) ⟨Q⟩ := by
  refine run_for (fun i ρ => (∀ j (hj : j < xs.length), j < i → c xs[j] = false) ∧ st ρ) ⟨fun j _ h => absurd h (Nat.not_lt_zero _), h0⟩ (fun i hi ρ ⟨hn, q⟩ => ?_) fun ρ ⟨hn, q⟩ => ?_
  · have hi' : i < xs.length := by simpa using hi
    obtain ⟨ρ1, h1, fl, ρ2, h2, h3⟩ := hs xs[i] (List.getElem_mem hi') ρ q
    refine ⟨ρ1, by rw [List.getElem_map]; exact h1, fl, ρ2, h2, ?_⟩
    have up : c xs[i] = false → ∀ j (hj : j < xs.length), j < i + 1 → c xs[j] = false := fun hc j hj h => by
      rcases Nat.lt_succ_iff_lt_or_eq.mp h with h | rfl
      · exact hn j hj h
      · exact hc
    cases fl with
    | nx => exact ⟨up h3.1, h3.2⟩
    | ct => exact ⟨up h3.1, h3.2⟩
    | bk => exact h3
    | rt t => exact h3
  · refine he ?_ ρ q
    rw [List.any_eq_false]
    intro x hx
    obtain ⟨j, hj, rfl⟩ := List.mem_iff_getElem.mp hx
    rw [hn j hj (by simpa using hj)]
    simp
theorem any_of {α : Type} {xs : List α} {c : α → Bool} {x : α} (hx : x ∈ xs) (h : c x = true) : xs.any c = true := List.any_eq_true.mpr ⟨x, hx, h⟩
theorem shp_row (l : Row) : SeqAt.shaped (rowI l).pd = true := by
  unfold SeqAt.shaped
  rw [pd_row]
  simp [PyData.canLay0, PyData.depth, (lay_ints l).1, (lay_ints l).2]
theorem eq_rows (a b : Row) : cmpF .Eq (rowI a) (rowI b) = some (decide (a = b)) := by
  show (match (rowI a).scalEq (rowI b) with
    | some b => some b
    | none => if SeqAt.shaped (rowI a).pd = true ∧ SeqAt.shaped (rowI b).pd = true then some (PyData.eqv (rowI a).pd (rowI b).pd) else none) = _
  rw [show (rowI a).scalEq (rowI b) = none from rfl]
  dsimp only
  rw [if_pos ⟨shp_row a, shp_row b⟩, pd_row, pd_row]
  simp [PyData.eqv, eqv_ints]
theorem run_forx {f : List Sl → Rs Fl} {tg : Tg} {β : Type} {k : Fl × List Sl → Rs β} {Q : β → List Sl → Prop} {ds : List D} {ρ : List Sl} (P : Nat → List Sl → Prop) (h0 : P 0 ρ)
    (hs : ∀ i x, i < ds.length → x ∈ ds → ∀ ρ, P i ρ → ∃ ρ1, bindT tg x ρ = some ρ1 ∧ Fw.Run (f ρ1) (ForEnd (P (i + 1)) fun fl ρ => Fw.Run (k (fl, ρ)) Q)) (he : ∀ ρ, P ds.length ρ → Fw.Run (k (.nx, ρ)) Q) : @RunI β (@bnd _ _ (@forK ⟨f⟩ tg ds ρ) ⟨k⟩) ⟨Q⟩ :=
  run_for P h0 (fun i hi ρ p => hs i _ hi (List.getElem_mem hi) ρ p) he
theorem nin_strs (s : Str) (ns : List Str) : cmpF .NotIn (.str s) (.lst (ns.map D.str)) = some (!decide (s ∈ ns)) := by
  have h1 : (ns.map D.str).all D.flat = true := by
    rw [List.all_map]
    exact List.all_eq_true.mpr fun x _ => rfl
  have h2 : inV (D.str s).v0 ((ns.map D.str).map D.v0) = decide (s ∈ ns) := by
    unfold inV
    rw [List.map_map, List.any_map]
    induction ns with
    | nil => rfl
    | cons a ns ih =>
      rw [List.any_cons, ih (by
        rw [List.all_map]
        exact List.all_eq_true.mpr fun x _ => rfl)]
      show (decide (a = s) || _) = _
      by_cases h : a = s
      · subst h; simp
      · have h' : ¬ s = a := fun z => h z.symm
        simp [h, h']
  show (inF (.str s) (.lst (ns.map D.str))).map (!·) = _
  have e : inF (.str s) (.lst (ns.map D.str)) = some (decide (s ∈ ns)) := by
    show (if (D.str s).flat = true ∧ (ns.map D.str).all D.flat = true then some (inV (D.str s).v0 ((ns.map D.str).map D.v0)) else _) = _
    rw [if_pos ⟨rfl, h1⟩, h2]
  rw [e]
  rfl
theorem rng_b {n : Nat} (h : n ≤ 1000000) : rngF [.int (n : Int)] = some ((List.range n).map natD) := by
  simp only [rngF]
  rw [if_pos (by omega)]
  unfold rngL
  simp [natD]
theorem cut_drop_i {l : Row} {i : Int} {k : Nat} (h : i = (k : Int)) : slF (rowI l) (some i) none = some (.d (rowI (l.drop k))) := by
  rw [h]; exact cut_drop
theorem cut_mid_i {l : Row} {a b : Nat} {i : Int} (h : i = (b : Int)) (ha : a ≤ l.length) (hb : b ≤ l.length) : slF (rowI l) (some (a : Int)) (some i) = some (.d (rowI ((l.drop a).take (b - a)))) := by
  rw [h]; exact cut_mid ha hb
theorem cut_take_i {l : Row} {i : Int} {k : Nat} (h : i = (k : Int)) : slF (rowI l) none (some i) = some (.d (rowI (l.take k))) := by
  rw [h]; exact cut_take
theorem flat_filter {α : Type} {p : α → Bool} : ∀ {l : List α}, l.flatMap (fun x => if p x then [x] else []) = l.filter p
  | [] => rfl
  | a :: l => by
    rw [List.flatMap_cons, flat_filter, List.filter_cons]
    cases p a <;> rfl
theorem run_cons {C : Cfg} {s : IS} {r : ISs} {ρ : List Sl} {Q : Fl → List Sl → Prop} (P : List Sl → Prop) (h : Fw.Run (exS C s ρ) fun fl ρ' => fl = .nx ∧ P ρ') (hr : ∀ ρ', P ρ' → Fw.Run (exSs C r ρ') Q) : Fw.Run (exSs C (.cons s r) ρ) Q := by
  rw [ex_cons]
  refine h.bind fun a ρ' ⟨e, p⟩ => ?_
  subst e
  rw [thenS_nx]
  exact hr ρ' p
end Tab

set_option maxHeartbeats 400000
namespace Tab
open PySem PySem.Spec PyProof.Rows L2 Fw
mutual
def fmtK : Kd → Str
  | .at s => s
  | .op c a b => fmtP a ++ (" " : Str) ++ c ++ (" " : Str) ++ fmtP b
def fmtP : Kd → Str
  | .at s => s
  | .op c a b => ("(" : Str) ++ (fmtP a ++ (" " : Str) ++ c ++ (" " : Str) ++ fmtP b) ++ (")" : Str)
end
theorem fmtP_op (c : Str) (a b : Kd) : fmtP (.op c a b) = ("(" : Str) ++ fmtK (.op c a b) ++ (")" : Str) := by
  simp only [fmtP, fmtK]
/-- what an atom may be -/
structure GoodA (s : Str) : Prop where
  ne : tl s ≠ []
  fr : ∀ c ∈ tl s, c ≠ 32 ∧ c ≠ 40 ∧ c ≠ 41
  len : s.length ≤ 15
theorem Atm.good {s : Str} (h : Atm s) : GoodA s := by
  obtain ⟨b, ⟨⟨c, r, rfl, h1, h2, h3⟩⟩, h4⟩ := h.ex
  have hb : ∀ x ∈ c :: r, x ≠ 32 ∧ x ≠ 40 ∧ x ≠ 41 := fun x hx => by
    rcases List.mem_cons.mp hx with rfl | hx
    · unfold isLow at h1; omega
    · rcases h2 x hx with h | h
      · unfold isLow at h; omega
      · unfold isDig at h; omega
  rcases h4 with h4 | ⟨i, i1, i2, h4⟩
  · exact ⟨by rw [h4]; simp, by rw [h4]; exact hb, by rw [len_str, h4, List.length_cons]; omega⟩
  · refine ⟨by rw [h4]; simp, fun x hx => ?_, ?_⟩
    · rw [h4] at hx
      rcases List.mem_append.mp hx with hx | hx
      · exact hb x hx
      · rcases List.mem_cons.mp hx with rfl | hx
        · decide
        · have := TL.numL_digits i x hx
          omega
    · have := TL.numL_len (n := i) (k := 6) (by decide) (by omega)
      rw [len_str, h4, List.length_append, List.length_cons, List.length_cons]
      omega
def GoodK (k : Kd) : Prop := Wf k ∧ ∀ s ∈ k.ats, GoodA s
theorem GoodK.l {c : Str} {a b : Kd} (h : GoodK (.op c a b)) : GoodK a := ⟨h.1.2.1, fun s hs => h.2 s (List.mem_append_left _ hs)⟩
theorem GoodK.r {c : Str} {a b : Kd} (h : GoodK (.op c a b)) : GoodK b := ⟨h.1.2.2, fun s hs => h.2 s (List.mem_append_right _ hs)⟩
theorem sgn_tl {c : Str} (h : Sgn c) : ∃ x, tl c = [x] := by
  rcases h with rfl | rfl | rfl
  · exact ⟨47, by decide +kernel⟩
  · exact ⟨62, by decide +kernel⟩
  · exact ⟨42, by decide +kernel⟩
theorem tl_sp : tl (" " : Str) = [32] := by decide +kernel
theorem tl_po : tl ("(" : Str) = [40] := by decide +kernel
theorem tl_pc : tl (")" : Str) = [41] := by decide +kernel
theorem tl_op (c : Str) (a b : Kd) : tl (fmtK (.op c a b)) = tl (fmtP a) ++ 32 :: (tl c ++ 32 :: tl (fmtP b)) := by
  simp only [fmtK, tl_app, tl_sp]
  simp
theorem tl_par (c : Str) (a b : Kd) : tl (fmtP (.op c a b)) = 40 :: (tl (fmtK (.op c a b)) ++ [41]) := by
  rw [fmtP_op, tl_app, tl_app, tl_po, tl_pc]
  simp
theorem fmt_len : ∀ k : Kd, GoodK k → (fmtK k).length + 10 ≤ 25 * k.sz ∧ (fmtP k).length + 8 ≤ 25 * k.sz
  | .at s, h => by
    have := (h.2 s (by simp [Kd.ats])).len
    simp only [fmtK, fmtP, Kd.sz]
    omega
  | .op c a b, h => by
    obtain ⟨x, hx⟩ := sgn_tl h.1.1
    have h1 := fmt_len a h.l
    have h2 := fmt_len b h.r
    have e1 : (fmtK (.op c a b)).length = (fmtP a).length + (fmtP b).length + 3 := by
      rw [len_str, tl_op, hx, len_str (a := fmtP a), len_str (a := fmtP b)]
      simp
      omega
    have e2 : (fmtP (.op c a b)).length = (fmtK (.op c a b)).length + 2 := by
      rw [len_str, tl_par, len_str (a := fmtK _)]
      simp
    have e3 : (Kd.op c a b).sz = a.sz + b.sz := rfl
    rw [e2, e1, e3]
    omega
def Stop (r : List Nat) : Prop := r = [] ∨ ∃ t, r = 32 :: t ∨ r = 41 :: t
theorem span_eq : ∀ {s s' r r' : List Nat}, (∀ c ∈ s, c ≠ 32 ∧ c ≠ 40 ∧ c ≠ 41) → (∀ c ∈ s', c ≠ 32 ∧ c ≠ 40 ∧ c ≠ 41) → Stop r → Stop r' → s ++ r = s' ++ r' → s = s' ∧ r = r'
  | [], [], r, r', _, _, _, _, e => ⟨rfl, e⟩
  | [], c :: s', r, r', _, h', hr, _, e => by
    have hc := h' c List.mem_cons_self
    rcases hr with rfl | ⟨t, rfl | rfl⟩
    · cases e
    · injection e with e1 e2; exact absurd e1.symm hc.1
    · injection e with e1 e2; exact absurd e1.symm hc.2.2
  | c :: s, [], r, r', h, _, _, hr, e => by
    have hc := h c List.mem_cons_self
    rcases hr with rfl | ⟨t, rfl | rfl⟩
    · cases e
    · injection e with e1 e2; exact absurd e1 hc.1
    · injection e with e1 e2; exact absurd e1 hc.2.2
  | c :: s, c' :: s', r, r', h, h', hr, hr', e => by
    injection e with e1 e2
    obtain ⟨e3, e4⟩ := span_eq (fun x hx => h x (List.mem_cons_of_mem _ hx)) (fun x hx => h' x (List.mem_cons_of_mem _ hx)) hr hr' e2
    exact ⟨by rw [e1, e3], e4⟩
theorem at_tl {s : Str} (h : GoodK (.at s)) : (∀ c ∈ tl s, c ≠ 32 ∧ c ≠ 40 ∧ c ≠ 41) ∧ tl s ≠ [] := by
  have := h.2 s (by simp [Kd.ats])
  exact ⟨this.fr, this.ne⟩
theorem at_40 {s : Str} (h : GoodK (.at s)) {r t : List Nat} (e : tl s ++ r = 40 :: t) : False := by
  obtain ⟨h1, h2⟩ := at_tl h
  cases q : tl s with
  | nil => exact h2 q
  | cons c s' =>
    rw [q] at e h1
    injection e with e1 e2
    exact (h1 c List.mem_cons_self).2.1 e1
mutual
theorem fmtP_inj : ∀ {a b : Kd} {r r' : List Nat}, GoodK a → GoodK b → Stop r → Stop r' → tl (fmtP a) ++ r = tl (fmtP b) ++ r' → a = b ∧ r = r'
  | .at s, .at s', r, r', ha, hb, hr, hr', e => by
    simp only [fmtP] at e
    obtain ⟨e1, e2⟩ := span_eq (at_tl ha).1 (at_tl hb).1 hr hr' e
    exact ⟨by rw [TL.ext_tl e1], e2⟩
  | .at s, .op c x y, r, r', ha, hb, hr, hr', e => by
    rw [tl_par] at e
    simp only [fmtP] at e
    exact (at_40 ha e).elim
  | .op c x y, .at s, r, r', ha, hb, hr, hr', e => by
    rw [tl_par] at e
    simp only [fmtP] at e
    exact (at_40 hb e.symm).elim
  | .op c x y, .op c' x' y', r, r', ha, hb, hr, hr', e => by
    rw [tl_par, tl_par] at e
    have e' : tl (fmtK (.op c x y)) ++ 41 :: r = tl (fmtK (.op c' x' y')) ++ 41 :: r' := by simpa using e
    rw [tl_op, tl_op, List.append_assoc, List.append_assoc] at e'
    obtain ⟨e1, e2⟩ := fmtP_inj (a := x) (b := x') ha.l hb.l (.inr ⟨_, .inl rfl⟩) (.inr ⟨_, .inl rfl⟩) e'
    obtain ⟨z, hz⟩ := sgn_tl ha.1.1
    obtain ⟨z', hz'⟩ := sgn_tl hb.1.1
    rw [hz, hz'] at e2
    have e3 : z = z' ∧ tl (fmtP y) ++ 41 :: r = tl (fmtP y') ++ 41 :: r' := by simpa using e2
    obtain ⟨e4, e5⟩ := fmtP_inj (a := y) (b := y') ha.r hb.r (.inr ⟨_, .inr rfl⟩) (.inr ⟨_, .inr rfl⟩) e3.2
    have e6 : c = c' := TL.ext_tl (by rw [show TL.tl c = [z] from hz, show TL.tl c' = [z'] from hz', e3.1])
    exact ⟨by rw [e1, e4, e6], by injection e5⟩
end
theorem fmtK_inj {a b : Kd} (ha : GoodK a) (hb : GoodK b) (e : fmtK a = fmtK b) : a = b := by
  cases a with
  | «at» s =>
    cases b with
    | «at» s' => simp only [fmtK] at e; rw [e]
    | op c x y =>
      exfalso
      have e' := congrArg tl e
      rw [tl_op] at e'
      simp only [fmtK] at e'
      cases x with
      | «at» t =>
        simp only [fmtP] at e'
        have := span_eq (s := tl s) (s' := tl t) (r := []) (at_tl ha).1 (at_tl hb.l).1 (.inl rfl) (.inr ⟨_, .inl rfl⟩) (by simpa using e')
        cases this.2
      | op c' x' y' =>
        rw [tl_par] at e'
        exact at_40 ha (r := []) (by simpa using e')
  | op c x y =>
    cases b with
    | «at» s =>
      exfalso
      have e' := (congrArg tl e).symm
      rw [tl_op] at e'
      simp only [fmtK] at e'
      cases x with
      | «at» t =>
        simp only [fmtP] at e'
        have := span_eq (s := tl s) (s' := tl t) (r := []) (at_tl hb).1 (at_tl ha.l).1 (.inl rfl) (.inr ⟨_, .inl rfl⟩) (by simpa using e')
        cases this.2
      | op c' x' y' =>
        rw [tl_par] at e'
        exact at_40 hb (r := []) (by simpa using e')
    | op c' x' y' =>
      have e' : tl (fmtP (.op c x y)) ++ [] = tl (fmtP (.op c' x' y')) ++ [] := by rw [tl_par, tl_par, e]
      exact (fmtP_inj ha hb (.inl rfl) (.inl rfl) e').1
/-! ### the program's texts -/
theorem add_s {a b : Str} (h : a.length + b.length ≤ 10000) : binF .Add (.str a) (.str b) = some (.d (.str (a ++ b))) := add_str h
mutual
theorem e_format_kind : ∀ (k : Kd), GoodK k → k.sz ≤ 300 → ∀ n, 2 * k.dep + 1 < n → Pure (cl n) "format_kind" [k.d] (.str (fmtK k))
  | .at s, _, _, n, hn => by
    obtain ⟨n, rfl⟩ : ∃ m, n = m + 1 := ⟨n - 1, by omega⟩
    refine pure_by m_format_kind rfl (Nat.le_of_ble_eq_true rfl) ?_
    simp -implicitDefEqProofs [f_format_kind, Kd.d, fmtK]
  | .op c a b, g, hz, n, hn => by
    obtain ⟨n, rfl⟩ : ∃ m, n = m + 1 := ⟨n - 1, by omega⟩
    have hd : (Kd.op c a b).dep = max a.dep b.dep + 1 := rfl
    have e3 : (Kd.op c a b).sz = a.sz + b.sz := rfl
    have h1 := e_format_part a g.l (by omega) n (by omega)
    have h2 := e_format_part b g.r (by omega) n (by omega)
    have l1 := (fmt_len a g.l).2
    have l2 := (fmt_len b g.r).2
    obtain ⟨x, hx⟩ := sgn_tl g.1.1
    have lc : c.length = 1 := by rw [len_str, hx]; rfl
    have ls : (" " : Str).length = 1 := by decide +kernel
    have a1 := add_s (a := fmtP a) (b := " ") (by omega)
    have z1 : (fmtP a ++ (" " : Str)).length = (fmtP a).length + 1 := by rw [len_str, tl_app, List.length_append, ← len_str, ← len_str, ls]
    have a2 := add_s (a := fmtP a ++ (" " : Str)) (b := c) (by omega)
    have z2 : (fmtP a ++ (" " : Str) ++ c).length = (fmtP a).length + 2 := by rw [len_str, tl_app, List.length_append, ← len_str, ← len_str, z1, lc]
    have a3 := add_s (a := fmtP a ++ (" " : Str) ++ c) (b := " ") (by omega)
    have z3 : (fmtP a ++ (" " : Str) ++ c ++ (" " : Str)).length = (fmtP a).length + 3 := by rw [len_str, tl_app, List.length_append, ← len_str, ← len_str, z2, ls]
    have a4 := add_s (a := fmtP a ++ (" " : Str) ++ c ++ (" " : Str)) (b := fmtP b) (by omega)
    refine pure_by m_format_kind rfl (Nat.le_of_ble_eq_true rfl) ?_
    simp -implicitDefEqProofs [f_format_kind, Kd.d, fmtK, call_p1 h1, call_p1 h2, a1, a2, a3, a4]
theorem e_format_part : ∀ (k : Kd), GoodK k → k.sz ≤ 300 → ∀ n, 2 * k.dep + 2 < n → Pure (cl n) "format_part" [k.d] (.str (fmtP k))
  | .at s, _, _, n, hn => by
    obtain ⟨n, rfl⟩ : ∃ m, n = m + 1 := ⟨n - 1, by omega⟩
    refine pure_by m_format_part rfl (Nat.le_of_ble_eq_true rfl) ?_
    simp -implicitDefEqProofs [f_format_part, Kd.d, fmtP]
  | .op c a b, g, hz, n, hn => by
    obtain ⟨n, rfl⟩ : ∃ m, n = m + 1 := ⟨n - 1, by omega⟩
    have h1 := e_format_kind (.op c a b) g hz n (by omega)
    have l1 := (fmt_len _ g).1
    have e3 : (Kd.op c a b).sz = a.sz + b.sz := rfl
    have ls : ("(" : Str).length = 1 := by decide +kernel
    have ls' : (")" : Str).length = 1 := by decide +kernel
    have a1 := add_s (a := ("(" : Str)) (b := fmtK (.op c a b)) (by omega)
    have z1 : (("(" : Str) ++ fmtK (.op c a b)).length = (fmtK (.op c a b)).length + 1 := by rw [len_str, tl_app, List.length_append, ← len_str, ← len_str, ls]; omega
    have a2 := add_s (a := ("(" : Str) ++ fmtK (.op c a b)) (b := ")") (by omega)
    refine pure_by m_format_part rfl (Nat.le_of_ble_eq_true rfl) ?_
    rw [fmtP_op]
    have hk : (Kd.op c a b).d = .tup [.str c, a.d, b.d] := rfl
    rw [hk] at h1 ⊢
    simp -implicitDefEqProofs [f_format_part, call_p1 h1, a1, a2]
end
end Tab

set_option maxHeartbeats 400000
namespace Tab
open PySem PySem.Spec PyProof.Rows L2 Fw
theorem emb_nat : Emb natD := ⟨.inl fun _ => rfl, fun a b => by
  show decide ((Sum.inl (a : Int) : Key) = .inl (b : Int)) = _
  by_cases h : a = b
  · subst h; simp
  · have : ¬ ((a : Int) = b) := by omega
    simp [h, this]⟩
/-- what is reached: places, each with the pieces up to it -/
abbrev Rch := List (Nat × List Row)
def piece (l : Row) (s e : Nat) : Row := (l.drop s).take (e - s)
/-- one more place -/
def stepE (l : Row) (S : List Row) (s : Nat) (ps : List Row) (m : Rch) (e : Nat) : Rch := if piece l s e ∈ S ∨ e ∈ m.map (·.1) then m else m ++ [(e, ps ++ [piece l s e])]
def stepS (l : Row) (S : List Row) (m : Rch) (p : Nat × List Row) : Rch := (List.range' (p.1 + 1) (l.length - p.1)).foldl (stepE l S p.1 p.2) m
def stepR (l : Row) (r : Rch) (S : List Row) : Rch := r.foldl (stepS l S) []
def reach (l : Row) (Ss : List (List Row)) : Rch := Ss.foldl (stepR l) [(0, [])]
def pieces (l : Row) (Ss : List (List Row)) : Option (List Row) := lookA l.length (reach l Ss)
/-- what holds of what is reached -/
structure RIn (l : Row) (k : Nat) (m : Rch) : Prop where
  nd : (m.map (·.1)).Nodup
  le : ∀ p ∈ m, p.1 ≤ l.length ∧ p.2.length = k
theorem RIn.len {l : Row} {k : Nat} {m : Rch} (h : RIn l k m) : m.length ≤ l.length + 1 := by
  have := nd_le (s := List.range (l.length + 1)) h.nd fun x hx => by
    obtain ⟨p, hp, rfl⟩ := List.mem_map.mp hx
    have := (h.le p hp).1
    exact List.mem_range.mpr (by omega)
  rw [List.length_map, List.length_range] at this
  exact this
theorem RIn.one {l : Row} {S : List Row} {s e k : Nat} {ps : List Row} {m : Rch} (h : RIn l (k + 1) m) (he : e ≤ l.length) (hk : ps.length = k) : RIn l (k + 1) (stepE l S s ps m e) := by
  unfold stepE
  split
  · exact h
  · rename_i hn
    rw [not_or] at hn
    refine ⟨?_, fun p hp => ?_⟩
    · rw [List.map_append]
      exact List.nodup_append.mpr ⟨h.nd, by simp, fun x hx y hy => by
        have : y = e := by simpa using hy
        subst this
        exact fun z => hn.2 (z ▸ hx)⟩
    · rcases List.mem_append.mp hp with hp | hp
      · exact h.le p hp
      · rw [List.mem_singleton.mp hp]
        exact ⟨he, by simp [hk]⟩
theorem RIn.foldE {l : Row} {S : List Row} {s k : Nat} {ps : List Row} (hk : ps.length = k) : ∀ {es : List Nat} {m : Rch}, (∀ e ∈ es, e ≤ l.length) → RIn l (k + 1) m → RIn l (k + 1) (es.foldl (stepE l S s ps) m)
  | [], m, _, h => h
  | e :: es, m, he, h => RIn.foldE (es := es) (m := stepE l S s ps m e) hk (fun x hx => he x (List.mem_cons_of_mem _ hx)) (h.one (he e List.mem_cons_self) hk)
theorem RIn.s {l : Row} {S : List Row} {k : Nat} {m : Rch} {p : Nat × List Row} (hp : p.1 ≤ l.length) (hk : p.2.length = k) (h : RIn l (k + 1) m) : RIn l (k + 1) (stepS l S m p) :=
  RIn.foldE hk (fun e he => by rw [List.mem_range'_1] at he; omega) h
theorem RIn.foldS {l : Row} {S : List Row} {k : Nat} : ∀ {r m : Rch}, (∀ p ∈ r, p.1 ≤ l.length ∧ p.2.length = k) → RIn l (k + 1) m → RIn l (k + 1) (r.foldl (stepS l S) m)
  | [], m, _, h => h
  | p :: r, m, hr, h => RIn.foldS (r := r) (m := stepS l S m p) (fun q hq => hr q (List.mem_cons_of_mem _ hq)) (RIn.s (hr p List.mem_cons_self).1 (hr p List.mem_cons_self).2 h)
theorem RIn.nil {l : Row} {k : Nat} : RIn l k [] := ⟨by simp, fun p hp => by cases hp⟩
theorem RIn.r {l : Row} {S : List Row} {k : Nat} {r : Rch} (h : RIn l k r) : RIn l (k + 1) (stepR l r S) := RIn.foldS h.le RIn.nil
theorem RIn.start {l : Row} : RIn l 0 [(0, [])] := ⟨by simp, fun p hp => by rw [List.mem_singleton.mp hp]; exact ⟨Nat.zero_le _, rfl⟩⟩
theorem RIn.all {l : Row} : ∀ {Ss : List (List Row)} {k : Nat} {r : Rch}, RIn l k r → RIn l (k + Ss.length) (Ss.foldl (stepR l) r)
  | [], k, r, h => h
  | S :: Ss, k, r, h => by
    have := RIn.all (Ss := Ss) (h.r (S := S))
    rw [List.length_cons, show k + (Ss.length + 1) = k + 1 + Ss.length by omega]
    exact this
def rchD (m : Rch) : D := dicA natD linesD m
theorem pairs_rch : ∀ m : Rch, ((m.map fun p => natD p.1).zip (m.map fun p => linesD p.2)).map (fun p => D.tup [p.1, p.2]) = m.map fun p => .tup [natD p.1, linesD p.2]
  | [] => rfl
  | p :: m => by
    simp only [List.map_cons, List.zip_cons_cons, pairs_rch m]
theorem dit_rch (m : Rch) : ditF (rchD m) = some (m.map fun p => .tup [natD p.1, linesD p.2]) := by
  show (if _ then _ else _) = _
  rw [if_pos, pairs_rch]
  rw [List.all_map, List.all_eq_true]
  intro p _
  rfl
theorem e_pieces_of (l : Row) (hl : l.length ≤ 1000) (Ss : List (List Row)) (hs : Ss.length ≤ 1000) (n : Nat) (hn : 0 < n) :
    Pure (cl n) "pieces_of" [rowI l, .lst (Ss.map setR)] (match pieces l Ss with | some ps => linesD ps | none => .non) := by
  obtain ⟨n, rfl⟩ : ∃ m, n = m + 1 := ⟨n - 1, by omega⟩
  have z := szl'
  refine pure_by m_pieces_of rfl (Nat.le_of_ble_eq_true rfl) ?_
  obtain ⟨P, hP⟩ : ∃ P : Sl → Sl → Sl → Sl → Sl → List Sl → Prop, P = fun s2 s3 s4 s5 s6 ρ => ∃ s7, Fre s7 ∧ ρ = [.d (rowI l), .d (.lst (Ss.map setR)), s2, s3, s4, s5, s6, s7] := ⟨_, rfl⟩
  have mk : ∀ {s2 s3 s4 s5 s6 s7}, Fre s7 → P s2 s3 s4 s5 s6 [.d (rowI l), .d (.lst (Ss.map setR)), s2, s3, s4, s5, s6, s7] := fun h2 => hP ▸ ⟨_, h2, rfl⟩
  have un : ∀ {s2 s3 s4 s5 s6 ρ}, P s2 s3 s4 s5 s6 ρ → ∃ s7, Fre s7 ∧ ρ = [.d (rowI l), .d (.lst (Ss.map setR)), s2, s3, s4, s5, s6, s7] := fun h => by rw [hP] at h; exact h
  clear hP
  have d0 : dspF [.inl 0] [.tup []] = some (.new (.dic [natD 0] [linesD []])) := by
    unfold dspF
    rw [if_pos ⟨by decide, rfl, by simp⟩]
    rfl
  simp -implicitDefEqProofs [f_pieces_of, d0]
  refine run_fold (S := Rch) (e := setR) (xs := Ss) (stepR l) [(0, [])] (fun m ρ => ∃ s3, Fre s3 ∧ ∃ s4, Fre s4 ∧ ∃ s5, Fre s5 ∧ ∃ s6, Fre s6 ∧ P (.d (rchD m)) s3 s4 s5 s6 ρ) ⟨_, .no, _, .no, _, .no, _, .no, mk .no⟩ (fun pre S post hx ρ q => ?_) fun ρ q => ?_
  · obtain ⟨s3, h3, s4, h4, s5, h5, s6, h6, q⟩ := q
    obtain ⟨s7, h7, rfl⟩ := un q
    have rin := RIn.all (Ss := pre) (RIn.start (l := l))
    have hpre : pre.length ≤ 1000 := by
      have := congrArg List.length hx
      rw [List.length_append, List.length_cons] at this
      omega
    generalize pre.foldl (stepR l) [(0, [])] = r at rin
    rw [Nat.zero_add] at rin
    refine ⟨_, bindT_fre h3 rfl, ?_⟩
    simp -implicitDefEqProofs [h4.bo, dit_rch]
    refine run_fold (S := Rch) (e := fun p : Nat × List Row => .tup [natD p.1, linesD p.2]) (xs := r) (stepS l S) [] (fun m ρ => ∃ s5, Fre s5 ∧ ∃ s6, Fre s6 ∧ P (.d (rchD r)) (.d (setR S)) (.own (.dic (m.map fun p => natD p.1) (m.map fun p => linesD p.2))) s5 s6 ρ) ⟨_, h5, _, h6, mk h7⟩ (fun pre1 p post1 hx1 ρ q => ?_) fun ρ q => ?_
    · obtain ⟨s5, h5, s6, h6, q⟩ := q
      obtain ⟨s7, h7, rfl⟩ := un q
      have hp := rin.le p (by rw [hx1]; simp)
      have rin1 : RIn l (pre.length + 1) (pre1.foldl (stepS l S) []) := RIn.foldS (fun q hq => rin.le q (by rw [hx1]; exact List.mem_append_left _ hq)) RIn.nil
      generalize pre1.foldl (stepS l S) [] = m at rin1
      refine ⟨_, by simp -implicitDefEqProofs [h5.bo, h6.bo]; rfl, ?_⟩
      obtain ⟨ps0, ps⟩ := p
      dsimp only at hp
      simp -implicitDefEqProofs [natD, rowI_len, rng_s1 (s := ps0) (n := l.length) (by omega) (by omega)]
      refine run_fold (S := Rch) (e := natD) (xs := List.range' (ps0 + 1) (l.length - ps0)) (stepE l S ps0 ps) m (fun m ρ => P (.d (rchD r)) (.d (setR S)) (.own (.dic (m.map fun p => natD p.1) (m.map fun p => linesD p.2))) (.d (natD ps0)) (.d (linesD ps)) ρ) (mk h7) (fun pre2 e post2 hx2 ρ q => ?_) fun ρ q => ?_
      · obtain ⟨s7, h7, rfl⟩ := un q
        have he : ∀ x ∈ pre2, x ≤ l.length := fun x hx => by
          have : x ∈ List.range' (ps0 + 1) (l.length - ps0) := by rw [hx2]; exact List.mem_append_left _ hx
          rw [List.mem_range'_1] at this
          omega
        have he2 : ps0 + 1 ≤ e ∧ e ≤ l.length := by
          have : e ∈ List.range' (ps0 + 1) (l.length - ps0) := by rw [hx2]; simp
          rw [List.mem_range'_1] at this
          omega
        have rin2 := RIn.foldE (S := S) (s := ps0) (ps := ps) hp.2 he rin1
        generalize pre2.foldl (stepE l S ps0 ps) m = m2 at rin2
        have l2 := rin2.len
        have hl2 : m2.length < sizeLine := Nat.lt_of_le_of_lt (by omega : m2.length ≤ 5000) (Nat.lt_of_lt_of_le (by decide : 5000 < 10000) z)
        have cm := cut_mid (l := l) (a := ps0) (b := e) (by omega) (by omega)
        have mm : (m2.map fun p => natD p.1) = (m2.map (·.1)).map natD := by rw [List.map_map]; rfl
        have nin : cmpF .NotIn (natD e) (.dic (m2.map fun p => natD p.1) (m2.map fun p => linesD p.2)) = some (!decide (e ∈ m2.map (·.1))) := by
          rw [mm, emb_nat.nin]
        refine ⟨_, bindT_fre h7 rfl, ?_⟩
        unfold natD at nin
        by_cases h1 : (l.drop ps0).take (e - ps0) ∈ S
        · rw [show stepE l S ps0 ps m2 e = m2 from if_pos (.inl h1)]
          simp -implicitDefEqProofs [natD, cm, nin_row, h1]
          exact mk Fre.d
        · by_cases h2 : e ∈ m2.map (·.1)
          · rw [show stepE l S ps0 ps m2 e = m2 from if_pos (.inr h2)]
            simp -implicitDefEqProofs only [h2, decide_true, Bool.not_true] at nin
            simp -implicitDefEqProofs [natD, cm, nin_row, h1, nin]
            exact mk Fre.d
          · rw [show stepE l S ps0 ps m2 e = m2 ++ [(e, ps ++ [piece l ps0 e])] from if_neg (not_or.mpr ⟨h1, h2⟩)]
            have pt := emb_nat.putM (g := linesD) (a := e) (b := ps ++ [(l.drop ps0).take (e - ps0)]) hl2
            rw [show putA m2 e (ps ++ [(l.drop ps0).take (e - ps0)]) = m2 ++ [(e, ps ++ [(l.drop ps0).take (e - ps0)])] from if_neg h2] at pt
            unfold natD linesD at pt
            rw [List.map_append, List.map_cons, List.map_nil] at pt
            have sz : ps.length + 1 ≤ sizeLine := Nat.le_trans (by omega : ps.length + 1 ≤ 10000) z
            simp -implicitDefEqProofs only [h2, decide_false, Bool.not_false] at nin
            unfold linesD at nin
            simp -implicitDefEqProofs [natD, cm, nin_row, h1, nin, linesD, sz, pt, piece]
            exact mk Fre.d
      · obtain ⟨s7, h7, rfl⟩ := un q
        simp -implicitDefEqProofs
        exact ⟨_, Fre.d, _, Fre.d, mk h7⟩
    · obtain ⟨s5, h5, s6, h6, q⟩ := q
      obtain ⟨s7, h7, rfl⟩ := un q
      simp -implicitDefEqProofs
      exact ⟨_, Fre.d, _, Fre.d, _, h5, _, h6, mk h7⟩
  · obtain ⟨s3, h3, s4, h4, s5, h5, s6, h6, q⟩ := q
    obtain ⟨s7, h7, rfl⟩ := un q
    have ck : ∀ ρ : List Sl, chkDic ρ (.d (rchD (reach l Ss))) = some () := fun _ => rfl
    have gt : dgetF (rchD (reach l Ss)) [.int l.length] = some (.d (match pieces l Ss with | some ps => linesD ps | none => .non)) := by
      have e1 : ((reach l Ss).map fun p => natD p.1) = ((reach l Ss).map (·.1)).map natD := by rw [List.map_map]; rfl
      show (if dOk ((reach l Ss).map fun p => natD p.1) (natD l.length) then some (Fw.T.d ((dFind ((reach l Ss).map fun p => natD p.1) ((reach l Ss).map fun p => linesD p.2) (natD l.length)).getD .non)) else none) = _
      rw [emb_nat.find (g := linesD), if_pos (by rw [e1]; exact emb_nat.ok _ _)]
      unfold pieces
      cases lookA l.length (reach l Ss) <;> rfl
    rw [show Ss.foldl (stepR l) [(0, [])] = reach l Ss from rfl]
    simp -implicitDefEqProofs [ck, rowI_len, gt]
end Tab

set_option maxHeartbeats 400000
namespace Tab
open PySem PySem.Spec PyProof.Rows L2 Fw
/-! ### the object that remembers -/
abbrev Mem := List (Str × Kd)
def memO (B : Bans) (m : Mem) : O := .dic (m.map fun p => .str p.1) (m.map fun p => setR (KB B p.2))
structure MOk (m : Mem) : Prop where
  ok : ∀ p ∈ m, p.1 = fmtK p.2 ∧ GoodK p.2
def lookM (k : Kd) (m : Mem) : Mem := if fmtK k ∈ m.map (·.1) then m else m ++ [(fmtK k, k)]
theorem MOk.put {m : Mem} (h : MOk m) {k : Kd} (g : GoodK k) : MOk (lookM k m) := by
  unfold lookM
  split
  · exact h
  · refine ⟨fun p hp => ?_⟩
    rcases List.mem_append.mp hp with hp | hp
    · exact h.ok p hp
    · rw [List.mem_singleton.mp hp]; exact ⟨rfl, g⟩
theorem look_mem {β : Type} {s : Str} {b : β} : ∀ {m : List (Str × β)}, lookA s m = some b → (s, b) ∈ m
  | [], h => by cases h
  | p :: m, h => by
    unfold lookA at h
    split at h
    · rename_i e
      cases h
      rw [← e]
      exact List.mem_cons_self
    · exact List.mem_cons_of_mem _ (look_mem h)
theorem look_has {β : Type} {s : Str} : ∀ {m : List (Str × β)}, s ∈ m.map (·.1) → ∃ b, lookA s m = some b
  | [], h => by simp at h
  | p :: m, h => by
    unfold lookA
    by_cases e : p.1 = s
    · exact ⟨p.2, by rw [if_pos e]⟩
    · rw [if_neg e]
      rw [List.map_cons] at h
      rcases List.mem_cons.mp h with h | h
      · exact absurd h.symm e
      · exact look_has h
theorem MOk.look {m : Mem} (h : MOk m) {k : Kd} (g : GoodK k) : lookA (fmtK k) (lookM k m) = some k := by
  have hk : fmtK k ∈ (lookM k m).map (·.1) := by
    unfold lookM
    split
    · assumption
    · simp
  obtain ⟨k', e⟩ := look_has hk
  have := (h.put g).ok _ (look_mem e)
  rw [e, fmtK_inj g this.2 this.1]
theorem len_lookM {k : Kd} {m : Mem} : (lookM k m).length ≤ m.length + 1 := by
  unfold lookM
  split
  · omega
  · simp
/-- a method's body -/
theorem meth_by {n : Nat} {fd : Fd} {args : List Fw.Arg} {Q : D → List Sl → Prop} (h : fd ∈ tabOf dfs) (hl : args.length = fd.ps.length) (hg : fd.gh.isEmpty = false)
    (e : Run (exSs (cf n) fd.body (args.map argFz ++ List.replicate (fd.N.length - args.length) .no)) fun fl ρ => ∃ r, fl = .rt (.d r) ∧ Q r (ρ.take args.length)) : ∃ r bs, cl (n + 1) fd.name args = some (.d r, bs) ∧ Q r bs := by
  obtain ⟨fl, ρ, e, r, rfl, q⟩ := e
  refine ⟨r, ρ.take args.length, (cl_by h _).trans ?_, q⟩
  unfold runF
  rw [if_pos hl, hg]
  show (exSs (cf n) fd.body (args.map argFz ++ _)).bind _ = _
  rw [e]
  rfl
theorem e_banned_by (B : Bans) (b : BOk B) (k : Kd) (g : GoodK k) (hz : k.sz ≤ 300) (m : Mem) (hm : MOk m) (hl : m.length ≤ 10000) (n : Nat) (hn : 2 * k.dep + 5 < n) :
    ∃ s0 s1 s2, cl n "Truth.banned_by" [.fr .obj, .fr k.d, .fr (bansD B), .bo (memO B m)] = some (.d (setR (KB B k)), [s0, s1, s2, .bor (memO B (lookM k m))]) := by
  obtain ⟨n, rfl⟩ : ∃ m, n = m + 1 := ⟨n - 1, by omega⟩
  have h1 := e_format_kind k g hz n (by omega)
  have h2 := e_kind_banned B b k g.1 n (by omega)
  have hl2 : m.length < sizeLine := Nat.lt_of_le_of_lt hl (by decide)
  have mm : (m.map fun p => D.str p.1) = (m.map (·.1)).map D.str := by rw [List.map_map]; rfl
  have nin : cmpF .NotIn (.str (fmtK k)) (.dic (m.map fun p => D.str p.1) (m.map fun p => setR (KB B p.2))) = some (!decide (fmtK k ∈ m.map (·.1))) := by
    rw [mm, emb_str.nin]
  have ix : ∀ m' : Mem, lookA (fmtK k) m' = some k → ixF (.dic (m'.map fun p => D.str p.1) (m'.map fun p => setR (KB B p.2))) (.str (fmtK k)) = some (.d (setR (KB B k))) := fun m' h => by
    have mm' : (m'.map fun p => D.str p.1) = (m'.map (·.1)).map D.str := by rw [List.map_map]; rfl
    rw [ixF_dic, emb_str.find (g := fun k : Kd => setR (KB B k)), if_pos (by rw [mm']; exact emb_str.ok _ _), h]
    rfl
  have lk := hm.look g
  have z := meth_by (n := n) (args := [.fr .obj, .fr k.d, .fr (bansD B), .bo (memO B m)]) (Q := fun r bs => r = setR (KB B k) ∧ ∃ s0 s1 s2, bs = [s0, s1, s2, .bor (memO B (lookM k m))]) m_Truth_banned_by rfl rfl ?_
  · obtain ⟨r, bs, e, rfl, s0, s1, s2, rfl⟩ := z
    exact ⟨s0, s1, s2, e⟩
  · by_cases hk : fmtK k ∈ m.map (·.1)
    · rw [show lookM k m = m from if_pos hk] at lk ⊢
      have ix' := ix m lk
      simp -implicitDefEqProofs only [hk, decide_true, Bool.not_true] at nin
      simp -implicitDefEqProofs [f_Truth_banned_by, argFz, memO, call_p1 h1, nin, ix']
    · rw [show lookM k m = m ++ [(fmtK k, k)] from if_neg hk] at lk ⊢
      have pt := emb_str.putM (g := fun k : Kd => setR (KB B k)) (a := fmtK k) (b := k) hl2
      rw [show putA m (fmtK k) k = m ++ [(fmtK k, k)] from if_neg hk] at pt
      have ix' := ix _ lk
      generalize hm2 : m ++ [(fmtK k, k)] = m2 at pt ix' lk
      simp -implicitDefEqProofs only [hk, decide_false, Bool.not_false] at nin
      simp -implicitDefEqProofs [f_Truth_banned_by, argFz, memO, call_p1 h1, nin, call_p2 h2, pt, ix']
end Tab

set_option maxHeartbeats 400000
namespace Tab
open PySem PySem.Spec PyProof.Rows L2 Fw
section
variable {call : Str → List Fw.Arg → Option (Fw.T × List Sl)} {f : Str} {a d2 r : D} {o o' : O} {s0 s1 s2 : Sl} {ρ : List Sl}
theorem call_m (h : call f [.fr .obj, .fr a, .fr d2, .bo o] = some (.d r, [s0, s1, s2, .bor o'])) (e0 : ρ[0]? = some (.fz .obj)) (e2 : ρ[2]? = some (.fz d2)) (e3 : ρ[3]? = some (.bor o)) :
    callF call f [.sl 0, .d a, .sl 2, .sl 3] ρ = some (.d r, ρ.set 3 (.bor o')) := by
  simp [callF, toArgs, toArg, e0, e2, e3, lent, news, h, backs, back1, setAll]
theorem call_ob (h : call f [.fr .obj, .fr a, .fr d2, .bo o] = some (.d r, [s0, s1, s2, .bor o'])) : callF call f [.d .obj, .d a, .d d2, .new o] ρ = some (.d r, ρ) := by
  simp [callF, toArgs, toArg, lent, news, h, backs, setAll]
end
@[simp] theorem asF_bnd {α : Type} {x : Option α} {f : α → Rs Fw.T} : asF (@bnd _ _ x ⟨f⟩) = @bnd _ _ x ⟨fun a => asF (f a)⟩ := by
  cases x <;> rfl
abbrev Line := List Kd × Kd
def lineD (l : Line) : D := .tup [.tup (l.1.map Kd.d), l.2.d]
structure LnOk (l : Line) : Prop where
  len : l.1.length ≤ 1000
  k : ∀ k ∈ l.1, GoodK k ∧ k.sz ≤ 300 ∧ k.dep ≤ 40
  g : GoodK l.2 ∧ l.2.sz ≤ 300 ∧ l.2.dep ≤ 40
def pcs (B : Bans) (l : Line) (x : Row) : Option (List Row) := pieces x (l.1.map (KB B))
/-- what failing hands back -/
def FRes (B : Bans) (l : Line) (r : D) : Prop := (∃ x ∈ KB B l.2, ∃ ps, pcs B l x = some ps ∧ r = linesD ps) ∨ ((∀ x ∈ KB B l.2, pcs B l x = none) ∧ r = .non)
theorem e_failing (B : Bans) (b : BOk B) (l : Line) (hL : LnOk l) (n : Nat) (hn : 90 < n) :
    ∃ r s0 s1 s2 o', FRes B l r ∧ cl n "Truth.failing" [.fr .obj, .fr (lineD l), .fr (bansD B), .bo (.dic [] [])] = some (.d r, [s0, s1, s2, .bor o']) := by
  obtain ⟨n, rfl⟩ : ∃ m, n = m + 1 := ⟨n - 1, by omega⟩
  have z := meth_by (n := n) (args := [.fr .obj, .fr (lineD l), .fr (bansD B), .bo (.dic [] [])]) (Q := fun r bs => FRes B l r ∧ ∃ s0 s1 s2 o', bs = [s0, s1, s2, .bor o']) m_Truth_failing rfl rfl ?_
  · obtain ⟨r, bs, e, h, s0, s1, s2, o', rfl⟩ := z
    exact ⟨r, s0, s1, s2, o', h, e⟩
  · have z := szl'
    have ld : lineD l = .tup [.tup (l.1.map Kd.d), l.2.d] := rfl
    have m0 : (O.dic [] [] : O) = memO B [] := rfl
    generalize hld : lineD l = ll at ld
    rw [m0]
    simp -implicitDefEqProofs [f_Truth_failing, argFz, ld]
    rw [← ld]
    refine run_turns (fun i acc ρ => acc = (l.1.take i).map (fun k => setR (KB B k)) ∧ ∃ m, MOk m ∧ m.length ≤ i ∧ ρ = [.fz .obj, .fz ll, .fz (bansD B), .bor (memO B m), .no, .no, .d (.tup (l.1.map Kd.d)), .d l.2.d, .no, .no]) ⟨rfl, [], ⟨fun p hp => by cases hp⟩, Nat.le_refl _, rfl⟩ (fun i hi acc ρ ⟨ha, m, hm, hml, e⟩ => ?_) fun xs ρ ⟨ha, m, hm, hml, e⟩ => ?_
    · subst e
      have hi' : i < l.1.length := by simpa using hi
      rw [get_of (x := l.1[i].d) (by rw [List.getElem?_map, List.getElem?_eq_getElem hi']; rfl)]
      obtain ⟨g, gz, gd⟩ := hL.k l.1[i] (List.getElem_mem hi')
      obtain ⟨s0, s1, s2, c⟩ := e_banned_by B b l.1[i] g gz m hm (by have := hL.len; omega) n (by omega)
      simp -implicitDefEqProofs [call_m c]
      refine ⟨?_, lookM l.1[i] m, hm.put g, Nat.le_trans len_lookM (by omega), rfl⟩
      rw [ha, ← List.map_take, List.take_succ_eq_append_getElem hi', List.map_append]
      rfl
    · subst e ha
      simp only [List.length_map] at hml
      have hlen := hL.len
      simp -implicitDefEqProofs only [List.length_map, List.take_length]
      have sz : l.1.length ≤ sizeLine := Nat.le_trans (by omega) z
      obtain ⟨g, gz, gd⟩ := hL.g
      obtain ⟨s0, s1, s2, c⟩ := e_banned_by B b l.2 g gz m hm (by omega) n (by omega)
      have it : items (setR (KB B l.2)) = some ((KB B l.2).map rowI) := rfl
      generalize hS : (l.1.map fun k => setR (KB B k)) = Sd
      have eS : Sd = (l.1.map (KB B)).map setR := by rw [← hS, List.map_map]; rfl
      have eL : Sd.length = l.1.length := by rw [← hS, List.length_map]
      simp -implicitDefEqProofs [eL, sz, call_m c, it]
      obtain ⟨P, hP⟩ : ∃ P : List Sl → Prop, P = fun ρ => ∃ s5 s8, Fre s5 ∧ Fre s8 ∧ ρ = [.fz .obj, .fz ll, .fz (bansD B), .bor (memO B (lookM l.2 m)), .d (.lst Sd), s5, .d (.tup (l.1.map Kd.d)), .d l.2.d, s8, .no] := ⟨_, rfl⟩
      have mk : ∀ {s5 s8}, Fre s5 → Fre s8 → P [.fz .obj, .fz ll, .fz (bansD B), .bor (memO B (lookM l.2 m)), .d (.lst Sd), s5, .d (.tup (l.1.map Kd.d)), .d l.2.d, s8, .no] := fun h1 h2 => hP ▸ ⟨_, _, h1, h2, rfl⟩
      have un : ∀ {ρ}, P ρ → ∃ s5 s8, Fre s5 ∧ Fre s8 ∧ ρ = [.fz .obj, .fz ll, .fz (bansD B), .bor (memO B (lookM l.2 m)), .d (.lst Sd), s5, .d (.tup (l.1.map Kd.d)), .d l.2.d, s8, .no] := fun h => by rw [hP] at h; exact h
      clear hP
      refine run_for (fun i ρ => (∀ j (hj : j < (KB B l.2).length), j < i → pcs B l (KB B l.2)[j] = none) ∧ P ρ) ⟨fun j hj h => absurd h (Nat.not_lt_zero _), mk .no .no⟩ (fun i hi ρ ⟨hno, q⟩ => ?_) fun ρ ⟨hno, q⟩ => ?_
      · obtain ⟨s5, s8, h5, h8, rfl⟩ := un q
        have hi' : i < (KB B l.2).length := by simpa using hi
        rw [get_of (x := rowI (KB B l.2)[i]) (by rw [List.getElem?_map, List.getElem?_eq_getElem hi']; rfl)]
        have hx : (KB B l.2)[i] ∈ KB B l.2 := List.getElem_mem hi'
        have hl := ((KB_ok b l.2).row b hx).2
        have po := e_pieces_of (KB B l.2)[i] (by omega) (l.1.map (KB B)) (by rw [List.length_map]; exact hlen) n (by omega)
        rw [← eS] at po
        generalize hxx : (KB B l.2)[i] = x at hx po
        refine ⟨_, bindT_fre h5 rfl, ?_⟩
        cases hp : pieces x (l.1.map (KB B)) with
        | none =>
          rw [hp] at po
          have isn : cmpF .IsNot .non .non = some false := rfl
          simp -implicitDefEqProofs [call_p2 po, h8.bo, isn]
          refine ⟨fun j hj h => ?_, mk Fre.d Fre.d⟩
          rcases Nat.lt_succ_iff_lt_or_eq.mp h with h | rfl
          · exact hno j hj h
          · rw [hxx]; exact hp
        | some ps =>
          rw [hp] at po
          have isn : cmpF .IsNot (linesD ps) .non = some true := rfl
          simp -implicitDefEqProofs [call_p2 po, h8.bo, isn]
          exact .inl ⟨x, hx, ps, hp, rfl⟩
      · obtain ⟨s5, s8, h5, h8, rfl⟩ := un q
        simp -implicitDefEqProofs
        refine .inr ⟨fun x hx => ?_, rfl⟩
        obtain ⟨j, hj, rfl⟩ := List.mem_iff_getElem.mp hx
        exact hno j hj (by simpa using hj)
theorem e_failing_lines (B : Bans) (b : BOk B) (l : Line) (hL : LnOk l) (n : Nat) (hn : 92 < n) : ∃ r, FRes B l r ∧ Pure (cl n) "failing_lines" [bansD B, lineD l] r := by
  obtain ⟨n, rfl⟩ : ∃ m, n = m + 2 := ⟨n - 2, by omega⟩
  obtain ⟨r, s0, s1, s2, o', h, e⟩ := e_failing B b l hL (n + 1) (by omega)
  have hB : bansD B = .tup (B.map banD) := rfl
  have ft : fldT [.arg 0, .dict] [bansD B] = some [.d (bansD B), .new (.dic [] [])] := rfl
  refine ⟨r, h, pure_by m_failing_lines rfl (Nat.le_of_ble_eq_true rfl) ?_⟩
  have up : 2 ≤ n + 1 := by omega
  simp -implicitDefEqProofs [f_failing_lines, ft, up, call_ob e]
theorem e_holds (B : Bans) (b : BOk B) (l : Line) (hL : LnOk l) (n : Nat) (hn : 93 < n) : ∃ r, FRes B l r ∧ Pure (cl n) "holds" [bansD B, lineD l] (.bl (match r with | .non => true | _ => false)) := by
  obtain ⟨n, rfl⟩ : ∃ m, n = m + 1 := ⟨n - 1, by omega⟩
  obtain ⟨r, h, e⟩ := e_failing_lines B b l hL n (by omega)
  refine ⟨r, h, pure_by m_holds rfl (Nat.le_of_ble_eq_true rfl) ?_⟩
  rcases h with ⟨x, hx, ps, _, rfl⟩ | ⟨_, rfl⟩
  · have is : cmpF .Is (linesD ps) .non = some false := rfl
    simp -implicitDefEqProofs [f_holds, call_p2 e, is]
    rfl
  · have is : cmpF .Is .non .non = some true := rfl
    simp -implicitDefEqProofs [f_holds, call_p2 e, is]
end Tab

set_option maxHeartbeats 400000
namespace Tab
open PySem PySem.Spec PyProof.Rows L2 Fw
@[simp] theorem ev_chn {C : Cfg} {ρ : List Sl} {op op' : CmpOp} {a b c : IE} : evE C (.chn op op' a b c) ρ = (evE C a ρ).bind fun r => (evE C b r.2).bind fun s => (asB (vw2 (fun x y => dB (cmpF op x y)) s.2 r.1 s.1)).bind fun q =>
      if q.1 then (evE C c q.2).bind fun w => vw2 (fun x y => dB (cmpF op' x y)) w.2 s.1 w.1 else some (.d (.bl false), q.2) := by simp only [evE]
theorem in_sign {k : Nat} {z : Str} : cmpF .In (.str ⟨#[k]⟩) (.str z) = some (decide (k ∈ tl z)) := rfl
theorem nin_sign {k : Nat} {z : Str} : cmpF .NotIn (.str ⟨#[k]⟩) (.str z) = some (!decide (k ∈ tl z)) := rfl
theorem tl_low : tl small = List.range' 97 26 := by decide +kernel
def digs : Str := "0123456789"
theorem tl_dig : tl digs = List.range' 48 10 := by decide +kernel
theorem low_in {k : Nat} (h : isLow k) : k ∈ tl small := by
  rw [tl_low, List.mem_range'_1]
  unfold isLow at h
  omega
theorem dig_in {k : Nat} (h : isDig k) : k ∈ tl digs := by
  rw [tl_dig, List.mem_range'_1]
  unfold isDig at h
  omega
theorem len_st {z : Str} (h : z.length ≤ 1000) : bltF .len [.str z] = some (.d (.int z.length)) := by
  show (if z.length ≤ sizeLine then some (iD z.length) else none) = _
  rw [if_pos (Nat.le_trans h (by decide))]
  rfl
theorem ix_0 {z : Str} {c : Nat} {r : List Nat} (h : tl z = c :: r) (hz : z.length ≤ 100) : ixF (.str z) (.int 0) = some (.d (.str ⟨#[c]⟩)) := by
  have := ix_str (z := z) (r := 0) (by rw [h]; simp) hz
  rw [show (((0 : Nat) : Int)) = 0 from rfl] at this
  rw [this]
  simp [h]
def chD (c : Nat) : D := .str ⟨#[c]⟩
theorem e_atom_number (z : Str) (i : Nat) (h1 : 1 ≤ i) (h2 : i ≤ 999999) (hz : tl z = TL.numL i) (n : Nat) (hn : 0 < n) : Pure (cl n) "is_atom_number" [.str z] (.bl true) := by
  obtain ⟨n, rfl⟩ : ∃ m, n = m + 1 := ⟨n - 1, by omega⟩
  have zl : z.length = (TL.numL i).length := by rw [len_str, hz]
  have l6 := TL.numL_len (n := i) (k := 6) (by decide) (by omega)
  have hd := TL.numL_digits i
  have hne := TL.numL_ne i
  have h0 : ∀ c r, TL.numL i = c :: r → c ≠ 48 := fun c r e => by
    have : ∀ n : Nat, 1 ≤ n → ∀ c r, TL.numL n = c :: r → c ≠ 48 := by
      intro n
      induction n using Nat.strongRecOn with
      | ind n ih =>
        intro hn c r e
        by_cases hlt : n < 10
        · rw [TL.numL_lt hlt] at e
          injection e with e1 e2
          omega
        · rw [TL.numL_step (by omega)] at e
          cases q : TL.numL (n / 10) with
          | nil => exact absurd q (TL.numL_ne _)
          | cons c' r' =>
            rw [q] at e
            injection e with e1 e2
            rw [← e1]
            exact ih (n / 10) (by omega) (by omega) c' r' q
    exact this i h1 c r e
  generalize TL.numL i = L at *
  cases L with
  | nil => exact absurd rfl hne
  | cons c r =>
    have ix := ix_0 hz (by rw [zl]; simp at l6 ⊢; omega)
    have nz : ¬ ((⟨#[c]⟩ : Str) = ("0" : Str)) := fun e => by
      have := congrArg tl e
      have e2 : tl ("0" : Str) = [48] := by decide +kernel
      rw [e2] at this
      injection this with h3 _
      exact h0 c r rfl h3
    have lz := len_st (z := z) (by rw [zl]; omega)
    have c1 : (1 : Int) ≤ z.length := by rw [zl, List.length_cons]; omega
    have c2 : (z.length : Int) ≤ 6 := by rw [zl]; omega
    have sz : (c :: r).length ≤ sizeLine := Nat.le_trans l6 (by decide)
    have it : items (.str z) = some ((c :: r).map chD) := by rw [← hz]; rfl
    have dg : ("0123456789" : Str) = digs := rfl
    generalize c :: r = L at it sz hd
    refine pure_by m_is_atom_number rfl (Nat.le_of_ble_eq_true rfl) ?_
    simp -implicitDefEqProofs [f_is_atom_number, lz, c1, c2, ix, nz, -items_str, it, dg]
    refine run_map1 (ps := L) (f := chD) (h := fun c => .bl ((fun _ => true) c)) (fun c hc => ?_) ?_
    · have hin : decide (c ∈ tl digs) = true := decide_eq_true (dig_in (hd c hc))
      have inn : cmpF .In (chD c) (.str digs) = some true := by rw [← hin]; exact in_sign
      simp -implicitDefEqProofs [inn, dg]
    · rw [List.length_map] at *
      simp -implicitDefEqProofs [sz, all_bl (f := fun _ => true)]
end Tab

set_option maxHeartbeats 400000
namespace Tab
open PySem PySem.Spec PyProof.Rows L2 Fw
theorem pt_str {s b d m : Str} (h : Txt.partition s (".") = (b, d, m)) (hl : s.length ≤ 1000) : bmF .partition s [.str "."] = some (.d (.tup [.str b, .str d, .str m])) := by
  show (if ((("." : Str).length == 0) = false ∧ s.length ≤ sizeLine) then some (Fw.T.d (.tup [.str (Txt.partition s ".").1, .str (Txt.partition s ".").2.1, .str (Txt.partition s ".").2.2])) else none) = _
  rw [if_pos ⟨by decide +kernel, Nat.le_trans hl (by decide)⟩, h]
theorem tl_dot : TL.tl ("." : Str) = 46 :: [] := by decide +kernel
/-- a base and what stands behind it -/
theorem e_is_atom_of (s b d m : Str) (hp : Txt.partition s (".") = (b, d, m)) (hs : s.length ≤ 1000) (hb : Base (tl b) 7) (hd : d = "" ∨ (d ≠ "" ∧ ∃ i, 1 ≤ i ∧ i ≤ 999999 ∧ tl m = TL.numL i)) (n : Nat) (hn : 1 < n) :
    Pure (cl n) "is_atom" [.str s] (.bl true) := by
  obtain ⟨n, rfl⟩ : ∃ m, n = m + 1 := ⟨n - 1, by omega⟩
  obtain ⟨c, r, e1, e2, e3, e4⟩ := hb.ex
  have pt := pt_str hp hs
  have bl : b.length = r.length + 1 := by rw [len_str, e1, List.length_cons]
  have ix := ix_0 e1 (by omega)
  have lb := len_st (z := b) (by omega)
  have c1 : (1 : Int) ≤ b.length := by omega
  have c2 : (b.length : Int) ≤ 8 := by omega
  have n0 : cmpF .NotIn (.str ⟨#[c]⟩) (.str small) = some false := by
    rw [nin_sign, decide_eq_true (low_in e2)]; rfl
  have it : items (.str b) = some ((c :: r).map chD) := by rw [← e1]; rfl
  have sz : (c :: r).length ≤ sizeLine := Nat.le_trans (by rw [List.length_cons]; omega : (c :: r).length ≤ 8) (by decide)
  have ok : ∀ x ∈ c :: r, isLow x ∨ isDig x := fun x hx => by
    rcases List.mem_cons.mp hx with rfl | hx
    · exact .inl e2
    · exact e3 x hx
  have dg : ("0123456789" : Str) = digs := rfl
  have lw : ("abcdefghijklmnopqrstuvwxyz" : Str) = small := rfl
  generalize c :: r = L at it sz ok
  have bools : Run (exSs (cf n) f_is_atom.body ([D.str s].map Sl.d ++ List.replicate (f_is_atom.N.length - [D.str s].length) .no)) (fun fl ρ => fl = .rt (.d (.bl true)) ∧ [D.str s].length ≤ ρ.length) := by
    simp -implicitDefEqProofs [f_is_atom, pt, lb, c1, c2, ix, n0, lw, -items_str, it]
    refine run_map1 (ps := L) (f := chD) (h := fun c => .bl ((fun _ => true) c)) (fun x hx => ?_) ?_
    · rcases ok x hx with h | h
      · have inn : cmpF .In (chD x) (.str small) = some true := by
          rw [← decide_eq_true (low_in h)]; exact in_sign
        simp -implicitDefEqProofs [inn, lw]
      · have inn : cmpF .In (chD x) (.str digs) = some true := by
          rw [← decide_eq_true (dig_in h)]; exact in_sign
        have inl : ∃ bb, cmpF .In (chD x) (.str small) = some bb := ⟨_, in_sign⟩
        obtain ⟨bb, inl⟩ := inl
        cases bb with
        | true => simp -implicitDefEqProofs [inl, lw]
        | false => simp -implicitDefEqProofs [inl, inn, lw, dg]
    · rcases hd with rfl | ⟨hd, i, i1, i2, hm⟩
      · simp -implicitDefEqProofs [sz, all_bl (f := fun _ => true)]
      · have nm := e_atom_number m i i1 i2 hm n (by omega)
        simp -implicitDefEqProofs [sz, all_bl (f := fun _ => true), hd, call_p1 nm]
  exact pure_by m_is_atom rfl (Nat.le_of_ble_eq_true rfl) bools
theorem e_is_atom (s : Str) (h : Atm s) (n : Nat) (hn : 1 < n) : Pure (cl n) "is_atom" [.str s] (.bl true) := by
  obtain ⟨b, hb, h⟩ := h.ex
  obtain ⟨c, r, e1, e2, e3, e4⟩ := hb.ex
  have nd : 46 ∉ b := fun hx => by
    rw [e1] at hx
    rcases List.mem_cons.mp hx with hx | hx
    · unfold isLow at e2; omega
    · rcases e3 _ hx with h | h
      · unfold isLow at h; omega
      · unfold isDig at h; omega
  rcases h with h | ⟨i, i1, i2, h⟩
  · refine e_is_atom_of s s Str.empty Str.empty (TL.partition_none tl_dot (by rw [show TL.tl s = b from h]; exact nd)) (by rw [len_str, h, e1, List.length_cons]; omega) (by rw [h]; exact hb) (.inl (by decide +kernel)) n hn
  · have eb : tl (⟨b.toArray⟩ : Str) = b := by simp
    have em : tl (⟨(TL.numL i).toArray⟩ : Str) = TL.numL i := by simp
    have es : s = (⟨b.toArray⟩ : Str) ++ ("." : Str) ++ (⟨(TL.numL i).toArray⟩ : Str) := TL.ext_tl (by
      show tl s = tl _
      rw [tl_app, tl_app, eb, em, h, show tl ("." : Str) = [46] from tl_dot]
      simp)
    have l6 := TL.numL_len (n := i) (k := 6) (by decide) (by omega)
    refine e_is_atom_of s ⟨b.toArray⟩ "." ⟨(TL.numL i).toArray⟩ (by rw [es]; exact TL.partition_app tl_dot (by rw [show TL.tl (⟨b.toArray⟩ : Str) = b from eb]; exact nd)) (by rw [len_str, h, e1, List.length_append, List.length_cons, List.length_cons]; omega) (by rw [eb]; exact hb) (.inr ⟨by decide +kernel, i, i1, i2, em⟩) n hn
theorem e_is_atom_N (n : Nat) (hn : 1 < n) : Pure (cl n) "is_atom" [.str "N"] (.bl false) := by
  obtain ⟨n, rfl⟩ : ∃ m, n = m + 1 := ⟨n - 1, by omega⟩
  have tN : tl ("N" : Str) = [78] := by decide +kernel
  have pt := pt_str (s := "N") (TL.partition_none tl_dot (by rw [show TL.tl ("N" : Str) = [78] from tN]; decide)) (by decide +kernel)
  have lb : bltF .len [.str ("N" : Str)] = some (.d (.int 1)) := by
    rw [len_st (by decide +kernel), show ("N" : Str).length = 1 by decide +kernel]; rfl
  have ix := ix_0 tN (by decide +kernel)
  have lw : ("abcdefghijklmnopqrstuvwxyz" : Str) = small := rfl
  have n0 : cmpF .NotIn (.str ⟨#[78]⟩) (.str small) = some true := by
    rw [nin_sign, decide_eq_false (by rw [tl_low]; decide)]; rfl
  refine pure_by m_is_atom rfl (Nat.le_of_ble_eq_true rfl) ?_
  simp -implicitDefEqProofs [f_is_atom, pt, lb, ix, lw, n0]
theorem e_is_atom_n0 (n : Nat) (hn : 1 < n) : Pure (cl n) "is_atom" [.str "n.0"] (.bl false) := by
  obtain ⟨n, rfl⟩ : ∃ m, n = m + 2 := ⟨n - 2, by omega⟩
  have tN : tl ("n" : Str) = [110] := by decide +kernel
  have t0 : tl ("0" : Str) = [48] := by decide +kernel
  have es : ("n.0" : Str) = ("n" : Str) ++ ("." : Str) ++ ("0" : Str) := by decide +kernel
  have pt := pt_str (s := "n.0") (b := "n") (d := ".") (m := "0") (by rw [es]; exact TL.partition_app tl_dot (by rw [show TL.tl ("n" : Str) = [110] from tN]; decide)) (by decide +kernel)
  have lb : bltF .len [.str ("n" : Str)] = some (.d (.int 1)) := by
    rw [len_st (by decide +kernel), show ("n" : Str).length = 1 by decide +kernel]; rfl
  have l0 : bltF .len [.str ("0" : Str)] = some (.d (.int 1)) := by
    rw [len_st (by decide +kernel), show ("0" : Str).length = 1 by decide +kernel]; rfl
  have ix := ix_0 tN (by decide +kernel)
  have ix0 := ix_0 t0 (by decide +kernel)
  have lw : ("abcdefghijklmnopqrstuvwxyz" : Str) = small := rfl
  have n0 : cmpF .NotIn (.str ⟨#[110]⟩) (.str small) = some false := by
    rw [nin_sign, decide_eq_true (by rw [tl_low]; decide)]; rfl
  have n1 : cmpF .In (.str ⟨#[110]⟩) (.str small) = some true := by
    rw [in_sign, decide_eq_true (by rw [tl_low]; decide)]
  have it : (("n" : Str).cps.toList.map fun c => D.str ⟨#[c]⟩) = [.str ⟨#[110]⟩] := by rw [show ("n" : Str).cps.toList = [110] from tN]; rfl
  have e0 : (⟨#[48]⟩ : Str) = "0" := TL.ext_tl (by show tl _ = tl _; rw [t0])
  have ed : ¬ (("." : Str) = "") := by decide +kernel
  have num : Pure (cl (n + 1)) "is_atom_number" [.str "0"] (.bl false) := by
    refine pure_by m_is_atom_number rfl (Nat.le_of_ble_eq_true rfl) ?_
    simp -implicitDefEqProofs [f_is_atom_number, l0, ix0, e0]
  refine pure_by m_is_atom rfl (Nat.le_of_ble_eq_true rfl) ?_
  have al : bltF .all [.lst [.bl true]] = some (.d (.bl true)) := rfl
  have o1 : (1 : Nat) ≤ sizeLine := by decide
  simp -implicitDefEqProofs [f_is_atom, pt, lb, ix, lw, n0, it]
  refine run_map1 (ps := [()]) (f := fun _ => .str ⟨#[110]⟩) (h := fun _ => .bl true) (fun x hx => ?_) ?_
  · simp -implicitDefEqProofs [n1, lw]
  · simp -implicitDefEqProofs [al, o1, ed, call_p1 num]
end Tab

set_option maxHeartbeats 400000
namespace Tab
open PySem PySem.Spec PyProof.Rows L2 Fw
structure GoodL (l : Row) : Prop where
  ne : l ≠ []
  len : l.length ≤ 80
  mr : ∀ x ∈ l, 0 ≤ x ∧ x ≤ 999999
theorem e_is_line (l : Row) (h : GoodL l) (n : Nat) (hn : 0 < n) : Pure (cl n) "is_line" [rowI l] (.bl true) := by
  obtain ⟨n, rfl⟩ : ∃ m, n = m + 1 := ⟨n - 1, by omega⟩
  have it : (rowI l).isTy .tuple = some true := rfl
  have itm : items (rowI l) = some (l.map D.int) := rfl
  have l0 := List.length_pos_iff.mpr h.ne
  have l1 := h.len
  have c1 : (1 : Int) ≤ l.length := by omega
  have c2 : (l.length : Int) ≤ 80 := by omega
  refine pure_by m_is_line rfl (Nat.le_of_ble_eq_true rfl) ?_
  simp -implicitDefEqProofs [f_is_line, it, rowI_len, c1, c2, itm]
  refine run_find (xs := l) (e := D.int) (fun _ => false) (fun ρ => ∃ s, Fre s ∧ ρ = [.d (rowI l), s]) ⟨_, .no, rfl⟩ (fun x hx ρ ⟨s, hs, e⟩ => ?_) fun hno ρ ⟨s, hs, e⟩ => ?_
  · subst e
    obtain ⟨m1, m2⟩ := h.mr x hx
    refine ⟨_, bindT_fre hs rfl, ?_⟩
    simp -implicitDefEqProofs [m1, m2]
    exact Fre.d
  · subst e
    simp -implicitDefEqProofs
theorem line_e (n : Nat) (hn : 0 < n) : Pure (cl n) "is_line" [.tup []] (.bl false) := by
  obtain ⟨n, rfl⟩ : ∃ m, n = m + 1 := ⟨n - 1, by omega⟩
  refine pure_by m_is_line rfl (Nat.le_of_ble_eq_true rfl) ?_
  simp -implicitDefEqProofs [f_is_line]
theorem line_l (xs : List D) (n : Nat) (hn : 0 < n) : Pure (cl n) "is_line" [.lst xs] (.bl false) := by
  obtain ⟨n, rfl⟩ : ∃ m, n = m + 1 := ⟨n - 1, by omega⟩
  refine pure_by m_is_line rfl (Nat.le_of_ble_eq_true rfl) ?_
  simp -implicitDefEqProofs [f_is_line]
theorem line_1 (x : Int) (hx : ¬ (0 ≤ x ∧ x ≤ 999999)) (n : Nat) (hn : 0 < n) : Pure (cl n) "is_line" [.tup [.int x]] (.bl false) := by
  obtain ⟨n, rfl⟩ : ∃ m, n = m + 1 := ⟨n - 1, by omega⟩
  refine pure_by m_is_line rfl (Nat.le_of_ble_eq_true rfl) ?_
  simp -implicitDefEqProofs [f_is_line]
  refine run_for (fun i ρ => i = 0 ∧ ρ = [.d (.tup [.int x]), .no]) ⟨rfl, rfl⟩ (fun i hi ρ ⟨h, e⟩ => ?_) fun ρ ⟨h, e⟩ => absurd h (by simp)
  subst h e
  refine ⟨_, bindT_fre .no rfl, ?_⟩
  by_cases c : 0 ≤ x
  · have c2 : ¬ x ≤ 999999 := fun z => hx ⟨c, z⟩
    simp -implicitDefEqProofs [c, c2]
  · simp -implicitDefEqProofs [c]
theorem line_b (n : Nat) (hn : 0 < n) : Pure (cl n) "is_line" [.tup [.int 0, .bl true]] (.bl false) := by
  obtain ⟨n, rfl⟩ : ∃ m, n = m + 1 := ⟨n - 1, by omega⟩
  refine pure_by m_is_line rfl (Nat.le_of_ble_eq_true rfl) ?_
  simp -implicitDefEqProofs [f_is_line]
  refine run_for (fun i ρ => i ≤ 1 ∧ ∃ s, Fre s ∧ ρ = [.d (.tup [.int 0, .bl true]), s]) ⟨by omega, _, .no, rfl⟩ (fun i hi ρ ⟨h, s, hs, e⟩ => ?_) fun ρ ⟨h, e⟩ => absurd h (by simp)
  subst e
  refine ⟨_, bindT_fre hs rfl, ?_⟩
  match i, h with
  | 0, _ =>
    simp -implicitDefEqProofs
    exact Fre.d
  | 1, _ => simp -implicitDefEqProofs
theorem line_s (n : Nat) (hn : 0 < n) : Pure (cl n) "is_line" [.tup [.str "0"]] (.bl false) := by
  obtain ⟨n, rfl⟩ : ∃ m, n = m + 1 := ⟨n - 1, by omega⟩
  refine pure_by m_is_line rfl (Nat.le_of_ble_eq_true rfl) ?_
  simp -implicitDefEqProofs [f_is_line]
  refine run_for (fun i ρ => i = 0 ∧ ρ = [.d (.tup [.str "0"]), .no]) ⟨rfl, rfl⟩ (fun i hi ρ ⟨h, e⟩ => ?_) fun ρ ⟨h, e⟩ => absurd h (by simp)
  subst h e
  refine ⟨_, bindT_fre .no rfl, ?_⟩
  simp -implicitDefEqProofs
theorem line_long (l : Row) (h : 80 < l.length) (n : Nat) (hn : 0 < n) : Pure (cl n) "is_line" [rowI l] (.bl false) := by
  obtain ⟨n, rfl⟩ : ∃ m, n = m + 1 := ⟨n - 1, by omega⟩
  have it : (rowI l).isTy .tuple = some true := rfl
  have c1 : (1 : Int) ≤ l.length := by omega
  have c2 : ¬ ((l.length : Int) ≤ 80) := by omega
  refine pure_by m_is_line rfl (Nat.le_of_ble_eq_true rfl) ?_
  simp -implicitDefEqProofs [f_is_line, it, rowI_len, c1, c2]
/-! ### lists of lines -/
theorem unlike_l (xs : List D) (n : Nat) (hn : 0 < n) : Pure (cl n) "are_unlike_lines" [.lst xs] (.bl false) := by
  obtain ⟨n, rfl⟩ : ∃ m, n = m + 1 := ⟨n - 1, by omega⟩
  show Pure (cl (n + 1)) f_are_unlike_lines.name [.lst xs] _
  refine pure_by m_are_unlike_lines rfl (Nat.le_of_ble_eq_true rfl) ?_
  simp -implicitDefEqProofs [f_are_unlike_lines]
theorem unlike_f {α : Type} (zs : List α) (f : α → D) (c : α → Bool) (hl : zs.length ≤ 10000) (n : Nat) (h : ∀ x ∈ zs, Pure (cl n) "is_line" [f x] (.bl (c x))) (hc : zs.all c = false) : Pure (cl (n + 1)) "are_unlike_lines" [.tup (zs.map f)] (.bl false) := by
  show Pure (cl (n + 1)) f_are_unlike_lines.name [.tup (zs.map f)] _
  refine pure_by m_are_unlike_lines rfl (Nat.le_of_ble_eq_true rfl) ?_
  have sz : zs.length ≤ sizeLine := Nat.le_trans hl szl'
  simp -implicitDefEqProofs [f_are_unlike_lines]
  refine run_map1 (ps := zs) (f := f) (h := fun x => .bl (c x)) (fun x hx => ?_) ?_
  · have z := h x hx
    simp -implicitDefEqProofs [call_p1 z]
  · simp -implicitDefEqProofs [sz, all_bl, hc]
theorem unlike_d (xs : List D) (c : D → Bool) (hl : xs.length ≤ 10000) (n : Nat) (h : ∀ x ∈ xs, Pure (cl n) "is_line" [x] (.bl (c x))) (hc : xs.all c = false) : Pure (cl (n + 1)) "are_unlike_lines" [.tup xs] (.bl false) := by
  have := unlike_f xs (fun d => d) c hl n h hc
  rw [List.map_id'] at this
  exact this
theorem len_nd {m as : List Row} (h : (insAll m as).length = m.length + as.length) (hm : m.Nodup) : as.Nodup ∧ ∀ x ∈ as, x ∉ m := by
  induction as generalizing m with
  | nil => exact ⟨List.nodup_nil, fun x hx => by cases hx⟩
  | cons a as ih =>
    have h1 : (insAll (ins m a) as).length = m.length + (as.length + 1) := h
    have h2 := len_insAll (as := as) (m := ins m a)
    have h3 := len_ins (m := m) (a := a)
    have h4 : (ins m a).length = m.length + 1 := by omega
    have na : a ∉ m := fun z => by
      unfold ins at h4
      rw [if_pos z] at h4
      omega
    obtain ⟨i1, i2⟩ := ih (m := ins m a) (by omega) (nd_ins hm)
    refine ⟨List.nodup_cons.mpr ⟨fun z => i2 a z (mem_ins.mpr (.inr rfl)), i1⟩, fun x hx => ?_⟩
    rcases List.mem_cons.mp hx with rfl | hx
    · exact na
    · exact fun z => i2 x hx (mem_ins.mpr (.inl z))
theorem nd_len : ∀ {as m : List Row}, as.Nodup → (∀ x ∈ as, x ∉ m) → insAll m as = m ++ as
  | [], m, _, _ => by simp [insAll_nil]
  | a :: as, m, h, hm => by
    show insAll (ins m a) as = _
    have e : ins m a = m ++ [a] := if_neg (hm a List.mem_cons_self)
    rw [e, nd_len (List.nodup_cons.mp h).2 fun x hx z => by
      rcases List.mem_append.mp z with z | z
      · exact hm x (List.mem_cons_of_mem _ hx) z
      · rw [List.mem_singleton.mp z] at hx
        exact (List.nodup_cons.mp h).1 hx]
    simp
theorem unlike_g (ls : List Row) (hl : ls.length ≤ 10000) (hg : ∀ l ∈ ls, GoodL l) (n : Nat) (hn : 1 < n) : Pure (cl n) "are_unlike_lines" [linesD ls] (.bl (decide (ls.Nodup))) := by
  obtain ⟨n, rfl⟩ : ∃ m, n = m + 1 := ⟨n - 1, by omega⟩
  show Pure (cl (n + 1)) f_are_unlike_lines.name [linesD ls] _
  refine pure_by m_are_unlike_lines rfl (Nat.le_of_ble_eq_true rfl) ?_
  have sz : ls.length ≤ sizeLine := Nat.le_trans hl szl'
  unfold linesD
  simp -implicitDefEqProofs [f_are_unlike_lines]
  refine run_map1 (ps := ls) (f := rowI) (h := fun x => .bl ((fun _ => true) x)) (fun x hx => ?_) ?_
  · have z := e_is_line x (hg x hx) n (by omega)
    simp -implicitDefEqProofs [call_p1 z]
  · simp -implicitDefEqProofs [sz, all_bl (f := fun _ : Row => true)]
    refine run_fold (S := List Row) (e := rowI) (xs := ls) ins [] (fun m ρ => ∃ s, Fre s ∧ ρ = [.d (.tup (ls.map rowI)), .own (.dic (m.map rowI) (m.map fun _ => .bl true)), s]) ⟨_, .no, rfl⟩ (fun pre x post hx ρ ⟨s, hs, e⟩ => ?_) fun ρ ⟨s, hs, e⟩ => ?_
    · subst e
      have ml : (pre.foldl ins []).length < sizeLine := by
        have h1 := len_insAll (as := pre) (m := ([] : List Row))
        have h2 := congrArg List.length hx
        rw [List.length_append, List.length_cons] at h2
        have h3 : (pre.foldl ins []).length ≤ pre.length := by simpa [insAll] using h1
        exact Nat.lt_of_lt_of_le (by omega : _ < 10001) (by decide)
      refine ⟨_, bindT_fre hs rfl, ?_⟩
      simp -implicitDefEqProofs [set_put ml]
      exact Fre.d
    · subst e
      simp -implicitDefEqProofs
      rw [show ls.foldl ins [] = insAll [] ls from rfl]
      constructor
      · intro h
        have h' : (insAll [] ls).length = ls.length := by omega
        exact (len_nd (m := []) (by simpa using h') List.nodup_nil).1
      · intro h
        rw [nd_len h (fun x _ z => by cases z)]
        simp
end Tab

set_option maxHeartbeats 400000
namespace Tab
open PySem PySem.Spec PyProof.Rows L2 Fw
@[simp] theorem ex_aug {C : Cfg} {ρ : List Sl} {i : Nat} {op : Operator} {e : IE} : exS C (.aug i op e) ρ = (asD (evE C e ρ)).bind fun r => ((ρ[i]?).bind fun s => augF op s r.1).bind fun z => (bindT (.nm i) z r.2).map fun ρ2 => (.nx, ρ2) := by simp only [exS]
@[simp] theorem aug_add {i j : Int} : augF .Add (.d (.int i)) (.int j) = some (.int (i + j)) := rfl
/-- a pair that stands -/
structure GoodP (n : Nat) (p : Str × List Row) : Prop where
  at_ : Pure (cl n) "is_atom" [.str p.1] (.bl true)
  un : Pure (cl n) "are_unlike_lines" [linesD p.2] (.bl true)
  len : p.2.length ≤ 10000
/-- a pair that does not, after these names -/
inductive BadP (n : Nat) (names : List Str) : D → Prop
  | notup {d : D} : d.isTy .tuple = some false → BadP n names d
  | len {xs : List D} : xs.length ≠ 2 → BadP n names (.tup xs)
  | atom {a ls : D} : Pure (cl n) "is_atom" [a] (.bl false) → BadP n names (.tup [a, ls])
  | dup {s : Str} {ls : D} : Pure (cl n) "is_atom" [.str s] (.bl true) → s ∈ names → BadP n names (.tup [.str s, ls])
  | lines {s : Str} {ls : D} : Pure (cl n) "is_atom" [.str s] (.bl true) → s ∉ names → Pure (cl n) "are_unlike_lines" [ls] (.bl false) → BadP n names (.tup [.str s, ls])
theorem in_names {m : List Str} {s : Str} : cmpF .In (.str s) (.dic (m.map D.str) (m.map fun _ => .bl true)) = some (decide (s ∈ m)) := emb_str.in_
theorem put_name {m : List Str} {a : Str} (hl : m.length < sizeLine) : dPutF (m.map D.str) (m.map fun _ => D.bl true) (.str a) (.bl true) = some ((ins m a).map D.str, (ins m a).map fun _ => .bl true) := emb_str.put hl
def cnt (B : Bans) : Nat := (B.map fun p => p.2.length).sum
theorem lin_len {ls : List Row} : bltF .len [linesD ls] = some (.d (.int ls.length)) := by
  show some (iD _) = _
  rw [List.length_map]
  rfl
theorem ban_notup (d : D) (h : d.isTy .tuple = some false) (n : Nat) (hn : 0 < n) : Pure (cl n) "is_ban_list" [d] (.bl false) := by
  obtain ⟨n, rfl⟩ : ∃ m, n = m + 1 := ⟨n - 1, by omega⟩
  refine pure_by m_is_ban_list rfl (Nat.le_of_ble_eq_true rfl) ?_
  simp -implicitDefEqProofs [f_is_ban_list, h]
theorem ban_long (xs : List D) (h : 100 < xs.length) (n : Nat) (hn : 0 < n) : Pure (cl n) "is_ban_list" [.tup xs] (.bl false) := by
  obtain ⟨n, rfl⟩ : ∃ m, n = m + 1 := ⟨n - 1, by omega⟩
  have c1 : (100 : Int) < xs.length := by omega
  refine pure_by m_is_ban_list rfl (Nat.le_of_ble_eq_true rfl) ?_
  simp -implicitDefEqProofs [f_is_ban_list, c1]
/-- the loop's state -/
def BSt (t : D) (m : List Str) (k : Nat) (ρ : List Sl) : Prop := ∃ s3 s4 s5, Fre s3 ∧ Fre s4 ∧ Fre s5 ∧ ρ = [.d t, .own (.dic (m.map D.str) (m.map fun _ => .bl true)), .d (.int k), s3, s4, s5]
theorem bst {t : D} {m : List Str} {k : Nat} {s3 s4 s5 : Sl} (h3 : Fre s3) (h4 : Fre s4) (h5 : Fre s5) : BSt t m k [.d t, .own (.dic (m.map D.str) (m.map fun _ => .bl true)), .d (.int k), s3, s4, s5] := ⟨_, _, _, h3, h4, h5, rfl⟩
theorem cnt_take {B : Bans} {i : Nat} (h : i < B.length) : cnt (B.take (i + 1)) = cnt (B.take i) + B[i].2.length := by
  unfold cnt
  rw [List.take_succ_eq_append_getElem h, List.map_append, List.sum_append]
  simp
theorem ins_take {B : Bans} (nd : (B.map (·.1)).Nodup) {i : Nat} (h : i < B.length) : B[i].1 ∉ (B.take i).map (·.1) ∧ ins ((B.take i).map (·.1)) B[i].1 = (B.take (i + 1)).map (·.1) := by
  have e : (B.take (i + 1)).map (·.1) = (B.take i).map (·.1) ++ [B[i].1] := by
    rw [List.take_succ_eq_append_getElem h, List.map_append]; rfl
  have nd2 : ((B.take (i + 1)).map (·.1)).Nodup := by
    rw [List.map_take]
    exact nd.sublist (List.take_sublist _ _)
  rw [e] at nd2
  have ni : B[i].1 ∉ (B.take i).map (·.1) := fun z => (List.nodup_append.mp nd2).2.2 _ z _ (List.mem_singleton.mpr rfl) rfl
  exact ⟨ni, by rw [e]; exact if_neg ni⟩
theorem e_ban_good (B : Bans) (n : Nat) (hg : ∀ p ∈ B, GoodP n p) (nd : (B.map (·.1)).Nodup) (hl : B.length ≤ 100) : Pure (cl (n + 1)) "is_ban_list" [bansD B] (.bl (decide (cnt B ≤ 100))) := by
  have c1 : ¬ ((100 : Int) < B.length) := by omega
  have hB : bansD B = .tup (B.map banD) := rfl
  refine pure_by m_is_ban_list rfl (Nat.le_of_ble_eq_true rfl) ?_
  rw [hB]
  simp -implicitDefEqProofs [f_is_ban_list, c1]
  refine run_for (fun i ρ => BSt (.tup (B.map banD)) ((B.take i).map (·.1)) (cnt (B.take i)) ρ) (bst (m := []) (k := 0) .no .no .no) (fun i hi ρ q => ?_) fun ρ q => ?_
  · have hi' : i < B.length := by simpa using hi
    rw [get_of (x := banD B[i]) (by rw [List.getElem?_map, List.getElem?_eq_getElem hi']; rfl)]
    obtain ⟨g1, g2, g3⟩ := hg B[i] (List.getElem_mem hi')
    obtain ⟨i1, i2⟩ := ins_take nd hi'
    have i3 := cnt_take hi'
    have ml : ((B.take i).map (·.1)).length < sizeLine := by
      rw [List.length_map, List.length_take]
      exact Nat.lt_of_le_of_lt (by omega : _ ≤ 100) (by decide)
    rw [i3, ← i2]
    generalize (B.take i).map (·.1) = m at *
    generalize cnt (B.take i) = k at *
    generalize B[i] = p at *
    obtain ⟨s3, s4, s5, h3, h4, h5, rfl⟩ := q
    have pn := put_name (a := p.1) ml
    have nn := in_names (m := m) (s := p.1)
    rw [decide_eq_false i1] at nn
    refine ⟨_, bindT_fre h3 rfl, ?_⟩
    have bp : banD p = .tup [.str p.1, linesD p.2] := rfl
    rw [bp]
    simp -implicitDefEqProofs [h4.bo, h5.bo, call_p1 g1, call_p1 g2, nn, pn, lin_len]
    exact ⟨.d (banD p), .d (.str p.1), .d (linesD p.2), Fre.d, Fre.d, Fre.d, by simp [bp]⟩
  · rw [List.length_map, List.take_length] at q
    obtain ⟨s3, s4, s5, h3, h4, h5, rfl⟩ := q
    simp -implicitDefEqProofs
    omega
/-- good pairs, then one that does not stand -/
theorem e_ban_bad (B : Bans) (x : D) (post : List D) (n : Nat) (hg : ∀ p ∈ B, GoodP n p) (nd : (B.map (·.1)).Nodup) (hl : (B.map banD ++ x :: post).length ≤ 100) (hx : BadP n (B.map (·.1)) x) : Pure (cl (n + 1)) "is_ban_list" [.tup (B.map banD ++ x :: post)] (.bl false) := by
  generalize hxs : B.map banD ++ x :: post = xs at hl
  have lB : B.length < xs.length := by rw [← hxs]; simp
  have c1 : ¬ ((100 : Int) < xs.length) := by omega
  refine pure_by m_is_ban_list rfl (Nat.le_of_ble_eq_true rfl) ?_
  simp -implicitDefEqProofs [f_is_ban_list, c1]
  refine run_for (fun i ρ => i ≤ B.length ∧ BSt (.tup xs) ((B.take i).map (·.1)) (cnt (B.take i)) ρ) ⟨Nat.zero_le _, bst (m := []) (k := 0) .no .no .no⟩ (fun i hi ρ ⟨hle, q⟩ => ?_) fun ρ ⟨h, q⟩ => absurd h (by omega)
  by_cases hi' : i < B.length
  · have ex : xs[i]? = some (banD B[i]) := by
      rw [← hxs, List.getElem?_append_left (by simpa using hi'), List.getElem?_map, List.getElem?_eq_getElem hi']
      rfl
    rw [get_of ex]
    obtain ⟨g1, g2, g3⟩ := hg B[i] (List.getElem_mem hi')
    obtain ⟨i1, i2⟩ := ins_take nd hi'
    have i3 := cnt_take hi'
    have ml : ((B.take i).map (·.1)).length < sizeLine := by
      rw [List.length_map, List.length_take]
      exact Nat.lt_of_le_of_lt (by omega : _ ≤ 100) (by decide)
    rw [i3, ← i2]
    generalize (B.take i).map (·.1) = m at *
    generalize cnt (B.take i) = k at *
    generalize B[i] = p at *
    obtain ⟨s3, s4, s5, h3, h4, h5, rfl⟩ := q
    have pn := put_name (a := p.1) ml
    have nn := in_names (m := m) (s := p.1)
    rw [decide_eq_false i1] at nn
    refine ⟨_, bindT_fre h3 rfl, ?_⟩
    have bp : banD p = .tup [.str p.1, linesD p.2] := rfl
    rw [bp]
    simp -implicitDefEqProofs [h4.bo, h5.bo, call_p1 g1, call_p1 g2, nn, pn, lin_len]
    exact ⟨hi', .d (banD p), .d (.str p.1), .d (linesD p.2), Fre.d, Fre.d, Fre.d, by simp [bp]⟩
  · have ei : i = B.length := by omega
    subst ei
    have ex : xs[B.length]? = some x := by
      rw [← hxs, List.getElem?_append_right (by simp)]
      simp
    rw [get_of ex]
    rw [List.take_length] at q
    obtain ⟨s3, s4, s5, h3, h4, h5, rfl⟩ := q
    refine ⟨_, bindT_fre h3 rfl, ?_⟩
    cases hx with
    | notup h => simp -implicitDefEqProofs [h]
    | @len ys h =>
      have h' : ¬ ((ys.length : Int) = 2) := by omega
      simp -implicitDefEqProofs [h']
    | atom h => simp -implicitDefEqProofs [h4.bo, h5.bo, call_p1 h]
    | @dup s ls h hm =>
      have nn := in_names (m := B.map (·.1)) (s := s)
      rw [decide_eq_true hm] at nn
      generalize B.map (·.1) = m at nn
      simp -implicitDefEqProofs [h4.bo, h5.bo, call_p1 h, nn]
    | @lines s ls h hm hu =>
      have nn := in_names (m := B.map (·.1)) (s := s)
      rw [decide_eq_false hm] at nn
      generalize B.map (·.1) = m at nn
      simp -implicitDefEqProofs [h4.bo, h5.bo, call_p1 h, call_p1 hu, nn]
end Tab

set_option maxHeartbeats 1000000
namespace Tab
open PySem PySem.Spec PyProof.Rows L2 Fw
theorem pds_rows : ∀ ls : List Row, PyData.canLayAll0 (D.pds (ls.map rowI)) = true ∧ PyData.depthAll (D.pds (ls.map rowI)) ≤ 1
  | [] => by simp [D.pds, PyData.canLayAll0, PyData.depthAll]
  | l :: ls => by
    obtain ⟨h1, h2⟩ := pds_rows ls
    rw [List.map_cons]
    simp only [D.pds, PyData.canLayAll0, PyData.depthAll, pd_row, PyData.canLay0, PyData.depth, (lay_ints l).1, (lay_ints l).2, h1, Bool.and_self, true_and]
    omega
theorem in_lrows (l : Row) (ls : List Row) : cmpF .NotIn (rowI l) (.lst (ls.map rowI)) = some (!decide (l ∈ ls)) := by
  obtain ⟨h1, h2⟩ := pds_rows ls
  have s2 : SeqAt.shaped (D.lst (ls.map rowI)).pd = true := by
    unfold SeqAt.shaped
    simp only [D.pd, PyData.canLay0, PyData.depth, h1, Bool.true_and]
    exact decide_eq_true (by omega)
  have any : (ls.map rowI).any (fun z => PyData.eqv z.pd (rowI l).pd) = decide (l ∈ ls) := by
    induction ls with
    | nil => rfl
    | cons a ls ih =>
      obtain ⟨g1, g2⟩ := pds_rows ls
      rw [List.map_cons, List.any_cons, ih g1 g2 (by
        unfold SeqAt.shaped
        simp only [D.pd, PyData.canLay0, PyData.depth, g1, Bool.true_and]
        exact decide_eq_true (by omega)), pd_row, pd_row]
      have e : PyData.eqv (.tuple (rpd a)) (.tuple (rpd l)) = decide (a = l) := by simp [PyData.eqv, eqv_ints]
      rw [e]
      by_cases h : a = l
      · subst h; simp
      · have h' : ¬ l = a := fun z => h z.symm
        simp [h, h']
  have f1 : (rowI l).flat = false := rfl
  show (inF (rowI l) (.lst (ls.map rowI))).map (!·) = _
  have e : inF (rowI l) (.lst (ls.map rowI)) = some (decide (l ∈ ls)) := by
    show (if (rowI l).flat = true ∧ (ls.map rowI).all D.flat = true then some (inV (rowI l).v0 ((ls.map rowI).map D.v0)) else
      if SeqAt.shaped (rowI l).pd = true ∧ SeqAt.shaped (D.lst (ls.map rowI)).pd = true then some ((ls.map rowI).any fun z => PyData.eqv z.pd (rowI l).pd) else none) = _
    rw [if_neg (by rw [f1]; simp), if_pos ⟨shp_row l, s2⟩, any]
  rw [e]
  rfl
def strLe (a b : Str) : Bool := PySem.W.dataLe false D.pd (.str a) (.str b)
theorem srt_strs {ks : List Str} (h : ∀ s ∈ ks, PyData.strOk s = true) (hl : ks.length ≤ 10000) : srtF (ks.map .str) = some (.new (.lst ((ks.mergeSort strLe).map .str))) := by
  unfold srtF
  rw [if_pos]
  · unfold sortD
    rw [← List.map_mergeSort (r := strLe) (f := D.str) fun a _ b _ => rfl]
  · unfold sortOk
    simp only [Bool.and_eq_true, Bool.or_eq_true, List.all_eq_true, decide_eq_true_eq, List.length_map, List.mem_map]
    refine ⟨⟨?_, .inr ?_⟩, Nat.le_trans hl szl'⟩
    · rintro d ⟨x, hx, rfl⟩
      refine ⟨⟨?_, ?_⟩, ?_⟩
      · simp [D.pd, PyData.canLay0, h x hx]
      · simp [D.pd, PyData.depth]
      · rintro e ⟨y, _, rfl⟩
        simp [D.pd, PySem.W.alike]
    · rintro d ⟨x, _, rfl⟩
      simp [D.pd, PdOth]
theorem Atm.sok {s : Str} (h : Atm s) : PyData.strOk s = true := by
  obtain ⟨b, hb, h⟩ := h.ex
  obtain ⟨c, r, e1, e2, e3, e4⟩ := hb.ex
  have all : ∀ x ∈ tl s, x < 0x110000 := fun x hx => by
    have hb : ∀ x ∈ b, x < 0x110000 := fun x hx => by
      rw [e1] at hx
      rcases List.mem_cons.mp hx with rfl | hx
      · unfold isLow at e2; omega
      · rcases e3 x hx with h | h
        · unfold isLow at h; omega
        · unfold isDig at h; omega
    rcases h with h | ⟨i, _, _, h⟩
    · rw [h] at hx; exact hb x hx
    · rw [h] at hx
      rcases List.mem_append.mp hx with hx | hx
      · exact hb x hx
      · rcases List.mem_cons.mp hx with rfl | hx
        · decide
        · have := TL.numL_digits i x hx
          omega
  show s.cps.all (· < 0x110000) = true
  rw [Array.all_eq_true]
  intro j hj
  exact decide_eq_true (all _ (by simp))
theorem is_atom_int (i : Int) (n : Nat) (hn : 0 < n) : Pure (cl n) "is_atom" [.int i] (.bl false) := by
  obtain ⟨n, rfl⟩ : ∃ m, n = m + 1 := ⟨n - 1, by omega⟩
  refine pure_by m_is_atom rfl (Nat.le_of_ble_eq_true rfl) ?_
  simp -implicitDefEqProofs [f_is_atom]
theorem is_atom_tup (xs : List D) (n : Nat) (hn : 0 < n) : Pure (cl n) "is_atom" [.tup xs] (.bl false) := by
  obtain ⟨n, rfl⟩ : ∃ m, n = m + 1 := ⟨n - 1, by omega⟩
  refine pure_by m_is_atom rfl (Nat.le_of_ble_eq_true rfl) ?_
  simp -implicitDefEqProofs [f_is_atom]
theorem unlike_bad (ls : List Row) (hl : ls.length ≤ 1000) (hg : ∀ l ∈ ls, GoodL l) (x : D) (n : Nat) (hn : 0 < n) (hx : Pure (cl n) "is_line" [x] (.bl false)) : Pure (cl (n + 1)) "are_unlike_lines" [.tup (ls.map rowI ++ [x])] (.bl false) := by
  have z := unlike_f (ls.map some ++ [none]) (fun o : Option Row => match o with | some l => rowI l | none => x) (fun o => o.isSome) (by simp; omega) n (fun o ho => by
    rcases List.mem_append.mp ho with ho | ho
    · obtain ⟨l, hl, rfl⟩ := List.mem_map.mp ho
      exact e_is_line l (hg l hl) n hn
    · rw [List.mem_singleton.mp ho]
      exact hx) (by simp)
  rw [List.map_append, List.map_map] at z
  exact z
theorem goodP (M : Nat) (hM : 2 < M) (s : Str) (hs : Atm s) (ls : List Row) (hl : ls.length ≤ 1000) (hg : ∀ l ∈ ls, GoodL l) (nd : ls.Nodup) : GoodP M (s, ls) := by
  refine ⟨e_is_atom s hs M (by omega), ?_, Nat.le_trans hl (by decide)⟩
  have := unlike_g ls (Nat.le_trans hl (by decide)) hg M (by omega)
  rw [decide_eq_true nd] at this
  exact this
theorem ban_good' (M : Nat) (hM : 3 < M) (B : Bans) (hg : ∀ p ∈ B, Atm p.1 ∧ p.2.length ≤ 1000 ∧ (∀ l ∈ p.2, GoodL l) ∧ p.2.Nodup) (nd : (B.map (·.1)).Nodup) (hl : B.length ≤ 100) : Pure (cl M) "is_ban_list" [bansD B] (.bl (decide (cnt B ≤ 100))) := by
  obtain ⟨M, rfl⟩ : ∃ m, M = m + 1 := ⟨M - 1, by omega⟩
  exact e_ban_good B M (fun p hp => by
    obtain ⟨h1, h2, h3, h4⟩ := hg p hp
    exact goodP M (by omega) p.1 h1 p.2 h2 h3 h4) nd hl
theorem ban_bad' (M : Nat) (hM : 3 < M) (B : Bans) (x : D) (post : List D) (hg : ∀ p ∈ B, Atm p.1 ∧ p.2.length ≤ 1000 ∧ (∀ l ∈ p.2, GoodL l) ∧ p.2.Nodup) (nd : (B.map (·.1)).Nodup) (hl : (B.map banD ++ x :: post).length ≤ 100) (hx : ∀ n, 2 < n → BadP n (B.map (·.1)) x) : Pure (cl M) "is_ban_list" [.tup (B.map banD ++ x :: post)] (.bl false) := by
  obtain ⟨M, rfl⟩ : ∃ m, M = m + 1 := ⟨M - 1, by omega⟩
  exact e_ban_bad B x post M (fun p hp => by
    obtain ⟨h1, h2, h3, h4⟩ := hg p hp
    exact goodP M (by omega) p.1 h1 p.2 h2 h3 h4) nd hl (hx M (by omega))
end Tab

set_option maxHeartbeats 400000
namespace Tab
open PySem PySem.Spec PyProof.Rows L2 Fw
def Sm (A A' : List Row) : Prop := ∀ x, x ∈ A ↔ x ∈ A'
theorem mem_over {F S : List Row} {x : Row} : x ∈ overB F S ↔ ∃ l ∈ F, ∃ c, 1 ≤ c ∧ c < l.length ∧ l.drop c ∉ S ∧ x = l.take c := by
  unfold overB
  rw [mem_insAll]
  simp only [List.not_mem_nil, false_or, List.mem_flatMap]
  constructor
  · rintro ⟨l, hl, c, hc, hx⟩
    split at hx
    · cases hx
    · rename_i h
      have := mem_cuts.mp hc
      exact ⟨l, hl, c, this.1, this.2, h, List.mem_singleton.mp hx⟩
  · rintro ⟨l, hl, c, c1, c2, h, rfl⟩
    exact ⟨l, hl, c, mem_cuts.mpr ⟨c1, c2⟩, by rw [if_neg h]; simp⟩
theorem mem_under {F S : List Row} {x : Row} : x ∈ underB F S ↔ ∃ l ∈ S, ∃ c, 1 ≤ c ∧ c < l.length ∧ l.take c ∉ F ∧ x = l.drop c := by
  unfold underB
  rw [mem_insAll]
  simp only [List.not_mem_nil, false_or, List.mem_flatMap]
  constructor
  · rintro ⟨l, hl, c, hc, hx⟩
    split at hx
    · cases hx
    · rename_i h
      have := mem_cuts.mp hc
      exact ⟨l, hl, c, this.1, this.2, h, List.mem_singleton.mp hx⟩
  · rintro ⟨l, hl, c, c1, c2, h, rfl⟩
    exact ⟨l, hl, c, mem_cuts.mpr ⟨c1, c2⟩, by rw [if_neg h]; simp⟩
theorem allowed_iff {l : Row} {F S : List Row} : allowed l F S = true ↔ ∃ c, 1 ≤ c ∧ c < l.length ∧ l.take c ∉ F ∧ l.drop c ∉ S := by
  unfold allowed
  rw [List.any_eq_true]
  constructor
  · rintro ⟨c, hc, h⟩
    rw [Bool.and_eq_true] at h
    have := mem_cuts.mp hc
    exact ⟨c, this.1, this.2, by simpa using h.1, by simpa using h.2⟩
  · rintro ⟨c, c1, c2, h1, h2⟩
    exact ⟨c, mem_cuts.mpr ⟨c1, c2⟩, by simp [h1, h2]⟩
theorem mem_frames {ls : List Row} {F S : List Row} {u v : Row} : (u, v) ∈ framesB ls F S ↔ ∃ l ∈ ls, ∃ s e, s + 2 ≤ e ∧ e ≤ l.length ∧ allowed ((l.drop s).take (e - s)) F S = true ∧ u = l.take s ∧ v = l.drop e := by
  rw [framesB_eq, mem_insAll]
  unfold g1 g2 g3
  simp only [List.not_mem_nil, false_or, List.mem_flatMap, List.mem_range, List.mem_range'_1]
  constructor
  · rintro ⟨l, hl, s, hs, e, he, h⟩
    split at h
    · rename_i ha
      have := List.mem_singleton.mp h
      injection this with h1 h2
      exact ⟨l, hl, s, e, by omega, by omega, ha, h1, h2⟩
    · cases h
  · rintro ⟨l, hl, s, e, h1, h2, ha, rfl, rfl⟩
    exact ⟨l, hl, s, by omega, e, by omega, by rw [if_pos ha]; simp⟩
theorem mem_pair {B : Bans} {F S : List Row} {x : Row} : x ∈ pairB B F S ↔ ∃ p ∈ B, ∃ l ∈ p.2, ∃ s e, s < e ∧ e ≤ l.length ∧ (l.take s, l.drop e) ∉ framesB p.2 F S ∧ x = (l.drop s).take (e - s) := by
  rw [pairB_eq, mem_insAll]
  unfold q1 q2 q3 q4
  simp only [List.not_mem_nil, false_or, List.mem_flatMap, List.mem_range, List.mem_range'_1]
  constructor
  · rintro ⟨p, hp, l, hl, s, hs, e, he, h⟩
    split at h
    · cases h
    · rename_i hf
      exact ⟨p, hp, l, hl, s, e, by omega, by omega, hf, List.mem_singleton.mp h⟩
  · rintro ⟨p, hp, l, hl, s, e, h1, h2, hf, rfl⟩
    exact ⟨p, hp, l, hl, s, by omega, e, by omega, by rw [if_neg hf]; simp⟩
end Tab

set_option maxHeartbeats 400000
namespace Tab
open PySem PySem.Spec PyProof.Rows L2 Fw
structure PsOk (l : Row) (Ss : List (List Row)) (e : Nat) (ps : List Row) : Prop where
  len : ps.length = Ss.length
  fl : ps.flatten = l.take e
  le : e ≤ l.length
  one : ∀ i (h : i < ps.length) (h' : i < Ss.length), ps[i] ≠ [] ∧ ps[i] ∉ Ss[i]
theorem PsOk.step {l : Row} {Ss : List (List Row)} {S : List Row} {s e : Nat} {ps : List Row} (h : PsOk l Ss s ps) (h1 : s < e) (h2 : e ≤ l.length) (h3 : piece l s e ∉ S) : PsOk l (Ss ++ [S]) e (ps ++ [piece l s e]) where
  len := by simp [h.len]
  fl := by
    rw [List.flatten_append, h.fl]
    simp only [List.flatten_cons, List.flatten_nil, List.append_nil]
    unfold piece
    have : l.take e = l.take (s + (e - s)) := by rw [show s + (e - s) = e by omega]
    rw [this, List.take_add]
  le := h2
  one := fun i hi hi' => by
    rw [List.length_append, List.length_singleton] at hi hi'
    by_cases c : i < ps.length
    · rw [List.getElem_append_left c, List.getElem_append_left (by rw [← h.len]; exact c)]
      exact h.one i c _
    · have c1 : i = ps.length := by omega
      subst c1
      have e1 : (ps ++ [piece l s e])[ps.length]'(by simp) = piece l s e := by simp
      have e2 : (Ss ++ [S])[ps.length]'(by simp [h.len]) = S := by simp [h.len]
      rw [e1, e2]
      refine ⟨fun z => ?_, h3⟩
      have := congrArg List.length z
      unfold piece at this
      rw [List.length_take, List.length_drop] at this
      simp at this
      omega
theorem ps_E {l : Row} {Ss : List (List Row)} {S : List Row} {s : Nat} {ps : List Row} (h : PsOk l Ss s ps) : ∀ {es : List Nat} {m : Rch}, (∀ e ∈ es, s < e ∧ e ≤ l.length) → (∀ p ∈ m, PsOk l (Ss ++ [S]) p.1 p.2) → ∀ p ∈ es.foldl (stepE l S s ps) m, PsOk l (Ss ++ [S]) p.1 p.2
  | [], m, _, hm => hm
  | e :: es, m, he, hm => by
    rw [List.foldl_cons]
    refine ps_E h (fun x hx => he x (List.mem_cons_of_mem _ hx)) fun p hp => ?_
    unfold stepE at hp
    split at hp
    · exact hm p hp
    · rename_i hn
      rw [not_or] at hn
      rcases List.mem_append.mp hp with hp | hp
      · exact hm p hp
      · rw [List.mem_singleton.mp hp]
        have := he e List.mem_cons_self
        exact h.step this.1 this.2 hn.1
theorem ps_R {l : Row} {Ss : List (List Row)} {S : List Row} : ∀ {r m : Rch}, (∀ p ∈ r, PsOk l Ss p.1 p.2) → (∀ p ∈ m, PsOk l (Ss ++ [S]) p.1 p.2) → ∀ p ∈ r.foldl (stepS l S) m, PsOk l (Ss ++ [S]) p.1 p.2
  | [], m, _, hm => hm
  | q :: r, m, hr, hm => by
    rw [List.foldl_cons]
    refine ps_R (fun p hp => hr p (List.mem_cons_of_mem _ hp)) (ps_E (hr q List.mem_cons_self) (fun e he => ?_) hm)
    rw [List.mem_range'_1] at he
    omega
theorem ps_all {l : Row} : ∀ {Ts Ss : List (List Row)} {r : Rch}, (∀ p ∈ r, PsOk l Ss p.1 p.2) → ∀ p ∈ Ts.foldl (stepR l) r, PsOk l (Ss ++ Ts) p.1 p.2
  | [], Ss, r, h => by simpa using h
  | T :: Ts, Ss, r, h => by
    rw [List.foldl_cons]
    have := ps_all (Ts := Ts) (Ss := Ss ++ [T]) (r := stepR l r T) (ps_R h fun p hp => by cases hp)
    simpa using this
theorem pieces_ok {l : Row} {Ss : List (List Row)} {ps : List Row} (h : pieces l Ss = some ps) : ps.length = Ss.length ∧ ps.flatten = l ∧ ∀ i (h : i < ps.length) (h' : i < Ss.length), ps[i] ≠ [] ∧ ps[i] ∉ Ss[i] := by
  have h0 : ∀ p ∈ ([(0, [])] : Rch), PsOk l [] p.1 p.2 := fun p hp => by
    rw [List.mem_singleton.mp hp]
    exact ⟨rfl, by simp, Nat.zero_le _, fun i hi => by simp at hi⟩
  have := ps_all (Ts := Ss) (Ss := []) h0 _ (look_mem' h)
  simp only [List.nil_append] at this
  exact ⟨this.len, by rw [this.fl, List.take_length], this.one⟩
where
  look_mem' : ∀ {m : Rch} {e : Nat} {b : List Row}, lookA e m = some b → (e, b) ∈ m
    | [], e, b, h => by cases h
    | p :: m, e, b, h => by
      unfold lookA at h
      split at h
      · rename_i q
        cases h
        rw [← q]
        exact List.mem_cons_self
      · exact List.mem_cons_of_mem _ (look_mem' h)
end Tab

set_option maxHeartbeats 400000
namespace Tab
open PySem PySem.Spec PyProof.Rows L2 Fw
theorem mem_stepE {l : Row} {S : List Row} {s : Nat} {ps : List Row} : ∀ {es : List Nat} {m : Rch} {e : Nat}, e ∈ (es.foldl (stepE l S s ps) m).map (·.1) ↔ e ∈ m.map (·.1) ∨ (e ∈ es ∧ piece l s e ∉ S)
  | [], m, e => by simp
  | a :: es, m, e => by
    rw [List.foldl_cons, mem_stepE]
    unfold stepE
    split
    · rename_i h
      constructor
      · rintro (h1 | ⟨h1, h2⟩)
        · exact .inl h1
        · exact .inr ⟨List.mem_cons_of_mem _ h1, h2⟩
      · rintro (h1 | ⟨h1, h2⟩)
        · exact .inl h1
        · rcases List.mem_cons.mp h1 with rfl | h1
          · rcases h with h | h
            · exact absurd h h2
            · exact .inl h
          · exact .inr ⟨h1, h2⟩
    · rename_i h
      rw [not_or] at h
      rw [List.map_append, List.mem_append]
      constructor
      · rintro ((h1 | h1) | ⟨h1, h2⟩)
        · exact .inl h1
        · have : e = a := by simpa using h1
          rw [this]
          exact .inr ⟨List.mem_cons_self, h.1⟩
        · exact .inr ⟨List.mem_cons_of_mem _ h1, h2⟩
      · rintro (h1 | ⟨h1, h2⟩)
        · exact .inl (.inl h1)
        · rcases List.mem_cons.mp h1 with rfl | h1
          · exact .inl (.inr (by simp))
          · exact .inr ⟨h1, h2⟩
theorem mem_stepS {l : Row} {S : List Row} {m : Rch} {p : Nat × List Row} {e : Nat} : e ∈ (stepS l S m p).map (·.1) ↔ e ∈ m.map (·.1) ∨ (p.1 < e ∧ e ≤ l.length ∧ piece l p.1 e ∉ S) := by
  unfold stepS
  rw [mem_stepE]
  simp only [List.mem_range'_1]
  constructor
  · rintro (h | ⟨h1, h2⟩)
    · exact .inl h
    · exact .inr ⟨by omega, by omega, h2⟩
  · rintro (h | ⟨h1, h2, h3⟩)
    · exact .inl h
    · exact .inr ⟨by omega, h3⟩
theorem mem_stepR0 {l : Row} {S : List Row} : ∀ {r : Rch} {m : Rch} {e : Nat}, e ∈ (r.foldl (stepS l S) m).map (·.1) ↔ e ∈ m.map (·.1) ∨ ∃ s ∈ r.map (·.1), s < e ∧ e ≤ l.length ∧ piece l s e ∉ S
  | [], m, e => by simp
  | p :: r, m, e => by
    rw [List.foldl_cons, mem_stepR0, mem_stepS]
    constructor
    · rintro ((h | h) | ⟨s, hs, h⟩)
      · exact .inl h
      · exact .inr ⟨p.1, by simp, h⟩
      · exact .inr ⟨s, by rw [List.map_cons]; exact List.mem_cons_of_mem _ hs, h⟩
    · rintro (h | ⟨s, hs, h⟩)
      · exact .inl (.inl h)
      · rw [List.map_cons] at hs
        rcases List.mem_cons.mp hs with rfl | hs
        · exact .inl (.inr h)
        · exact .inr ⟨s, hs, h⟩
theorem mem_stepR {l : Row} {S : List Row} {r : Rch} {e : Nat} : e ∈ (stepR l r S).map (·.1) ↔ ∃ s ∈ r.map (·.1), s < e ∧ e ≤ l.length ∧ piece l s e ∉ S := by
  unfold stepR
  rw [mem_stepR0]
  simp
theorem look_key {β : Type} {e : Nat} : ∀ {m : List (Nat × β)}, lookA e m = none ↔ e ∉ m.map (·.1)
  | [] => by simp [lookA]
  | p :: m => by
    unfold lookA
    by_cases h : p.1 = e
    · simp [h]
    · rw [if_neg h, look_key]
      have h' : ¬ e = p.1 := fun z => h z.symm
      simp [h']
theorem keyLe_total : PySem.W.TotalLe keyLe := by
  have e : keyLe = PySem.W.dataLe false (fun l : Row => (keyI l).pd) := by
    funext a b
    exact (le_keys a b).symm
  rw [e]
  exact PySem.W.sortLe_total _ _ _

/-! ### a row in pieces -/
def Rc (l : Row) : List (List Row) → Nat → Nat → Prop
  | [], s, e => s = e
  | S :: Ss, s, e => ∃ t, s < t ∧ t ≤ l.length ∧ piece l s t ∉ S ∧ Rc l Ss t e
theorem mem_foldR {l : Row} {e : Nat} : ∀ {Ss : List (List Row)} {r : Rch}, e ∈ (Ss.foldl (stepR l) r).map (·.1) ↔ ∃ s ∈ r.map (·.1), Rc l Ss s e
  | [], r => by
    simp only [List.foldl_nil, Rc]
    exact ⟨fun h => ⟨e, h, rfl⟩, fun ⟨s, h, h2⟩ => h2 ▸ h⟩
  | S :: Ss, r => by
    rw [List.foldl_cons, mem_foldR]
    constructor
    · rintro ⟨t, ht, h⟩
      obtain ⟨s, hs, h1, h2, h3⟩ := mem_stepR.mp ht
      exact ⟨s, hs, t, h1, h2, h3, h⟩
    · rintro ⟨s, hs, t, h1, h2, h3, h⟩
      exact ⟨t, mem_stepR.mpr ⟨s, hs, h1, h2, h3⟩, h⟩
/-- the row is made up of pieces that these do not ban -/
def Spl : Row → List (List Row) → Prop
  | l, [] => l = []
  | l, S :: Ss => ∃ a b, l = a ++ b ∧ a ≠ [] ∧ a ∉ S ∧ Spl b Ss
theorem Rc_spl {l : Row} : ∀ {Ss : List (List Row)} {s : Nat}, s ≤ l.length → (Rc l Ss s l.length ↔ Spl (l.drop s) Ss)
  | [], s, hs => by
    simp only [Rc, Spl, List.drop_eq_nil_iff]
    omega
  | S :: Ss, s, hs => by
    simp only [Rc, Spl]
    constructor
    · rintro ⟨t, h1, h2, h3, h4⟩
      refine ⟨piece l s t, l.drop t, ?_, ?_, h3, (Rc_spl h2).mp h4⟩
      · unfold piece
        conv => lhs; rw [← List.take_append_drop (t - s) (l.drop s)]
        rw [List.drop_drop]
        congr 2
        omega
      · intro e
        have := congrArg List.length e
        unfold piece at this
        simp at this
        omega
    · rintro ⟨a, b, h1, h2, h3, h4⟩
      have ha : 1 ≤ a.length := by cases a <;> simp_all
      have hl : l.length - s = a.length + b.length := by
        have := congrArg List.length h1
        simpa using this
      have e1 : piece l s (s + a.length) = a := by
        unfold piece
        rw [h1]
        simp
      have e2 : l.drop (s + a.length) = b := by
        rw [← List.drop_drop, h1]
        simp
      exact ⟨s + a.length, by omega, by omega, by rw [e1]; exact h3, (Rc_spl (by omega)).mpr (by rw [e2]; exact h4)⟩
theorem pieces_iff {l : Row} {Ss : List (List Row)} : pieces l Ss = none ↔ ¬ Spl l Ss := by
  unfold pieces reach
  rw [look_key, mem_foldR]
  have h := Rc_spl (l := l) (Ss := Ss) (s := 0) (Nat.zero_le _)
  rw [List.drop_zero] at h
  rw [← h]
  simp
/-! ### the told order is one -/
theorem srtR_eq {K L : List Row} (hK : K.Nodup) (hL : L.Nodup) (hm : ∀ x, x ∈ K ↔ x ∈ L) : K.mergeSort keyLe = L.mergeSort keyLe := by
  refine List.Perm.eq_of_pairwise (le := fun a b => keyLe a b = true) (fun a b _ _ h1 h2 => ?_) (PySem.W.sort_pairwise keyLe_total K) (PySem.W.sort_pairwise keyLe_total L) ?_
  · unfold keyLe at h1 h2
    rw [decide_eq_true_eq] at h1 h2
    rcases h1 with h1 | ⟨h1, h3⟩
    · rcases h2 with h2 | ⟨h2, _⟩ <;> omega
    · rcases h2 with h2 | ⟨_, h4⟩
      · omega
      · exact List.le_antisymm h3 h4
  · rw [List.perm_ext_iff_of_nodup ((List.mergeSort_perm _ _).nodup_iff.mpr hK) ((List.mergeSort_perm _ _).nodup_iff.mpr hL)]
    intro x
    rw [(List.mergeSort_perm _ _).mem_iff, (List.mergeSort_perm _ _).mem_iff]
    exact hm x
end Tab

set_option maxHeartbeats 400000
namespace Tab
open PySem PySem.Spec PyProof.Rows L2 Fw
/-! ### sources -/
theorem e_stir (sd tn : Int) (hs : 0 ≤ sd ∧ sd ≤ 1000000000000) (ht : 0 ≤ tn ∧ tn ≤ 1000000000) (n : Nat) (hn : 0 < n) : ∃ r : Int, Pure (cl n) "_law_stir" [.int sd, .int tn] (.int r) := by
  obtain ⟨n, rfl⟩ : ∃ m, n = m + 1 := ⟨n - 1, by omega⟩
  have m1 := mul_ok (i := sd) (j := 7681) (by omega)
  have m2 := mul_ok (i := tn) (j := 104711) (by omega)
  have d1 : ∀ i : Int, binF .Mod (.int i) (.int 2147483647) = some (.d (.int (i.fmod 2147483647))) := fun i => mod_ok (by decide)
  have d2 : ∀ i : Int, binF .Mod (.int i) (.int 2147483629) = some (.d (.int (i.fmod 2147483629))) := fun i => mod_ok (by decide)
  have d3 : ∀ i : Int, binF .Mod (.int i) (.int 2147483587) = some (.d (.int (i.fmod 2147483587))) := fun i => mod_ok (by decide)
  obtain ⟨b1, b2⟩ := fmod_rng (i := sd * 7681 + tn * 104711 + 31) (j := 2147483647) (by decide)
  generalize hy : (sd * 7681 + tn * 104711 + 31).fmod 2147483647 = y at b1 b2
  have m3 := mul_ok (i := y) (j := y) (by omega)
  have m4 := mul_ok (i := 12289) (j := tn) (by omega)
  obtain ⟨b3, b4⟩ := fmod_rng (i := y * y + 12289 * tn + 5) (j := 2147483629) (by decide)
  generalize hz : (y * y + 12289 * tn + 5).fmod 2147483629 = z at b3 b4
  have m5 := mul_ok (i := z) (j := z) (by omega)
  have dd : ∀ i : Int, binF .FloorDiv (.int i) (.int 32) = some (.d (.int (i.fdiv 32))) := fun i => fdiv_ok (by decide)
  refine ⟨((z * z + sd + 786433).fmod 2147483587).fdiv 32, pure_by m_law_stir rfl (Nat.le_of_ble_eq_true rfl) ?_⟩
  simp -implicitDefEqProofs [f_law_stir, m1, m2, d1, hy, m3, m4, d2, hz, m5, d3, dd]
theorem e_take (o : O) (m : Int) (h : PoolIn m o) (hm : m ≤ 100000000) (many : Nat) (h1 : 1 ≤ many) (h2 : many < 1000000000) (n : Nat) (hn : 1 < n) :
    ∃ (r : Nat) (o' : O), r < many ∧ PoolIn (m + 1) o' ∧ Pol (cl n) "_law_take" o [.int (many : Nat)] (.int (r : Nat)) o' := by
  obtain ⟨n, rfl⟩ : ∃ m, n = m + 1 := ⟨n - 1, by omega⟩
  obtain ⟨a, b, c, rfl, b1, b2, c1, c2⟩ := h
  have dm : ∀ i : Int, binF .Mod (.int i) (.int (many : Nat)) = some (.d (.int (i.fmod (many : Nat)))) := fun i => mod_ok (by omega)
  have dd : ∀ i : Int, binF .FloorDiv (.int i) (.int (many : Nat)) = some (.d (.int (i.fdiv (many : Nat)))) := fun i => fdiv_ok (by omega)
  by_cases ha : 0 < a
  · obtain ⟨q1, q2⟩ := fmod_rng (i := a) (j := (many : Nat)) (by omega)
    obtain ⟨r, hr⟩ := Int.eq_ofNat_of_zero_le q1
    refine ⟨r, pl3 (a.fdiv (many : Nat)) b c, by omega, ⟨_, _, _, rfl, b1, b2, c1, by omega⟩, pol_by m_law_take rfl (Nat.le_of_ble_eq_true rfl) ?_⟩
    simp -implicitDefEqProofs [f_law_take, pl3, ha, dm, dd, hr, putO_0]
  · obtain ⟨r0, hr0⟩ := e_stir b (c + 1) ⟨b1, b2⟩ (by omega) n (by omega)
    obtain ⟨q1, q2⟩ := fmod_rng (i := r0) (j := (many : Nat)) (by omega)
    obtain ⟨r, hr⟩ := Int.eq_ofNat_of_zero_le q1
    refine ⟨r, pl3 a b (c + 1), by omega, ⟨_, _, _, rfl, b1, b2, by omega, by omega⟩, pol_by m_law_take rfl (Nat.le_of_ble_eq_true rfl) ?_⟩
    simp -implicitDefEqProofs [f_law_take, pl3, ha, dm, putO_2, call_p2 hr0, hr]
theorem e_source (ns : List Int) (k : Nat) (hk : k ≤ 100) (n : Nat) (hn : 1 < n) : ∃ o : O, PoolIn 0 o ∧ ∃ xs, o = .lst xs ∧ PureN (cl n) "_law_source" [.rd (ns.map D.int), .int (k : Nat)] xs := by
  obtain ⟨n, rfl⟩ : ∃ m, n = m + 1 := ⟨n - 1, by omega⟩
  have pw : binF .Pow (.int 10) (.int 18) = some (.d (.int 1000000000000000000)) := by
    show (if 0 ≤ (18 : Int) ∧ (18 : Int) ≤ 1000000 ∧ (10 : Int).natAbs < 2 ^ 64 then some (iD ((10 : Int) ^ (18 : Int).toNat)) else none) = _
    rw [if_pos (by decide)]
    rfl
  have d1 : ∀ i : Int, binF .Mod (.int i) (.int 1999999973) = some (.d (.int (i.fmod 1999999973))) := fun i => mod_ok (by decide)
  obtain ⟨c, hc⟩ : ∃ c : Int, (k < ns.length ∧ atI (ns.map D.int) (k : Nat) = some (.int c)) ∨ (¬ k < ns.length ∧ c = 0) := by
    by_cases h : k < ns.length
    · exact ⟨ns[k], .inl ⟨h, atI_map (f := D.int) (List.getElem?_eq_getElem h)⟩⟩
    · exact ⟨0, .inr ⟨h, rfl⟩⟩
  by_cases h : 1000000000000000000 ≤ c
  · refine ⟨pl3 (c - 1000000000000000000) ((k : Int) + 1) 0, ⟨_, _, _, rfl, by omega, by omega, by omega, by omega⟩, _, rfl, pureN_by m_law_source rfl (Nat.le_of_ble_eq_true rfl) ?_⟩
    rcases hc with ⟨hk, a1⟩ | ⟨hk, rfl⟩
    · simp -implicitDefEqProofs [f_law_source, hk, a1, pw, h]
    · omega
  · obtain ⟨b1, b2⟩ := fmod_rng (i := if c < 0 then -c else c) (j := 1999999973) (by decide)
    have m1 := mul_ok (i := (if c < 0 then -c else c).fmod 1999999973) (j := 61) (by omega)
    refine ⟨pl3 0 ((if c < 0 then -c else c).fmod 1999999973 * 61 + (k : Int) + 1) 0, ⟨_, _, _, rfl, by omega, by omega, by omega, by omega⟩, _, rfl, pureN_by m_law_source rfl (Nat.le_of_ble_eq_true rfl) ?_⟩
    rcases hc with ⟨hk, a1⟩ | ⟨hk, rfl⟩
    · simp -implicitDefEqProofs [f_law_source, hk, a1, pw, h, d1, m1]
    · simp -implicitDefEqProofs at m1
      simp -implicitDefEqProofs [f_law_source, hk, pw, d1, m1]
end Tab

set_option maxHeartbeats 1000000
namespace Tab
open PySem PySem.Spec PyProof.Rows L2 Fw
/-! ### names of a source -/
theorem in_strs (s : Str) (ns : List Str) : cmpF .In (.str s) (.lst (ns.map D.str)) = some (decide (s ∈ ns)) := by
  have h := nin_strs s ns
  have e : cmpF .NotIn (.str s) (.lst (ns.map D.str)) = (cmpF .In (.str s) (.lst (ns.map D.str))).map (!·) := rfl
  rw [e] at h
  cases c : cmpF .In (.str s) (.lst (ns.map D.str)) with
  | none => rw [c] at h; cases h
  | some b =>
    rw [c] at h
    have : (!b) = !decide (s ∈ ns) := Option.some.inj h
    rw [show b = decide (s ∈ ns) by simpa using this]
theorem sv4 {r : Nat} (h : r < 4) : ∃ c : Nat, c ≤ 7 ∧ atI [D.int 0, .int 0, .int 1, .int 7] (r : Nat) = some (.int (c : Nat)) := by
  match r, h with
  | 0, _ => exact ⟨0, by decide, atI_0⟩
  | 1, _ => exact ⟨0, by decide, atI_1⟩
  | 2, _ => exact ⟨1, by decide, atI_2⟩
  | 3, _ => exact ⟨7, by decide, atI_3⟩
theorem lst4 {a b c d : D} : lstF [.d a, .d b, .d c, .d d] = some (.new (.lst [a, b, c, d])) := lstF_ok rfl (Nat.le_trans (by decide : 4 ≤ 10) szl)
theorem Base.up {l : List Nat} {k k' : Nat} (h : Base l k) (hk : k ≤ k') : Base l k' := by
  obtain ⟨c, r, e1, e2, e3, e4⟩ := h.ex
  exact ⟨c, r, e1, e2, e3, by omega⟩
theorem Base.atm {s : Str} (h : Base (tl s) 7) : Atm s := ⟨tl s, h, .inl rfl⟩
theorem Base.len {s : Str} {k : Nat} (h : Base (tl s) k) : s.length ≤ k + 1 := by
  obtain ⟨c, r, e1, e2, e3, e4⟩ := h.ex
  rw [len_str, e1, List.length_cons]
  omega
theorem e_atom (o : O) (m : Int) (h : PoolIn m o) (hm : m ≤ 10000000) (n : Nat) (hn : 2 < n) : ∃ (r : D) (o' : O), ((∃ s, r = .str s ∧ Base (tl s) 7) ∧ PoolIn (m + 10) o') ∧ Pol (cl n) "_law_atom" o [] r o' := by
  obtain ⟨n, rfl⟩ : ∃ m, n = m + 1 := ⟨n - 1, by omega⟩
  obtain ⟨r1, o1, q1, p1, c1⟩ := e_take o m h (by omega) 26 (by decide) (by decide) n (by omega)
  have x1 := ix_str (z := small) (r := r1) (by rw [small_len]; exact q1) (by decide +kernel)
  have y1 : isLow ((tl small)[r1]'(by rw [small_len]; exact q1)) := small_low _ (List.getElem_mem _)
  generalize (tl small)[r1]'(by rw [small_len]; exact q1) = s1 at x1 y1
  obtain ⟨r2, o2, q2, p2, c2⟩ := e_take o1 (m + 1) p1 (by omega) 4 (by decide) (by decide) n (by omega)
  obtain ⟨k7, hk7, x2⟩ := sv4 q2
  refine polx_by m_law_atom rfl (Nat.le_of_ble_eq_true rfl) ?_
  have sm : ("abcdefghijklmnopqrstuvwxyz" : Str) = small := rfl
  simp -implicitDefEqProofs only [f_law_atom, sm]
  have b1 := add_str (a := small) (b := "0123456789") (by decide +kernel)
  have bg : ∀ x ∈ tl (small ++ ("0123456789" : Str)), isLow x ∨ isDig x := by decide +kernel
  have bl : (tl (small ++ ("0123456789" : Str))).length = 36 := by decide +kernel
  have bl' : (small ++ ("0123456789" : Str)).length ≤ 100 := by decide +kernel
  generalize small ++ ("0123456789" : Str) = big at b1 bg bl bl'
  simp -implicitDefEqProofs at c1 c2
  simp -implicitDefEqProofs [call_b1 c1, x1, call_b1 c2, lst4, x2, rng_n (n := k7) (by omega)]
  refine run_for (fun i ρ => ∃ o' s sl, PoolIn (m + 2 + i) o' ∧ Base (tl s) i ∧ Fre sl ∧ ρ = [.bor o', .d (.str small), .d (.str s), sl]) ⟨o2, ⟨#[s1]⟩, .no, p2.up (by omega), ⟨s1, [], rfl, y1, by simp, by simp⟩, .no, rfl⟩
    (fun i hi ρ ⟨o', s, sl, hp, hs, hf, e⟩ => ?_) fun ρ ⟨o', s, sl, hp, hs, hf, e⟩ => ?_
  · subst e
    have hi' : i < k7 := by simpa using hi
    rw [get_of (x := natD i) (by rw [List.getElem?_map, List.getElem?_range hi']; rfl)]
    obtain ⟨r3, o3, q3, p3, c3⟩ := e_take o' (m + 2 + i) hp (by omega) 36 (by decide) (by decide) n (by omega)
    have x3 := ix_str (z := big) (r := r3) (by rw [bl]; exact q3) bl'
    have y3 : isLow ((tl big)[r3]'(by rw [bl]; exact q3)) ∨ isDig ((tl big)[r3]'(by rw [bl]; exact q3)) := bg _ (List.getElem_mem _)
    generalize (tl big)[r3]'(by rw [bl]; exact q3) = s3 at x3 y3
    have b2 := add_str (a := s) (b := ⟨#[s3]⟩) (by have := hs.len; show _ + 1 ≤ _; omega)
    obtain ⟨c, r, e1, e2, e3, e4⟩ := hs.ex
    refine ⟨_, bindT_fre hf rfl, ?_⟩
    simp -implicitDefEqProofs at c3
    simp -implicitDefEqProofs [b1, call_b1 c3, x3, b2]
    refine ⟨o3, p3.up (by omega), s ++ ⟨#[s3]⟩, ⟨c, r ++ [s3], ?_, e2, fun x hx => ?_, by simp; omega⟩, _, Fre.d, rfl, rfl, rfl⟩
    · rw [tl_app, e1]; rfl
    · rcases List.mem_append.mp hx with hx | hx
      · exact e3 x hx
      · rw [List.mem_singleton.mp hx]; exact y3
  · subst e
    simp only [List.length_map, List.length_range] at hp hs
    simp -implicitDefEqProofs
    exact ⟨hs.up hk7, hp.up (by omega)⟩
end Tab

set_option maxHeartbeats 1000000
namespace Tab
open PySem PySem.Spec PyProof.Rows L2 Fw
/-! ### alike -/
inductive Pl : Nat → D → Prop
  | int (i : Int) : Pl 0 (.int i)
  | str (s : Str) : Pl 0 (.str s)
  | bl (b : Bool) : Pl 0 (.bl b)
  | tup {k : Nat} {xs : List D} : (∀ x ∈ xs, Pl k x) → xs.length ≤ 1000000 → Pl (k + 1) (.tup xs)
  | up {k : Nat} {d : D} : Pl k d → Pl (k + 1) d
theorem e_alike {k : Nat} {d : D} (h : Pl k d) : ∀ n, k < n → Pure (cl n) "_law_alike" [d, d] (.bl true) := by
  induction h with
  | int i =>
    intro n hn
    obtain ⟨n, rfl⟩ : ∃ m, n = m + 1 := ⟨n - 1, by omega⟩
    refine pure_by m_law_alike rfl (Nat.le_of_ble_eq_true rfl) ?_
    have e1 : cmpF .Eq (.bl false) (.bl false) = some true := rfl
    simp -implicitDefEqProofs [f_law_alike, e1]
  | str s =>
    intro n hn
    obtain ⟨n, rfl⟩ : ∃ m, n = m + 1 := ⟨n - 1, by omega⟩
    refine pure_by m_law_alike rfl (Nat.le_of_ble_eq_true rfl) ?_
    simp -implicitDefEqProofs [f_law_alike]
  | bl b =>
    intro n hn
    obtain ⟨n, rfl⟩ : ∃ m, n = m + 1 := ⟨n - 1, by omega⟩
    refine pure_by m_law_alike rfl (Nat.le_of_ble_eq_true rfl) ?_
    have e1 : cmpF .Eq (.bl true) (.bl true) = some true := rfl
    have e2 : cmpF .Eq (.bl b) (.bl b) = some true := by
      show some (decide (b = b)) = _
      simp
    simp -implicitDefEqProofs [f_law_alike, e1, e2]
  | @tup k xs hx hl ih =>
    intro n hn
    obtain ⟨n, rfl⟩ : ∃ m, n = m + 1 := ⟨n - 1, by omega⟩
    refine pure_by m_law_alike rfl (Nat.le_of_ble_eq_true rfl) ?_
    simp -implicitDefEqProofs [f_law_alike, rng_b hl]
    refine run_for (fun i ρ => ∃ s, Fre s ∧ ρ = [.d (.tup xs), .d (.tup xs), s]) ⟨.no, .no, rfl⟩ (fun i hi ρ ⟨s, hs, e⟩ => ?_) fun ρ ⟨s, hs, e⟩ => ?_
    · subst e
      have hi' : i < xs.length := by simpa using hi
      rw [get_of (x := D.int (i : Nat)) (by rw [List.getElem?_map, List.getElem?_range hi']; rfl)]
      have a1 := atI_nat (xs := xs) hi'
      have c := ih xs[i] (List.getElem_mem hi') n (by omega)
      refine ⟨_, bindT_fre hs rfl, ?_⟩
      simp -implicitDefEqProofs [a1, call_p2 c]
      exact Fre.d
    · subst e
      simp -implicitDefEqProofs
  | up _ ih => exact fun n hn => ih n (by omega)
theorem Pl.row (l : Row) (h : l.length ≤ 1000000) : Pl 1 (rowI l) := .tup (fun x hx => by
  obtain ⟨i, _, rfl⟩ := List.mem_map.mp hx
  exact .int i) (by rw [List.length_map]; exact h)
theorem Pl.rows (ls : List Row) (h : ls.length ≤ 1000000) (h2 : ∀ l ∈ ls, l.length ≤ 1000000) : Pl 2 (linesD ls) := .tup (fun x hx => by
  obtain ⟨l, hl, rfl⟩ := List.mem_map.mp hx
  exact .row l (h2 l hl)) (by rw [List.length_map]; exact h)
theorem e_is_whole (i : Int) (n : Nat) (hn : 0 < n) : Pure (cl n) "_law_is_whole" [.int i] (.bl true) := by
  obtain ⟨n, rfl⟩ : ∃ m, n = m + 1 := ⟨n - 1, by omega⟩
  refine pure_by m_law_is_whole rfl (Nat.le_of_ble_eq_true rfl) ?_
  simp -implicitDefEqProofs [f_law_is_whole]
theorem e_is_truth (a b : Bool) (n : Nat) (hn : 0 < n) : Pure (cl n) "_law_is_truth" [.bl a, .bl b] (.bl (decide (a = b))) := by
  obtain ⟨n, rfl⟩ : ∃ m, n = m + 1 := ⟨n - 1, by omega⟩
  have e : cmpF .Eq (.bl a) (.bl b) = some (decide (a = b)) := rfl
  refine pure_by m_law_is_truth rfl (Nat.le_of_ble_eq_true rfl) ?_
  simp -implicitDefEqProofs [f_law_is_truth, e]
/-! ### told order -/
/-- the shortest first -/
def srtR (m : List Row) : List Row := m.mergeSort keyLe
theorem srt_keys {m : List Row} (hl : m.length ≤ 400000) : srtF (m.map keyI) = some (.new (.lst ((srtR m).map keyI))) := by
  unfold srtF
  rw [if_pos (sok_keys hl)]
  unfold sortD srtR
  rw [← List.map_mergeSort (r := keyLe) (f := keyI) fun a _ b _ => (le_keys a b).symm]
theorem srtR_len {m : List Row} : (srtR m).length = m.length := List.length_mergeSort _
theorem mem_srtR {m : List Row} {x : Row} : x ∈ srtR m ↔ x ∈ m := List.mem_mergeSort
theorem e_ord (t : D) (m : List Row) (ht : items t = some (m.map rowI)) (hd : (∃ ks vs, t = .dic ks vs) ∨ ∃ xs, t = .lst xs) (hl : m.length ≤ 400000) (n : Nat) (hn : 0 < n) : Pure (cl n) "_law_ordered" [t] (linesD (srtR m)) := by
  obtain ⟨n, rfl⟩ : ∃ m, n = m + 1 := ⟨n - 1, by omega⟩
  have z : 400000 < sizeLine := szM
  have z1 : m.length ≤ sizeLine := by omega
  have z2 : (srtR m).length ≤ sizeLine := by rw [srtR_len]; omega
  have sk := srt_keys hl
  have sk' : bltF .sorted [.lst (m.map keyI)] = some (.new (.lst ((srtR m).map keyI))) := sk
  refine pure_by m_law_ordered rfl (Nat.le_of_ble_eq_true rfl) ?_
  simp -implicitDefEqProofs [f_law_ordered, ht]
  refine run_map1 (h := keyI) (fun l hl => ?_) ?_
  · simp -implicitDefEqProofs [rowI_len, keyI]
  · simp -implicitDefEqProofs [z1, sk']
    refine run_map1 (h := rowI) (fun l hl => ?_) ?_
    · simp -implicitDefEqProofs [keyI]
    · simp -implicitDefEqProofs [z2, linesD]
theorem e_ord_l (m : List Row) (hl : m.length ≤ 400000) (n : Nat) (hn : 0 < n) : Pure (cl n) "_law_ordered" [.lst (m.map rowI)] (linesD (srtR m)) := e_ord _ m rfl (.inr ⟨_, rfl⟩) hl n hn
theorem e_ord_d (m : List Row) (hl : m.length ≤ 400000) (n : Nat) (hn : 0 < n) : Pure (cl n) "_law_ordered" [setR m] (linesD (srtR m)) := e_ord _ m rfl (.inl ⟨_, _, rfl⟩) hl n hn
end Tab

set_option maxHeartbeats 400000
namespace Tab
open PySem PySem.Spec PyProof.Rows L2 Fw
theorem mem_atomB {B : Bans} {a : Str} {x : Row} : x ∈ atomB B a ↔ ∃ p ∈ B, p.1 = a ∧ x ∈ p.2 := by
  unfold atomB
  rw [mem_insAll]
  simp only [List.not_mem_nil, false_or, List.mem_flatMap]
  constructor
  · rintro ⟨p, hp, h⟩
    split at h
    · rename_i e; exact ⟨p, hp, e, h⟩
    · cases h
  · rintro ⟨p, hp, e, h⟩
    exact ⟨p, hp, by rw [if_pos e]; exact h⟩
theorem str_len {l : Row} : (stretches l).length ≤ l.length * l.length := by
  have := flat_len (g := fun s => (List.range' (s + 1) (l.length - s)).map fun e => (l.drop s).take (e - s)) (c := l.length) (l := List.range l.length) (fun s _ => by rw [List.length_map, List.length_range']; omega)
  rw [List.length_range] at this
  exact this
/-- the rows of K are these, in the told order -/
theorem told_eq {B : Bans} (b : BOk B) {K : Kd} {F : List Row} (h : ∀ x, x ∈ KB B K ↔ x ∈ F) : (KB B K).mergeSort keyLe = srtR (insAll [] F) := by
  unfold srtR
  exact srtR_eq (KB_ok b K).nd (nd_insAll List.nodup_nil) fun x => by rw [h, mem_insAll]; simp
theorem e_told (B : Bans) (b : BOk B) (K : Kd) (w : Wf K) (F : List Row) (h : ∀ x, x ∈ KB B K ↔ x ∈ F) (n : Nat) (hn : K.dep + 5 < n) : Pure (cl n) "banned_lines" [bansD B, K.d] (linesD (srtR (insAll [] F))) := by
  have c := e_banned_lines B b K w n hn
  rw [told_eq b h] at c
  exact c
theorem KB_pl {B : Bans} (b : BOk B) {K : Kd} {F : List Row} (h : ∀ x, x ∈ KB B K ↔ x ∈ F) : Pl 2 (linesD (srtR (insAll [] F))) := by
  have h1 : ∀ x ∈ srtR (insAll [] F), x ∈ KB B K := fun x hx => by
    rw [mem_srtR, mem_insAll] at hx
    exact (h x).mpr (by simpa using hx)
  have h2 : (srtR (insAll [] F)).Nodup := (List.mergeSort_perm _ _).nodup_iff.mpr (nd_insAll List.nodup_nil)
  refine .rows _ ?_ fun l hl => ?_
  · have := nd_le h2 fun x hx => (KB_ok b K).st x (h1 x hx)
    exact Nat.le_trans this (Nat.le_trans b.st (by decide))
  · have := ((KB_ok b K).row b (h1 l hl)).2
    omega
theorem KB_o {B : Bans} {a b : Kd} : KB B (.op "/" a b) = overB (KB B a) (KB B b) := if_pos rfl
theorem KB_u {B : Bans} {a b : Kd} : KB B (.op ">" a b) = underB (KB B a) (KB B b) := (if_neg (by decide +kernel)).trans (if_pos rfl)
theorem KB_p {B : Bans} {a b : Kd} : KB B (.op "*" a b) = pairB B (KB B a) (KB B b) := (if_neg (by decide +kernel)).trans (if_neg (by decide +kernel))
/-! ### what holds -/
def okL (B : Bans) (l : Line) : Prop := ∀ x ∈ KB B l.2, ¬ Spl x (l.1.map (KB B))
theorem okL_pcs {B : Bans} {l : Line} : okL B l ↔ ∀ x ∈ KB B l.2, pcs B l x = none := by
  unfold okL pcs
  simp only [pieces_iff]
theorem e_holds_t (B : Bans) (b : BOk B) (l : Line) (hL : LnOk l) (h : okL B l) (n : Nat) (hn : 93 < n) : Pure (cl n) "holds" [bansD B, lineD l] (.bl true) := by
  obtain ⟨r, hr, c⟩ := e_holds B b l hL n hn
  rcases hr with ⟨x, hx, ps, hp, rfl⟩ | ⟨_, rfl⟩
  · rw [okL_pcs.mp h x hx] at hp; cases hp
  · exact c
theorem e_holds_f (B : Bans) (b : BOk B) (l : Line) (hL : LnOk l) (h : ¬ okL B l) (n : Nat) (hn : 93 < n) : Pure (cl n) "holds" [bansD B, lineD l] (.bl false) := by
  obtain ⟨r, hr, c⟩ := e_holds B b l hL n hn
  rcases hr with ⟨x, hx, ps, hp, rfl⟩ | ⟨h2, rfl⟩
  · exact c
  · exact absurd (okL_pcs.mpr h2) h
theorem e_fail_t (B : Bans) (b : BOk B) (l : Line) (hL : LnOk l) (h : okL B l) (n : Nat) (hn : 92 < n) : Pure (cl n) "failing_lines" [bansD B, lineD l] .non := by
  obtain ⟨r, hr, c⟩ := e_failing_lines B b l hL n hn
  rcases hr with ⟨x, hx, ps, hp, rfl⟩ | ⟨_, rfl⟩
  · rw [okL_pcs.mp h x hx] at hp; cases hp
  · exact c
/-- lines that show it -/
structure Shw (B : Bans) (l : Line) (ps : List Row) : Prop where
  len : ps.length = l.1.length
  one : ∀ i (h : i < ps.length) (h' : i < l.1.length), ps[i] ≠ [] ∧ ps[i] ∉ KB B l.1[i]
  all : ps.flatten ∈ KB B l.2
theorem e_fail_f (B : Bans) (b : BOk B) (l : Line) (hL : LnOk l) (h : ¬ okL B l) (n : Nat) (hn : 92 < n) : ∃ ps, Shw B l ps ∧ Pure (cl n) "failing_lines" [bansD B, lineD l] (linesD ps) := by
  obtain ⟨r, hr, c⟩ := e_failing_lines B b l hL n hn
  rcases hr with ⟨x, hx, ps, hp, rfl⟩ | ⟨h2, rfl⟩
  · refine ⟨ps, ?_, c⟩
    obtain ⟨p1, p2, p3⟩ := pieces_ok hp
    rw [List.length_map] at p1
    refine ⟨p1, fun i h h' => ?_, by rw [p2]; exact hx⟩
    have := p3 i h (by rw [List.length_map]; exact h')
    simpa using this
  · exact absurd (okL_pcs.mpr h2) h
theorem spl_len : ∀ {Ss : List (List Row)} {x : Row}, Spl x Ss → Ss.length ≤ x.length
  | [], x, _ => Nat.zero_le _
  | S :: Ss, x, h => by
    obtain ⟨a, b, rfl, h1, _, h3⟩ := h
    have := spl_len h3
    have : 1 ≤ a.length := by cases a <;> simp_all
    simp
    omega
end Tab

set_option maxHeartbeats 1000000
namespace Tab
open PySem PySem.Spec PyProof.Rows L2 Fw
/-- a kind drawn from names -/
structure KOk (ns : List Str) (size : Nat) (k : Kd) : Prop where
  sz : k.sz = size
  wf : Wf k
  ats : ∀ s ∈ k.ats, s ∈ ns
theorem e_bush (ns : List Str) (hns : 1 ≤ ns.length) (hns2 : ns.length ≤ 1000) : ∀ (size : Nat) (o : O) (m : Int) (n : Nat), 1 ≤ size → PoolIn m o → m + 3 * size ≤ 10000000 → size + 3 < n →
    ∃ r o', ((∃ k : Kd, r = k.d ∧ KOk ns size k) ∧ PoolIn (m + 3 * size - 2) o') ∧ Pol (cl n) "_law_bush" o [.lst (ns.map .str), .int (size : Nat)] r o' := by
  intro size
  induction size using Nat.strongRecOn with
  | ind size ih =>
    intro o m n hs hp hm hn
    obtain ⟨n, rfl⟩ : ∃ m, n = m + 1 := ⟨n - 1, by omega⟩
    have hm0 : 0 ≤ m := by obtain ⟨a, b, c, _, _, _, h5, h6⟩ := hp; omega
    refine polx_by (fd := f_law_bush) m_law_bush rfl (Nat.le_of_ble_eq_true rfl) ?_
    by_cases h1 : size ≤ 1
    · obtain ⟨r1, o1, q1, p1, c1⟩ := e_take o m hp (by omega) ns.length hns (by omega) n (by omega)
      have a1 := atI_map (f := D.str) (List.getElem?_eq_getElem q1)
      have h1' : (size : Int) ≤ 1 := by omega
      simp -implicitDefEqProofs [f_law_bush, h1', call_b1 c1, a1]
      refine ⟨⟨.at ns[r1], rfl, ⟨by show 1 = size; omega, trivial, fun s hs => ?_⟩⟩, p1.up (by omega)⟩
      rw [List.mem_singleton.mp hs]
      exact List.getElem_mem _
    · obtain ⟨r1, o1, q1, p1, c1⟩ := e_take o m hp (by omega) (size - 1) (by omega) (by omega) n (by omega)
      obtain ⟨r2, o2, q2, p2, c2⟩ := e_take o1 (m + 1) p1 (by omega) 3 (by decide) (by decide) n (by omega)
      obtain ⟨c, hc, x2⟩ := sign_ix q2
      obtain ⟨d1, o3, ⟨⟨k1, rfl, K1⟩, p3⟩, c3⟩ := ih (1 + r1) (by omega) o2 (m + 1 + 1) n (by omega) p2 (by omega) (by omega)
      obtain ⟨d2, o4, ⟨⟨k2, rfl, K2⟩, p4⟩, c4⟩ := ih (size - (1 + r1)) (by omega) o3 (m + 1 + 1 + 3 * (1 + r1 : Nat) - 2) n (by omega) p3 (by omega) (by omega)
      rw [show ((size - 1 : Nat) : Int) = (size : Int) - 1 by omega] at c1
      rw [show ((1 + r1 : Nat) : Int) = 1 + (r1 : Int) by omega] at c3
      rw [show ((size - (1 + r1) : Nat) : Int) = (size : Int) - (1 + (r1 : Int)) by omega] at c4
      have h1' : ¬ ((size : Int) ≤ 1) := by omega
      simp -implicitDefEqProofs at c1 c2 c3 c4
      simp -implicitDefEqProofs [f_law_bush, h1', call_b1 c1, call_b1 c2, x2, call_b2 c3, call_b2 c4]
      refine ⟨⟨.op c k1 k2, rfl, ⟨?_, ⟨hc, K1.wf, K2.wf⟩, fun s hs => ?_⟩⟩, p4.up (by omega)⟩
      · show k1.sz + k2.sz = size
        rw [K1.sz, K2.sz]
        omega
      · rcases List.mem_append.mp hs with hs | hs
        · exact K1.ats s hs
        · exact K2.ats s hs
theorem max_c {c : Nat} (hc : 1 ≤ c) (x : Int) : ∃ k : Nat, 1 ≤ k ∧ k ≤ c ∧ bltF .max [.int 1, .int (if x < (c : Int) then x else c)] = some (.d (.int (k : Nat))) := by
  show ∃ k : Nat, 1 ≤ k ∧ k ≤ c ∧ some (iD (if (if x < (c : Int) then x else c) > 1 then (if x < (c : Int) then x else c) else 1)) = some (.d (.int (k : Nat)))
  by_cases h : x < (c : Int)
  · simp only [h, if_true]
    by_cases h2 : x > 1
    · refine ⟨x.toNat, by omega, by omega, ?_⟩
      rw [if_pos h2, show x = ((x.toNat : Nat) : Int) by omega]
      simp [iD]
    · exact ⟨1, by omega, by omega, by rw [if_neg h2]; rfl⟩
  · simp only [h, if_false]
    by_cases h2 : (c : Int) > 1
    · exact ⟨c, by omega, by omega, by rw [if_pos h2]; rfl⟩
    · exact ⟨1, by omega, by omega, by rw [if_neg h2]; rfl⟩
/-- a row of kinds that are drawn from names -/
structure RwOk (ns : List Str) (cap : Nat) (ks : List Kd) : Prop where
  k : ∀ k ∈ ks, Wf k ∧ 1 ≤ k.sz ∧ k.sz ≤ cap ∧ ∀ s ∈ k.ats, s ∈ ns
theorem Kd.sz_pos : ∀ k : Kd, 1 ≤ k.sz
  | .at _ => Nat.le_refl _
  | .op _ a b => by have := a.sz_pos; show 1 ≤ a.sz + b.sz; omega
def BsS (o : O) (ns : List Str) (many cap most : Nat) (ks : List Kd) (left : Int) (s7 s8 : Sl) : List Sl := [.bor o, .d (.lst (ns.map .str)), .d (.int (many : Nat)), .d (.int (cap : Nat)), .d (.int (most : Nat)), .own (.lst (ks.map Kd.d)), .d (.int left), s7, s8]
theorem e_bushes (ns : List Str) (hns : 1 ≤ ns.length) (hns2 : ns.length ≤ 1000) (many cap most : Nat) (h1 : 1 ≤ cap) (h2 : cap ≤ 100) (h3 : many ≤ 100) (o : O) (m : Int) (hp : PoolIn m o) (hm : m ≤ 1000000) (n : Nat) (hn : cap + 4 < n) :
    ∃ r o', ((∃ (row : List Kd) (g : Kd), r = .tup [.tup (row.map Kd.d), g.d] ∧ row.length = many ∧ RwOk ns cap row ∧ RwOk ns cap [g]) ∧ PoolIn (m + 1000 * (many + 1)) o') ∧ Pol (cl n) "_law_bushes" o [.lst (ns.map .str), .int (many : Nat), .int (cap : Nat), .int (most : Nat)] r o' := by
  obtain ⟨n, rfl⟩ : ∃ m, n = m + 1 := ⟨n - 1, by omega⟩
  refine polx_by (fd := f_law_bushes) m_law_bushes rfl (Nat.le_of_ble_eq_true rfl) ?_
  have rg : rngF [.int ((many : Int) + 1)] = some ((List.range (many + 1)).map natD) := by
    rw [show ((many : Int) + 1) = ((many + 1 : Nat) : Int) by omega]; exact rng_n (by omega)
  simp -implicitDefEqProofs [f_law_bushes, rg]
  refine run_for (fun i ρ => ∃ o' ks left s7 s8, PoolIn (m + 1000 * i) o' ∧ ks.length = i ∧ RwOk ns cap ks ∧ Fre s7 ∧ Fre s8 ∧ ρ = BsS o' ns many cap most ks left s7 s8) ⟨o, [], _, .no, .no, hp.up (by omega), rfl, ⟨by simp⟩, .no, .no, rfl⟩
    (fun i hi ρ ⟨o', ks, left, s7, s8, hpp, hl, hk, h7, h8, e⟩ => ?_) fun ρ ⟨o', ks, left, s7, s8, hpp, hl, hk, h7, h8, e⟩ => ?_
  · subst e
    have hi' : i < many + 1 := by simpa using hi
    rw [get_of (x := D.int (i : Nat)) (by rw [List.getElem?_map, List.getElem?_range hi']; rfl)]
    obtain ⟨c, c1, c2, mx⟩ := max_c h1 (left - (many : Int) + (i : Int))
    obtain ⟨r1, o1, q1, p1, d1⟩ := e_take o' _ hpp (by omega) c c1 (by omega) n (by omega)
    obtain ⟨_, o2, ⟨⟨k, rfl, K⟩, p2⟩, d2⟩ := e_bush ns hns hns2 (1 + r1) o1 _ n (by omega) p1 (by omega) (by omega)
    rw [show ((1 + r1 : Nat) : Int) = 1 + (r1 : Int) by omega] at d2
    have z : ks.length < sizeLine := Nat.lt_of_le_of_lt (by omega : _ ≤ 200) (by decide)
    refine ⟨_, bindT_fre h7 rfl, ?_⟩
    simp -implicitDefEqProofs [BsS, mx, call_b1 d1, h8.bo, call_b2 d2, z]
    refine ⟨o2, p2.up (by omega), ks ++ [k], by simp [hl], ⟨fun k' hk' => ?_⟩, left - (1 + (r1 : Int)), .d (.int (i : Nat)), Fre.d, .d (.int (1 + (r1 : Int))), Fre.d, by simp⟩
    rcases List.mem_append.mp hk' with h | h
    · exact hk.k k' h
    · rw [List.mem_singleton.mp h]
      exact ⟨K.wf, k.sz_pos, by have := K.sz; omega, K.ats⟩
  · subst e
    rw [List.length_map, List.length_range] at hpp hl
    cases ks with
    | nil => simp at hl
    | cons g row =>
      have cf : cutD (g.d :: row.map Kd.d) (some (1 : Int)) none = row.map Kd.d := by
        rw [show (1 : Int) = ((1 : Nat) : Int) from rfl, cut_from]
        rfl
      simp -implicitDefEqProofs [BsS, cf]
      refine ⟨⟨row, g, ⟨rfl, rfl⟩, by simpa using hl, ⟨fun k hk' => hk.k k (List.mem_cons_of_mem _ hk')⟩, ⟨fun k hk' => ?_⟩⟩, hpp.up (by omega)⟩
      rw [List.mem_singleton.mp hk']
      exact hk.k g List.mem_cons_self
end Tab

set_option maxHeartbeats 1000000
namespace Tab
open PySem PySem.Spec PyProof.Rows L2 Fw
/-! ### the law's own reckoning -/
def hv1 (F S : List Row) (l : Row) (i j k : Nat) : List D := if piece l i k ∈ F then [] else if piece l k j ∈ S then [] else [natD k]
def hv (F S : List Row) (l : Row) (i j : Nat) : List D := (List.range' (i + 1) (j - (i + 1))).flatMap (hv1 F S l i j)
theorem hv_pos {F S : List Row} {l : Row} {i j : Nat} (hj : j ≤ l.length) : 0 < (hv F S l i j).length ↔ allowed ((l.drop i).take (j - i)) F S = true := by
  rw [allowed_iff]
  have ne : 0 < (hv F S l i j).length ↔ ∃ k, i + 1 ≤ k ∧ k < j ∧ piece l i k ∉ F ∧ piece l k j ∉ S := by
    rw [List.length_pos_iff_exists_mem]
    unfold hv hv1
    simp only [List.mem_flatMap, List.mem_range'_1]
    constructor
    · rintro ⟨d, k, hk, hd⟩
      split at hd
      · cases hd
      · split at hd
        · cases hd
        · rename_i h1 h2
          exact ⟨k, hk.1, by omega, h1, h2⟩
    · rintro ⟨k, h1, h2, h3, h4⟩
      exact ⟨natD k, k, by omega, by rw [if_neg h3, if_neg h4]; simp⟩
  rw [ne]
  constructor
  · rintro ⟨k, h1, h2, h3, h4⟩
    refine ⟨k - i, by omega, by rw [List.length_take, List.length_drop]; omega, ?_, ?_⟩
    · rw [List.take_take, Nat.min_eq_left (by omega)]
      exact h3
    · rw [List.drop_take, List.drop_drop, show i + (k - i) = k by omega, show j - i - (k - i) = j - k by omega]
      exact h4
  · rintro ⟨c, h1, h2, h3, h4⟩
    rw [List.length_take, List.length_drop] at h2
    rw [List.take_take, Nat.min_eq_left (by omega)] at h3
    rw [List.drop_take, List.drop_drop] at h4
    refine ⟨i + c, by omega, by omega, ?_, ?_⟩
    · unfold piece
      rw [show i + c - i = c by omega]
      exact h3
    · unfold piece
      rw [show j - (i + c) = j - i - c by omega]
      exact h4
theorem hv_len {F S : List Row} {l : Row} {i j : Nat} : (hv F S l i j).length ≤ j := by
  have h1 := flat_len (g := hv1 F S l i j) (c := 1) (l := List.range' (i + 1) (j - (i + 1))) fun k _ => by
    unfold hv1
    split
    · simp
    · split <;> simp
  rw [List.length_range'] at h1
  exact Nat.le_trans h1 (by omega)
theorem nin_fr {m : List (Row × Row)} {a b : Row} : cmpF .NotIn (.tup [rowI a, rowI b]) (.dic (m.map rows2) (m.map fun _ => D.bl true)) = some (!decide ((a, b) ∈ m)) := nin_rows2
theorem rng_ij {i j : Nat} (hj : j ≤ 9000) (hi : i ≤ 9000) : rngF [.int ((i : Int) + 1), .int (j : Int)] = some ((List.range' (i + 1) (j - (i + 1))).map natD) := by
  rw [show ((i : Int) + 1) = ((i + 1 : Nat) : Int) by omega]
  exact rng2 (a := i + 1) (by omega) (by omega)
def Bnd (s : Sl) : Prop := bndO (some s) = true
theorem Fre.bnd {s : Sl} (h : Fre s) : Bnd s := h.bo
theorem Bnd.own {o : O} : Bnd (.own o) := rfl
theorem e_lpair (B : Bans) (b : BOk B) (F S : List Row) (n : Nat) (hn : 0 < n) : Pure (cl n) "_law_pair_bans" [bansD B, setR F, setR S] (setR (pairB B F S)) := by
  obtain ⟨n, rfl⟩ : ∃ m, n = m + 1 := ⟨n - 1, by omega⟩
  show Pure (cl (n + 1)) f_law_pair_bans.name [bansD B, setR F, setR S] _
  refine pure_by m_law_pair_bans rfl (Nat.le_of_ble_eq_true rfl) ?_
  obtain ⟨P, hP⟩ : ∃ P : Sl → Sl → Sl → Sl → Sl → Sl → List Row → List Sl → Prop, P = fun s4 s5 s6 s7 s8 s9 m ρ => ρ = [.d (.tup (B.map banD)), .d (setR F), .d (setR S), .own (.dic (m.map rowI) (m.map fun _ => .bl true)), s4, s5, s6, s7, s8, s9, .no] := ⟨_, rfl⟩
  have mk : ∀ {m s4 s5 s6 s7 s8 s9}, P s4 s5 s6 s7 s8 s9 m [.d (.tup (B.map banD)), .d (setR F), .d (setR S), .own (.dic (m.map rowI) (m.map fun _ => .bl true)), s4, s5, s6, s7, s8, s9, .no] := hP ▸ rfl
  have un : ∀ {s4 s5 s6 s7 s8 s9 m ρ}, P s4 s5 s6 s7 s8 s9 m ρ → ρ = [.d (.tup (B.map banD)), .d (setR F), .d (setR S), .own (.dic (m.map rowI) (m.map fun _ => .bl true)), s4, s5, s6, s7, s8, s9, .no] := fun h => by rw [hP] at h; exact h
  clear hP
  simp -implicitDefEqProofs [f_law_pair_bans, bansD]
  refine run_fold (S := List Row) (e := banD) (xs := B) (fun m p => insAll m (q1 F S p)) [] (fun m ρ => ∃ s4, Fre s4 ∧ ∃ s5, Bnd s5 ∧ ∃ s6, Fre s6 ∧ ∃ s7, Fre s7 ∧ ∃ s8, Fre s8 ∧ ∃ s9, Fre s9 ∧ P s4 s5 s6 s7 s8 s9 m ρ) ⟨_, .no, _, Fre.bnd Fre.no, _, .no, _, .no, _, .no, _, .no, mk (m := [])⟩ (fun pre p post hx ρ q => ?_) fun ρ q => ?_
  · obtain ⟨s4, h4, s5, h5, s6, h6, s7, h7, s8, h8, s9, h9, q⟩ := q
    have e := un q
    subst e
    rw [fold_ins]
    have hp : p ∈ B := by rw [hx]; simp
    have ok : SOk B (insAll [] (pre.flatMap (q1 F S))) := SOk.all fun x hx' => by
      obtain ⟨p', hp', hx'⟩ := List.mem_flatMap.mp hx'
      exact q1_st (by rw [hx]; exact List.mem_append_left _ hp') x hx'
    generalize insAll [] (pre.flatMap (q1 F S)) = m at ok
    have p1 := b.ls p hp
    have p2 := fun l hl => (b.ln p hp l hl).2
    have bp : banD p = .tup [.str p.1, .tup (p.2.map rowI)] := rfl
    refine ⟨_, bindT_fre h4 rfl, ?_⟩
    have h5' : bndO (some s5) = true := h5
    rw [bp]
    simp -implicitDefEqProofs [h5']
    refine run_fold (S := List (Row × Row)) (e := rowI) (xs := p.2) (fun g l => insAll g (g1 F S l)) [] (fun g ρ => ∃ s6, Fre s6 ∧ ∃ s7, Fre s7 ∧ ∃ s8, Fre s8 ∧ ∃ s9, Fre s9 ∧ P (.d (.tup [.str p.1, .tup (p.2.map rowI)])) (.own (.dic (g.map rows2) (g.map fun _ => .bl true))) s6 s7 s8 s9 m ρ) ⟨s6, h6, s7, h7, s8, h8, s9, h9, mk⟩ (fun pre l post hx ρ q => ?_) fun ρ q => ?_
    · obtain ⟨s6, h6, s7, h7, s8, h8, s9, h9, q⟩ := q
      have e := un q
      subst e
      rw [fold_ins]
      have hl : l ∈ p.2 := by rw [hx]; simp
      have ok : FOk p.2 (insAll [] (pre.flatMap (g1 F S))) := FOk.all fun x hx' => by
        obtain ⟨l', hl', hx'⟩ := List.mem_flatMap.mp hx'
        exact g1_fr (by rw [hx]; exact List.mem_append_left _ hl') x hx'
      generalize insAll [] (pre.flatMap (g1 F S)) = g at ok
      have ll := p2 l hl
      refine ⟨_, bindT_fre h6 rfl, ?_⟩
      simp -implicitDefEqProofs [rowI_len, rng_n (n := l.length) (by omega)]
      refine run_fold (S := List (Row × Row)) (e := natD) (xs := List.range l.length) (fun g s => insAll g (g2 F S l s)) g (fun g ρ => ∃ s7, Fre s7 ∧ ∃ s8, Fre s8 ∧ ∃ s9, Fre s9 ∧ P (.d (.tup [.str p.1, .tup (p.2.map rowI)])) (.own (.dic (g.map rows2) (g.map fun _ => .bl true))) (.d (rowI l)) s7 s8 s9 m ρ) ⟨s7, h7, s8, h8, s9, h9, mk⟩ (fun pre1 s post1 hx1 ρ q => ?_) fun ρ q => ?_
      · obtain ⟨s7, h7, s8, h8, s9, h9, q⟩ := q
        have e := un q
        subst e
        rw [fold_ins]
        have hs : s < l.length := by
          have : s ∈ List.range l.length := by rw [hx1]; simp
          exact List.mem_range.mp this
        have ok1 : FOk p.2 (insAll g (pre1.flatMap (g2 F S l))) := ok.more fun x hx' => by
          obtain ⟨s', hs', hx'⟩ := List.mem_flatMap.mp hx'
          have : s' ∈ List.range l.length := by rw [hx1]; exact List.mem_append_left _ hs'
          exact g2_fr hl (List.mem_range.mp this) x hx'
        generalize insAll g (pre1.flatMap (g2 F S l)) = g' at ok1
        have rg := rng_s2 (s := s) (n := l.length) (by omega) (by omega)
        refine ⟨_, bindT_fre h7 rfl, ?_⟩
        simp -implicitDefEqProofs [natD, rowI_len, rg]
        refine run_fold (S := List (Row × Row)) (e := natD) (xs := List.range' (s + 2) (l.length - (s + 1))) (fun g e => insAll g (g3 F S l s e)) g' (fun g ρ => ∃ s8, Fre s8 ∧ ∃ s9, Fre s9 ∧ P (.d (.tup [.str p.1, .tup (p.2.map rowI)])) (.own (.dic (g.map rows2) (g.map fun _ => .bl true))) (.d (rowI l)) (.d (.int s)) s8 s9 m ρ) ⟨s8, h8, s9, h9, mk⟩ (fun pre2 e post2 hx2 ρ q => ?_) fun ρ q => ?_
        · obtain ⟨s8, h8, s9, h9, q⟩ := q
          have e' := un q
          subst e'
          rw [fold_ins]
          have he : s + 2 ≤ e ∧ e ≤ l.length := by
            have : e ∈ List.range' (s + 2) (l.length - (s + 1)) := by rw [hx2]; simp
            rw [List.mem_range'_1] at this
            omega
          have ok2 : (insAll g' (pre2.flatMap (g3 F S l s))).length < sizeLine := (ok1.more fun x hx' => by
            obtain ⟨e', he', hx'⟩ := List.mem_flatMap.mp hx'
            have : e' ∈ List.range' (s + 2) (l.length - (s + 1)) := by rw [hx2]; exact List.mem_append_left _ he'
            rw [List.mem_range'_1] at this
            exact g3_fr hl hs (by omega) x hx' : FOk p.2 _).len p1 p2
          generalize insAll g' (pre2.flatMap (g3 F S l s)) = g2' at ok2
          have hp := hv_pos (F := F) (S := S) (l := l) (i := s) (j := e) he.2
          have hl := hv_len (F := F) (S := S) (l := l) (i := s) (j := e)
          refine ⟨_, bindT_fre h8 rfl, ?_⟩
          unfold g3
          simp -implicitDefEqProofs [natD, rng_ij (i := s) (j := e) (by omega) (by omega), h9.bo]
          refine run_mapL (g := hv1 F S l s e) (fun k hk => ?_) ?_
          · rw [List.mem_range'_1] at hk
            have c1 := cut_mid (l := l) (a := s) (b := k) (by omega) (by omega)
            have c2 := cut_mid (l := l) (a := k) (b := e) (by omega) (by omega)
            rw [show (l.drop s).take (k - s) = piece l s k from rfl] at c1
            rw [show (l.drop k).take (e - k) = piece l k e from rfl] at c2
            unfold hv1
            by_cases i1 : piece l s k ∈ F
            · simp -implicitDefEqProofs [natD, c1, nin_row, i1]
            · by_cases i2 : piece l k e ∈ S
              · simp -implicitDefEqProofs [natD, c1, c2, nin_row, i1, i2]
              · simp -implicitDefEqProofs [natD, c1, c2, nin_row, i1, i2]
          · rw [show (List.range' (s + 1) (e - (s + 1))).flatMap (hv1 F S l s e) = hv F S l s e from rfl]
            generalize hv F S l s e = w at hp hl
            have z1 : w.length ≤ sizeLine := Nat.le_trans (by omega : _ ≤ 100) (by decide)
            by_cases hc : allowed ((l.drop s).take (e - s)) F S = true
            · have wp := hp.mpr hc
              simp -implicitDefEqProofs [z1, h9.bo, wp, cut_take, cut_drop, hc, set2_put ok2]
              exact ⟨_, Fre.d, _, Fre.d, mk⟩
            · have wp : ¬ 0 < w.length := fun h => hc (hp.mp h)
              rw [Bool.not_eq_true] at hc
              simp -implicitDefEqProofs [z1, h9.bo, wp, hc]
              exact ⟨_, Fre.d, _, Fre.d, mk⟩
        · obtain ⟨s8, h8, s9, h9, q⟩ := q
          have e' := un q
          subst e'
          rw [fold_ins]
          simp -implicitDefEqProofs
          exact ⟨_, Fre.d, _, h8, _, h9, mk⟩
      · obtain ⟨s7, h7, s8, h8, s9, h9, q⟩ := q
        have e' := un q
        subst e'
        rw [fold_ins]
        simp -implicitDefEqProofs
        exact ⟨_, Fre.d, _, h7, _, h8, _, h9, mk⟩
    · obtain ⟨s6, h6, s7, h7, s8, h8, s9, h9, q⟩ := q
      have e' := un q
      subst e'
      rw [fold_ins, ← framesB_eq]
      simp -implicitDefEqProofs
      unfold q1
      refine run_fold (S := List Row) (e := rowI) (xs := p.2) (fun m l => insAll m (q2 F S p.2 l)) m (fun m ρ => ∃ s6, Fre s6 ∧ ∃ s7, Fre s7 ∧ ∃ s8, Fre s8 ∧ P (.d (.tup [.str p.1, .tup (p.2.map rowI)])) (.own (.dic ((framesB p.2 F S).map rows2) ((framesB p.2 F S).map fun _ => .bl true))) s6 s7 s8 s9 m ρ) ⟨s6, h6, s7, h7, s8, h8, mk⟩ (fun pre0 l post0 hx0 ρ q => ?_) fun ρ q => ?_
      · obtain ⟨s6, h6, s7, h7, s8, h8, q⟩ := q
        have e' := un q
        subst e'
        rw [fold_ins]
        have hl : l ∈ p.2 := by rw [hx0]; simp
        have ll := p2 l hl
        have up : ∀ {l'}, l' ∈ p.2 → ∀ x ∈ stretches l', x ∈ St B := fun hl' x hx' => mem_St.mpr ⟨p, hp, _, hl', hx'⟩
        have ok0 : SOk B (insAll m (pre0.flatMap (q2 F S p.2))) := ok.more fun x hx' => by
          obtain ⟨l', hl', hx'⟩ := List.mem_flatMap.mp hx'
          exact up (by rw [hx0]; exact List.mem_append_left _ hl') x (q2_st x hx')
        generalize insAll m (pre0.flatMap (q2 F S p.2)) = m0 at ok0
        refine ⟨_, bindT_fre h6 rfl, ?_⟩
        simp -implicitDefEqProofs [rowI_len, rng_n (n := l.length) (by omega)]
        refine run_fold (S := List Row) (e := natD) (xs := List.range l.length) (fun m s => insAll m (q3 F S p.2 l s)) m0 (fun m ρ => ∃ s7, Fre s7 ∧ ∃ s8, Fre s8 ∧ P (.d (.tup [.str p.1, .tup (p.2.map rowI)])) (.own (.dic ((framesB p.2 F S).map rows2) ((framesB p.2 F S).map fun _ => .bl true))) (.d (rowI l)) s7 s8 s9 m ρ) ⟨s7, h7, s8, h8, mk⟩ (fun pre1 s post1 hx1 ρ q => ?_) fun ρ q => ?_
        · obtain ⟨s7, h7, s8, h8, q⟩ := q
          have e' := un q
          subst e'
          rw [fold_ins]
          have hs : s < l.length := by
            have : s ∈ List.range l.length := by rw [hx1]; simp
            exact List.mem_range.mp this
          have ok1 : SOk B (insAll m0 (pre1.flatMap (q3 F S p.2 l))) := ok0.more fun x hx' => by
            obtain ⟨s', hs', hx'⟩ := List.mem_flatMap.mp hx'
            exact up hl x (q3_st x hx')
          generalize insAll m0 (pre1.flatMap (q3 F S p.2 l)) = m1 at ok1
          refine ⟨_, bindT_fre h7 rfl, ?_⟩
          simp -implicitDefEqProofs [natD, rowI_len, rng_s1 (s := s) (n := l.length) (by omega) (by omega)]
          refine run_fold (S := List Row) (e := natD) (xs := List.range' (s + 1) (l.length - s)) (fun m e => insAll m (q4 F S p.2 l s e)) m1 (fun m ρ => ∃ s8, Fre s8 ∧ P (.d (.tup [.str p.1, .tup (p.2.map rowI)])) (.own (.dic ((framesB p.2 F S).map rows2) ((framesB p.2 F S).map fun _ => .bl true))) (.d (rowI l)) (.d (.int s)) s8 s9 m ρ) ⟨s8, h8, mk⟩ (fun pre2 e post2 hx2 ρ q => ?_) fun ρ q => ?_
          · obtain ⟨s8, h8, q⟩ := q
            have e' := un q
            subst e'
            rw [fold_ins]
            have he : s + 1 ≤ e ∧ e ≤ l.length := by
              have : e ∈ List.range' (s + 1) (l.length - s) := by rw [hx2]; simp
              rw [List.mem_range'_1] at this
              omega
            have ok2 : (insAll m1 (pre2.flatMap (q4 F S p.2 l s))).length < sizeLine := SOk.len b (ok1.more fun x hx' => by
              obtain ⟨e', he', hx'⟩ := List.mem_flatMap.mp hx'
              have : e' ∈ List.range' (s + 1) (l.length - s) := by rw [hx2]; exact List.mem_append_left _ he'
              rw [List.mem_range'_1] at this
              exact up hl x (q4_st (by omega) (by omega) x hx'))
            generalize insAll m1 (pre2.flatMap (q4 F S p.2 l s)) = m2 at ok2
            refine ⟨_, bindT_fre h8 rfl, ?_⟩
            unfold q4
            have cm := cut_mid (l := l) (a := s) (b := e) (by omega) (by omega)
            by_cases hc : (l.take s, l.drop e) ∈ framesB p.2 F S
            · simp -implicitDefEqProofs [natD, cut_take, cut_drop, nin_fr, hc]
              exact ⟨_, Fre.d, mk⟩
            · simp -implicitDefEqProofs [natD, cm, cut_take, cut_drop, nin_fr, hc, set_put ok2]
              exact ⟨_, Fre.d, mk⟩
          · obtain ⟨s8, h8, q⟩ := q
            have e' := un q
            subst e'
            rw [fold_ins]
            simp -implicitDefEqProofs
            exact ⟨_, Fre.d, _, h8, mk⟩
        · obtain ⟨s7, h7, s8, h8, q⟩ := q
          have e' := un q
          subst e'
          rw [fold_ins]
          simp -implicitDefEqProofs
          exact ⟨_, Fre.d, _, h7, _, h8, mk⟩
      · obtain ⟨s6, h6, s7, h7, s8, h8, q⟩ := q
        have e' := un q
        subst e'
        rw [fold_ins]
        simp -implicitDefEqProofs
        exact ⟨_, Fre.d, _, Bnd.own, _, h6, _, h7, _, h8, _, h9, mk⟩
  · obtain ⟨s4, h4, s5, h5, s6, h6, s7, h7, s8, h8, s9, h9, q⟩ := q
    have e' := un q
    subst e'
    rw [fold_ins]
    simp -implicitDefEqProofs [setX, pairB_eq]
end Tab

set_option maxHeartbeats 1000000
namespace Tab
open PySem PySem.Spec PyProof.Rows L2 Fw
theorem e_lkind_at (B : Bans) (b : BOk B) (a : Str) (n : Nat) (hn : 0 < n) : Pure (cl n) "_law_kind_bans" [bansD B, .str a] (setR (atomB B a)) := by
  obtain ⟨n, rfl⟩ : ∃ m, n = m + 1 := ⟨n - 1, by omega⟩
  refine pure_by (fd := f_law_kind_bans) m_law_kind_bans rfl (Nat.le_of_ble_eq_true rfl) ?_
  obtain ⟨P, hP⟩ : ∃ P : Sl → Sl → List Row → List Sl → Prop, P = fun s5 s6 m ρ => ρ = [.d (.tup (B.map banD)), .d (.str a), .own (.dic (m.map rowI) (m.map fun _ => .bl true)), .no, .no, s5, s6, .no] := ⟨_, rfl⟩
  have mk : ∀ {m s5 s6}, P s5 s6 m [.d (.tup (B.map banD)), .d (.str a), .own (.dic (m.map rowI) (m.map fun _ => .bl true)), .no, .no, s5, s6, .no] := hP ▸ rfl
  have un : ∀ {m s5 s6 ρ}, P s5 s6 m ρ → ρ = [.d (.tup (B.map banD)), .d (.str a), .own (.dic (m.map rowI) (m.map fun _ => .bl true)), .no, .no, s5, s6, .no] := fun h => by rw [hP] at h; exact h
  clear hP
  simp -implicitDefEqProofs [f_law_kind_bans, bansD]
  refine run_fold (S := List Row) (e := banD) (xs := B) (fun m p => insAll m (if p.1 = a then p.2 else [])) [] (fun m ρ => ∃ s5, Fre s5 ∧ ∃ s6, Fre s6 ∧ P s5 s6 m ρ) ⟨_, .no, _, .no, mk (m := [])⟩ (fun pre p post hx ρ q => ?_) fun ρ q => ?_
  · obtain ⟨s5, h5, s6, h6, q⟩ := q
    have e := un q
    subst e
    rw [fold_ins]
    have ok : SOk B (insAll [] (pre.flatMap (fun p => if p.1 = a then p.2 else []))) := SOk.all fun x hx' => by
      obtain ⟨q, hq, hx'⟩ := List.mem_flatMap.mp hx'
      split at hx'
      · have hb : q ∈ B := by rw [hx]; exact List.mem_append_left _ hq
        exact mem_St.mpr ⟨q, hb, x, hx', str_self (b.ln q hb x hx').1⟩
      · cases hx'
    have hp : p ∈ B := by rw [hx]; simp
    generalize insAll [] (pre.flatMap fun p => if p.1 = a then p.2 else []) = m at ok
    have bp : banD p = .tup [.str p.1, .tup (p.2.map rowI)] := rfl
    refine ⟨_, bindT_fre h6 rfl, ?_⟩
    rw [bp]
    by_cases ha : p.1 = a
    · rw [show (if p.1 = a then p.2 else []) = p.2 from if_pos ha]
      simp -implicitDefEqProofs [ha]
      refine run_fold (S := List Row) (e := rowI) (xs := p.2) ins m (fun m ρ => ∃ s5, Fre s5 ∧ P s5 (.d (.tup [.str a, .tup (p.2.map rowI)])) m ρ) ⟨s5, h5, mk⟩ (fun pre' x post' hx' ρ q => ?_) fun ρ q => ?_
      · obtain ⟨s5, h5, q⟩ := q
        have e := un q
        subst e
        rw [show pre'.foldl ins m = insAll m pre' from rfl]
        have ok' : (insAll m pre').length < sizeLine := set_ok b (nd_insAll ok.nd) fun y hy => by
          rcases mem_insAll.mp hy with hy | hy
          · exact ok.st y hy
          · have : y ∈ p.2 := by
              rw [hx']
              exact List.mem_append_left _ hy
            exact mem_St.mpr ⟨p, hp, y, this, str_self (b.ln p hp y this).1⟩
        refine ⟨_, bindT_fre h5 rfl, ?_⟩
        simp -implicitDefEqProofs [set_put ok']
        exact ⟨_, Fre.d, mk⟩
      · obtain ⟨s5, h5, q⟩ := q
        have e := un q
        subst e
        simp -implicitDefEqProofs
        exact ⟨_, h5, _, Fre.d, mk⟩
    · simp -implicitDefEqProofs [ha]
      exact ⟨_, h5, _, Fre.d, mk⟩
  · obtain ⟨s5, h5, s6, h6, q⟩ := q
    have e := un q
    subst e
    rw [fold_ins]
    simp -implicitDefEqProofs [setX, atomB]
theorem e_lkind (B : Bans) (b : BOk B) : ∀ (k : Kd), Wf k → ∀ n, k.dep + 2 < n → Pure (cl n) "_law_kind_bans" [bansD B, k.d] (setR (KB B k))
  | .at s, _, n, hn => e_lkind_at B b s n (by omega)
  | .op c k1 k2, w, n, hn => by
    obtain ⟨n, rfl⟩ : ∃ m, n = m + 1 := ⟨n - 1, by omega⟩
    have hd : (Kd.op c k1 k2).dep = max k1.dep k2.dep + 1 := rfl
    have h1 := e_lkind B b k1 w.2.1 n (by omega)
    have h2 := e_lkind B b k2 w.2.2 n (by omega)
    have h5 := e_lpair B b (KB B k1) (KB B k2) n (by omega)
    have hF := KB_ok b k1
    have hS := KB_ok b k2
    have n1 : ¬ (("/" : Str) = "*") := by decide +kernel
    have n2 : ¬ ((">" : Str) = "*") := by decide +kernel
    have n3 : ¬ ((">" : Str) = "/") := by decide +kernel
    have dd : (Kd.op c k1 k2).d = .tup [.str c, k1.d, k2.d] := rfl
    have kb : KB B (.op c k1 k2) = if c = "/" then overB (KB B k1) (KB B k2) else if c = ">" then underB (KB B k1) (KB B k2) else pairB B (KB B k1) (KB B k2) := rfl
    rw [dd, kb]
    generalize KB B k1 = F at *
    generalize KB B k2 = S at *
    refine pure_by (fd := f_law_kind_bans) m_law_kind_bans rfl (Nat.le_of_ble_eq_true rfl) ?_
    have it : ∀ m : List Row, items (setR m) = some (m.map rowI) := fun _ => rfl
    rcases w.1 with rfl | rfl | rfl
    · rw [if_pos rfl]
      obtain ⟨P, hP⟩ : ∃ P : Sl → Sl → List Row → List Sl → Prop, P = fun s5 s7 m ρ => ρ = [.d (bansD B), .d (.tup [.str "/", k1.d, k2.d]), .own (.dic (m.map rowI) (m.map fun _ => .bl true)), .d (setR F), .d (setR S), s5, .no, s7] := ⟨_, rfl⟩
      have mk : ∀ {m s5 s7}, P s5 s7 m [.d (bansD B), .d (.tup [.str "/", k1.d, k2.d]), .own (.dic (m.map rowI) (m.map fun _ => .bl true)), .d (setR F), .d (setR S), s5, .no, s7] := hP ▸ rfl
      have un : ∀ {m s5 s7 ρ}, P s5 s7 m ρ → ρ = [.d (bansD B), .d (.tup [.str "/", k1.d, k2.d]), .own (.dic (m.map rowI) (m.map fun _ => .bl true)), .d (setR F), .d (setR S), s5, .no, s7] := fun h => by rw [hP] at h; exact h
      clear hP
      simp -implicitDefEqProofs [f_law_kind_bans, call_p2 h1, call_p2 h2, n1, it]
      refine run_fold (S := List Row) (e := rowI) (xs := F) (fun m l => insAll m ((cuts l).flatMap fun c => if l.drop c ∈ S then [] else [l.take c])) [] (fun m ρ => ∃ s5, Fre s5 ∧ ∃ s7, Fre s7 ∧ P s5 s7 m ρ) ⟨_, .no, _, .no, mk (m := [])⟩ (fun pre l post hx ρ q => ?_) fun ρ q => ?_
      · obtain ⟨s5, h5, s7, h7, q⟩ := q
        have e := un q
        subst e
        rw [fold_ins]
        have hl : l ∈ F := by rw [hx]; simp
        have ok : SOk B (insAll [] (pre.flatMap fun l => (cuts l).flatMap fun c => if l.drop c ∈ S then [] else [l.take c])) := SOk.all fun x hx' => by
          obtain ⟨l', hl', hx'⟩ := List.mem_flatMap.mp hx'
          exact over_ok b hF (by rw [hx]; exact List.mem_append_left _ hl') x hx'
        have fin := over_ok b hF (S := S) hl
        generalize insAll [] (pre.flatMap fun l => (cuts l).flatMap fun c => if l.drop c ∈ S then [] else [l.take c]) = m at ok
        have ll := (hF.row b hl).2
        refine ⟨_, bindT_fre h5 rfl, ?_⟩
        simp -implicitDefEqProofs [rowI_len, rng_cuts (l := l) (by omega)]
        refine run_fold (S := List Row) (e := natD) (xs := cuts l) (fun m c => insAll m (if l.drop c ∈ S then [] else [l.take c])) m (fun m ρ => ∃ s7, Fre s7 ∧ P (.d (rowI l)) s7 m ρ) ⟨_, h7, mk⟩ (fun pre' c post' hx' ρ q => ?_) fun ρ q => ?_
        · obtain ⟨s7, h7, q⟩ := q
          have e := un q
          subst e
          rw [fold_ins]
          have ok2 : (insAll m (pre'.flatMap fun c => if l.drop c ∈ S then [] else [l.take c])).length < sizeLine := SOk.len b (ok.more fun x hx2 => fin x (by
            rw [hx', List.flatMap_append]
            exact List.mem_append_left _ hx2))
          generalize insAll m (pre'.flatMap fun c => if l.drop c ∈ S then [] else [l.take c]) = m2 at ok2
          refine ⟨_, bindT_fre h7 rfl, ?_⟩
          by_cases hc : l.drop c ∈ S
          · simp -implicitDefEqProofs [natD, cut_drop, nin_row, hc]
            exact ⟨_, Fre.d, mk⟩
          · simp -implicitDefEqProofs [natD, cut_drop, cut_take, nin_row, hc, set_put ok2]
            exact ⟨_, Fre.d, mk⟩
        · obtain ⟨s7, h7, q⟩ := q
          have e := un q
          subst e
          rw [fold_ins]
          simp -implicitDefEqProofs
          exact ⟨_, Fre.d, _, h7, mk⟩
      · obtain ⟨s5, h5, s7, h7, q⟩ := q
        have e := un q
        subst e
        rw [fold_ins]
        simp -implicitDefEqProofs [setX, overB]
    · rw [if_neg n3, if_pos rfl]
      obtain ⟨P, hP⟩ : ∃ P : Sl → Sl → List Row → List Sl → Prop, P = fun s5 s7 m ρ => ρ = [.d (bansD B), .d (.tup [.str ">", k1.d, k2.d]), .own (.dic (m.map rowI) (m.map fun _ => .bl true)), .d (setR F), .d (setR S), s5, .no, s7] := ⟨_, rfl⟩
      have mk : ∀ {m s5 s7}, P s5 s7 m [.d (bansD B), .d (.tup [.str ">", k1.d, k2.d]), .own (.dic (m.map rowI) (m.map fun _ => .bl true)), .d (setR F), .d (setR S), s5, .no, s7] := hP ▸ rfl
      have un : ∀ {m s5 s7 ρ}, P s5 s7 m ρ → ρ = [.d (bansD B), .d (.tup [.str ">", k1.d, k2.d]), .own (.dic (m.map rowI) (m.map fun _ => .bl true)), .d (setR F), .d (setR S), s5, .no, s7] := fun h => by rw [hP] at h; exact h
      clear hP
      simp -implicitDefEqProofs [f_law_kind_bans, call_p2 h1, call_p2 h2, n2, n3, it]
      refine run_fold (S := List Row) (e := rowI) (xs := S) (fun m l => insAll m ((cuts l).flatMap fun c => if l.take c ∈ F then [] else [l.drop c])) [] (fun m ρ => ∃ s5, Fre s5 ∧ ∃ s7, Fre s7 ∧ P s5 s7 m ρ) ⟨_, .no, _, .no, mk (m := [])⟩ (fun pre l post hx ρ q => ?_) fun ρ q => ?_
      · obtain ⟨s5, h5, s7, h7, q⟩ := q
        have e := un q
        subst e
        rw [fold_ins]
        have hl : l ∈ S := by rw [hx]; simp
        have ok : SOk B (insAll [] (pre.flatMap fun l => (cuts l).flatMap fun c => if l.take c ∈ F then [] else [l.drop c])) := SOk.all fun x hx' => by
          obtain ⟨l', hl', hx'⟩ := List.mem_flatMap.mp hx'
          exact under_ok b hS (by rw [hx]; exact List.mem_append_left _ hl') x hx'
        have fin := under_ok b hS (F := F) hl
        generalize insAll [] (pre.flatMap fun l => (cuts l).flatMap fun c => if l.take c ∈ F then [] else [l.drop c]) = m at ok
        have ll := (hS.row b hl).2
        refine ⟨_, bindT_fre h5 rfl, ?_⟩
        simp -implicitDefEqProofs [rowI_len, rng_cuts (l := l) (by omega)]
        refine run_fold (S := List Row) (e := natD) (xs := cuts l) (fun m c => insAll m (if l.take c ∈ F then [] else [l.drop c])) m (fun m ρ => ∃ s7, Fre s7 ∧ P (.d (rowI l)) s7 m ρ) ⟨_, h7, mk⟩ (fun pre' c post' hx' ρ q => ?_) fun ρ q => ?_
        · obtain ⟨s7, h7, q⟩ := q
          have e := un q
          subst e
          rw [fold_ins]
          have ok2 : (insAll m (pre'.flatMap fun c => if l.take c ∈ F then [] else [l.drop c])).length < sizeLine := SOk.len b (ok.more fun x hx2 => fin x (by
            rw [hx', List.flatMap_append]
            exact List.mem_append_left _ hx2))
          generalize insAll m (pre'.flatMap fun c => if l.take c ∈ F then [] else [l.drop c]) = m2 at ok2
          refine ⟨_, bindT_fre h7 rfl, ?_⟩
          by_cases hc : l.take c ∈ F
          · simp -implicitDefEqProofs [natD, cut_take, nin_row, hc]
            exact ⟨_, Fre.d, mk⟩
          · simp -implicitDefEqProofs [natD, cut_drop, cut_take, nin_row, hc, set_put ok2]
            exact ⟨_, Fre.d, mk⟩
        · obtain ⟨s7, h7, q⟩ := q
          have e := un q
          subst e
          rw [fold_ins]
          simp -implicitDefEqProofs
          exact ⟨_, Fre.d, _, h7, mk⟩
      · obtain ⟨s5, h5, s7, h7, q⟩ := q
        have e := un q
        subst e
        rw [fold_ins]
        simp -implicitDefEqProofs [setX, underB]
    · rw [if_neg (by decide +kernel), if_neg (by decide +kernel)]
      simp -implicitDefEqProofs [f_law_kind_bans, call_p2 h1, call_p2 h2, call_p3 h5]
end Tab

set_option maxHeartbeats 1000000
namespace Tab
open PySem PySem.Spec PyProof.Rows L2 Fw
theorem in_nats (k : Nat) (r : List Nat) : cmpF .In (.int (k : Nat)) (.lst (r.map natD)) = some (decide (k ∈ r)) := by
  have h1 : (r.map natD).all D.flat = true := by
    rw [List.all_map]
    exact List.all_eq_true.mpr fun x _ => rfl
  have h2 : inV (D.int (k : Nat)).v0 ((r.map natD).map D.v0) = decide (k ∈ r) := by
    unfold inV
    rw [List.map_map, List.any_map]
    clear h1
    induction r with
    | nil => rfl
    | cons a r ih =>
      rw [List.any_cons, ih]
      show (decide ((a : Int) = (k : Int)) || _) = _
      by_cases h : a = k
      · subst h; simp
      · have h' : ¬ k = a := fun z => h z.symm
        have h3 : ¬ ((a : Int) = (k : Int)) := by omega
        simp [h', h3]
  show (if (D.int (k : Nat)).flat = true ∧ (r.map natD).all D.flat = true then some (inV (D.int (k : Nat)).v0 ((r.map natD).map D.v0)) else _) = _
  rw [if_pos ⟨rfl, h1⟩, h2]
def rc1 (l : Row) (S : List Row) (e s : Nat) : List Nat := if s < e then (if piece l s e ∈ S then [] else [s]) else []
def rc2 (l : Row) (r : List Nat) (S : List Row) (e : Nat) : List Nat := if 0 < (r.flatMap (rc1 l S e)).length then [e] else []
def stepC (l : Row) (r : List Nat) (S : List Row) : List Nat := (List.range' 1 l.length).flatMap (rc2 l r S)
def endsC (l : Row) (Ss : List (List Row)) : List Nat := Ss.foldl (stepC l) [0]
theorem mem_stepC {l : Row} {r : List Nat} {S : List Row} {e : Nat} : e ∈ stepC l r S ↔ ∃ s ∈ r, s < e ∧ e ≤ l.length ∧ piece l s e ∉ S := by
  unfold stepC rc2
  simp only [List.mem_flatMap, List.mem_range'_1]
  have ne : ∀ e', 0 < (r.flatMap (rc1 l S e')).length ↔ ∃ s ∈ r, s < e' ∧ piece l s e' ∉ S := fun e' => by
    rw [List.length_pos_iff_exists_mem]
    unfold rc1
    simp only [List.mem_flatMap]
    constructor
    · rintro ⟨d, s, hs, hd⟩
      split at hd
      · split at hd
        · cases hd
        · rename_i h1 h2; exact ⟨s, hs, h1, h2⟩
      · cases hd
    · rintro ⟨s, hs, h1, h2⟩
      exact ⟨s, s, hs, by rw [if_pos h1, if_neg h2]; simp⟩
  constructor
  · rintro ⟨e', he, hx⟩
    split at hx
    · rename_i h
      rw [List.mem_singleton.mp hx]
      obtain ⟨s, hs, h1, h2⟩ := (ne e').mp h
      exact ⟨s, hs, h1, by omega, h2⟩
    · cases hx
  · rintro ⟨s, hs, h1, h2, h3⟩
    exact ⟨e, by omega, by rw [if_pos ((ne e).mpr ⟨s, hs, h1, h3⟩)]; simp⟩
theorem mem_foldC {l : Row} {e : Nat} : ∀ {Ss : List (List Row)} {r : List Nat}, e ∈ Ss.foldl (stepC l) r ↔ ∃ s ∈ r, Rc l Ss s e
  | [], r => by
    simp only [List.foldl_nil, Rc]
    exact ⟨fun h => ⟨e, h, rfl⟩, fun ⟨s, h, h2⟩ => h2 ▸ h⟩
  | S :: Ss, r => by
    rw [List.foldl_cons, mem_foldC]
    constructor
    · rintro ⟨t, ht, h⟩
      obtain ⟨s, hs, h1, h2, h3⟩ := mem_stepC.mp ht
      exact ⟨s, hs, t, h1, h2, h3, h⟩
    · rintro ⟨s, hs, t, h1, h2, h3, h⟩
      exact ⟨t, mem_stepC.mpr ⟨s, hs, h1, h2, h3⟩, h⟩
theorem endsC_iff {l : Row} {Ss : List (List Row)} : l.length ∈ endsC l Ss ↔ Spl l Ss := by
  unfold endsC
  rw [mem_foldC]
  have h := Rc_spl (l := l) (Ss := Ss) (s := 0) (Nat.zero_le _)
  rw [List.drop_zero] at h
  rw [← h]
  simp
theorem stepC_len {l : Row} {r : List Nat} {S : List Row} : (stepC l r S).length ≤ l.length := by
  have h1 := flat_len (g := rc2 l r S) (c := 1) (l := List.range' 1 l.length) fun e _ => by unfold rc2; split <;> simp
  rw [List.length_range'] at h1
  exact Nat.le_trans h1 (by omega)
theorem rng_1n {n : Nat} (h : n ≤ 9000) : rngF [.int 1, .int ((n : Int) + 1)] = some ((List.range' 1 n).map natD) := by
  have := rng2 (a := 1) (b := n + 1) (by omega) (by decide)
  rw [show (((n + 1 : Nat) : Int)) = (n : Int) + 1 by omega] at this
  exact this
def CuS (l : Row) (G : D) (r : List Nat) (s3 s4 s5 : Sl) : List Sl := [.d (rowI l), .d G, .d (.lst (r.map natD)), s3, s4, s5, .no]
theorem e_cuttable (l : Row) (hl : l.length ≤ 1000) (Ss : List (List Row)) (n : Nat) (hn : 0 < n) : Pure (cl n) "_law_cuttable" [rowI l, .lst (Ss.map setR)] (.bl (decide (l.length ∈ endsC l Ss))) := by
  obtain ⟨n, rfl⟩ : ∃ m, n = m + 1 := ⟨n - 1, by omega⟩
  refine pure_by (fd := f_law_cuttable) m_law_cuttable rfl (Nat.le_of_ble_eq_true rfl) ?_
  simp -implicitDefEqProofs [f_law_cuttable]
  generalize hG : D.lst (Ss.map setR) = G
  refine run_fold (S := List Nat) (e := setR) (xs := Ss) (stepC l) [0] (fun r ρ => r.length ≤ 1001 ∧ ∃ s3, Fre s3 ∧ ∃ s4, Fre s4 ∧ ∃ s5, Fre s5 ∧ ρ = CuS l G r s3 s4 s5) ⟨by simp, _, .no, _, .no, _, .no, rfl⟩ (fun pre S post hx ρ q => ?_) fun ρ q => ?_
  · obtain ⟨hr, s3, h3, s4, h4, s5, h5, rfl⟩ := q
    generalize pre.foldl (stepC l) [0] = r at hr
    have sl := stepC_len (l := l) (r := r) (S := S)
    refine ⟨_, bindT_fre h3 rfl, ?_⟩
    simp -implicitDefEqProofs [CuS, h4.bo, rowI_len, rng_1n (n := l.length) (by omega)]
    refine run_fold (S := List Nat) (e := natD) (xs := List.range' 1 l.length) (fun acc e => acc ++ rc2 l r S e) [] (fun acc ρ => ∃ s5, Fre s5 ∧ ρ = CuS l G r (.d (setR S)) (.own (.lst (acc.map natD))) s5) ⟨s5, h5, rfl⟩ (fun pre e post hx ρ ⟨s5, h5, er⟩ => ?_) fun ρ ⟨s5, h5, er⟩ => ?_
    · subst er
      have he : 1 ≤ e ∧ e ≤ l.length := by
        have : e ∈ List.range' 1 l.length := by rw [hx]; simp
        rw [List.mem_range'_1] at this
        omega
      have ac : (pre.foldl (fun acc e => acc ++ rc2 l r S e) []).length ≤ 1000 := by
        have e1 : pre.foldl (fun acc e => acc ++ rc2 l r S e) [] = pre.flatMap (rc2 l r S) := by
          rw [List.flatMap_eq_foldl]
        rw [e1]
        have h2 : (pre.flatMap (rc2 l r S)).length ≤ (stepC l r S).length := by
          unfold stepC
          rw [hx, List.flatMap_append, List.length_append]
          omega
        omega
      generalize pre.foldl (fun acc e => acc ++ rc2 l r S e) [] = acc at ac
      refine ⟨_, bindT_fre h5 rfl, ?_⟩
      simp -implicitDefEqProofs [CuS]
      refine run_mapL (g := fun s => (rc1 l S e s).map natD) (fun s hs => ?_) ?_
      · unfold rc1
        by_cases c1 : s < e
        · have cm := cut_mid (l := l) (a := s) (b := e) (by omega) he.2
          rw [show (l.drop s).take (e - s) = piece l s e from rfl] at cm
          by_cases c2 : piece l s e ∈ S
          · simp -implicitDefEqProofs [natD, c1, cm, nin_row, c2]
          · simp -implicitDefEqProofs [natD, c1, cm, nin_row, c2]
        · simp -implicitDefEqProofs [natD, c1]
      · rw [show (r.flatMap fun s => (rc1 l S e s).map natD) = (r.flatMap (rc1 l S e)).map natD from by rw [List.map_flatMap]]
        have wl : (r.flatMap (rc1 l S e)).length ≤ r.length := by
          have := flat_len (g := rc1 l S e) (c := 1) (l := r) fun s _ => by
            unfold rc1
            split
            · split <;> simp
            · simp
          omega
        unfold rc2
        generalize r.flatMap (rc1 l S e) = w at wl
        have z1 : w.length ≤ sizeLine := Nat.le_trans (by omega : _ ≤ 2000) (by decide)
        have z2 : acc.length < sizeLine := Nat.lt_of_le_of_lt (by omega : _ ≤ 2000) (by decide)
        by_cases c1 : 0 < w.length
        · simp -implicitDefEqProofs [z1, c1, z2]
          exact ⟨.d (natD e), Fre.d, by simp [CuS]⟩
        · simp -implicitDefEqProofs [z1, c1]
          exact ⟨.d (natD e), Fre.d, by simp [CuS]⟩
    · subst er
      have e1 : (List.range' 1 l.length).foldl (fun acc e => acc ++ rc2 l r S e) [] = stepC l r S := by
        unfold stepC
        rw [List.flatMap_eq_foldl]
      rw [e1]
      simp -implicitDefEqProofs [CuS]
      exact ⟨by omega, .d (setR S), Fre.d, .d (.lst ((stepC l r S).map natD)), Fre.d, s5, h5, rfl, rfl, rfl⟩
  · obtain ⟨hr, s3, h3, s4, h4, s5, h5, rfl⟩ := q
    have ii := in_nats l.length (endsC l Ss)
    rw [show Ss.foldl (stepC l) [0] = endsC l Ss from rfl]
    generalize endsC l Ss = r at ii
    simp -implicitDefEqProofs [CuS, rowI_len, ii]
def failsC (B : Bans) (l : Line) : Bool := (KB B l.2).any fun x => decide (x.length ∈ endsC x (l.1.map (KB B)))
theorem failsC_iff {B : Bans} {l : Line} : failsC B l = true ↔ ¬ okL B l := by
  unfold failsC okL
  rw [List.any_eq_true]
  simp only [decide_eq_true_eq, endsC_iff]
  constructor
  · rintro ⟨x, hx, h⟩ h2
    exact h2 x hx h
  · intro h
    exact Classical.byContradiction fun h2 => h fun x hx g => h2 ⟨x, hx, g⟩
theorem e_lfails (B : Bans) (b : BOk B) (l : Line) (hL : LnOk l) (n : Nat) (hn : 50 < n) : Pure (cl n) "_law_fails" [bansD B, lineD l] (.bl (failsC B l)) := by
  obtain ⟨n, rfl⟩ : ∃ m, n = m + 1 := ⟨n - 1, by omega⟩
  have ld : lineD l = .tup [.tup (l.1.map Kd.d), l.2.d] := rfl
  have z : l.1.length ≤ sizeLine := Nat.le_trans hL.len (by decide)
  have g2 := e_lkind B b l.2 hL.g.1.1 n (by have := hL.g.2.2; omega)
  refine pure_by (fd := f_law_fails) m_law_fails rfl (Nat.le_of_ble_eq_true rfl) ?_
  rw [ld]
  simp -implicitDefEqProofs [f_law_fails]
  refine run_map1 (h := fun k => setR (KB B k)) (fun k hk => ?_) ?_
  · have g1 := e_lkind B b k (hL.k k hk).1.1 n (by have := (hL.k k hk).2.2; omega)
    simp -implicitDefEqProofs [call_p2 g1]
  · have ed : D.lst (l.1.map fun k => setR (KB B k)) = .lst ((l.1.map (KB B)).map setR) := by rw [List.map_map]; rfl
    simp -implicitDefEqProofs [z, call_p2 g2, show items (setR (KB B l.2)) = some ((KB B l.2).map rowI) from rfl]
    rw [ed]
    refine run_find (fun x => decide (x.length ∈ endsC x (l.1.map (KB B)))) (fun ρ => ∃ s3, Fre s3 ∧ ρ = [.d (bansD B), .d (.tup [.tup (l.1.map Kd.d), l.2.d]), .d (.lst ((l.1.map (KB B)).map setR)), s3, .no]) ⟨_, .no, rfl⟩ (fun x hx ρ ⟨s3, h3, e⟩ => ?_) fun hno ρ ⟨s3, h3, e⟩ => ?_
    · subst e
      have xl := ((KB_ok b l.2).row b hx).2
      have c := e_cuttable x (by omega) (l.1.map (KB B)) n (by omega)
      refine ⟨_, bindT_fre h3 rfl, ?_⟩
      by_cases hc : x.length ∈ endsC x (l.1.map (KB B))
      · have an : failsC B l = true := List.any_eq_true.mpr ⟨x, hx, decide_eq_true hc⟩
        rw [decide_eq_true hc] at c
        generalize D.lst ((l.1.map (KB B)).map setR) = G at c
        simp -implicitDefEqProofs [call_p2 c, an]
      · rw [decide_eq_false hc] at c
        have hc' : decide (x.length ∈ endsC x (l.1.map (KB B))) = false := decide_eq_false hc
        rw [hc']
        generalize D.lst ((l.1.map (KB B)).map setR) = G at c
        simp -implicitDefEqProofs [call_p2 c]
        exact Fre.d
    · subst e
      have an : failsC B l = false := hno
      simp -implicitDefEqProofs [an]
end Tab

set_option maxHeartbeats 1000000
namespace Tab
open PySem PySem.Spec PyProof.Rows L2 Fw
theorem bin_rows {a b : Row} (h : a.length + b.length ≤ 10000) : binF .Add (rowI a) (rowI b) = some (.d (rowI (a ++ b))) := by
  show (if (a.map D.int).length + (b.map D.int).length ≤ sizeLine then _ else _) = _
  rw [if_pos (by rw [List.length_map, List.length_map]; exact Nat.le_trans h szl'), ← List.map_append]
  rfl
theorem take_fl {ps : List Row} : ∀ {i : Nat}, (ps.take i).flatten.length ≤ ps.flatten.length := fun {i} => by
  conv => rhs; rw [← List.take_append_drop i ps]
  rw [List.flatten_append, List.length_append]
  omega
theorem e_shows (B : Bans) (b : BOk B) (l : Line) (hL : LnOk l) (ps : List Row) (hS : Shw B l ps) (n : Nat) (hn : 50 < n) : Pure (cl n) "_law_shows" [bansD B, lineD l, linesD ps] (.bl true) := by
  obtain ⟨n, rfl⟩ : ∃ m, n = m + 1 := ⟨n - 1, by omega⟩
  have pl := hS.len
  have ll := hL.len
  have fl := ((KB_ok b l.2).row b hS.all).2
  have it : (linesD ps).isTy .tuple = some true := rfl
  have ld : lineD l = .tup [.tup (l.1.map Kd.d), l.2.d] := rfl
  refine pure_by (fd := f_law_shows) m_law_shows rfl (Nat.le_of_ble_eq_true rfl) ?_
  have g2 := e_lkind B b l.2 hL.g.1.1 n (by have := hL.g.2.2; omega)
  have a2 := hS.all
  rw [ld]
  simp -implicitDefEqProofs [f_law_shows, it, lin_len, pl]
  rw [rng_n (n := l.1.length) (by omega)]
  simp -implicitDefEqProofs
  refine run_for (fun i ρ => ∃ s4, Fre s4 ∧ ρ = [.d (bansD B), .d (.tup [.tup (l.1.map Kd.d), l.2.d]), .d (linesD ps), .d (rowI (ps.take i).flatten), s4, .no]) ⟨_, .no, rfl⟩ (fun i hi ρ ⟨s4, h4, e⟩ => ?_) fun ρ ⟨s4, h4, e⟩ => ?_
  · subst e
    have hi' : i < l.1.length := by simpa using hi
    have hp : i < ps.length := by omega
    rw [get_of (x := D.int (i : Nat)) (by rw [List.getElem?_map, List.getElem?_range hi']; rfl)]
    obtain ⟨p1, p2⟩ := hS.one i hp hi'
    have a1 : ixF (linesD ps) (.int (i : Nat)) = some (.d (rowI ps[i])) := by
      show (atI (ps.map rowI) (i : Nat)).map _ = _
      rw [atI_map (List.getElem?_eq_getElem hp)]
      rfl
    have a3 := atI_map (f := Kd.d) (xs := l.1) (List.getElem?_eq_getElem hi')
    have hk := hL.k l.1[i] (List.getElem_mem hi')
    have g1 := e_lkind B b l.1[i] hk.1.1 n (by have := hk.2.2; omega)
    have ht : (ps.take (i + 1)).flatten = (ps.take i).flatten ++ ps[i] := by
      rw [List.take_succ_eq_append_getElem hp, List.flatten_append]
      simp
    have tl1 := take_fl (ps := ps) (i := i + 1)
    rw [ht] at tl1 ⊢
    rw [List.length_append] at tl1
    generalize (ps.take i).flatten = acc at tl1
    generalize ps[i] = p at *
    generalize l.1[i] = k at *
    have br := bin_rows (a := acc) (b := p) (by omega)
    have c100 : ¬ ((100 : Int) < p.length) := by omega
    refine ⟨_, bindT_fre h4 rfl, ?_⟩
    have pin : cmpF .In (rowI p) (setR (KB B k)) = some false := by rw [in_row, decide_eq_false p2]
    simp -implicitDefEqProofs [a1, show (rowI p).isTy .tuple = some true from rfl, rowI_len, p1, c100, show items (rowI p) = some (p.map D.int) from rfl]
    refine run_mapL (g := fun _ => []) (fun x hx => ?_) ?_
    · have w := e_is_whole x n (by omega)
      simp -implicitDefEqProofs [call_p1 w]
    · rw [show p.flatMap (fun _ : Int => ([] : List D)) = [] from List.flatMap_eq_nil_iff.mpr fun _ _ => rfl]
      simp -implicitDefEqProofs [a1, a3, call_p2 g1, pin, br]
      exact Fre.d
  · subst e
    rw [List.length_map, List.length_range, ← pl, List.take_length]
    have pin : cmpF .In (rowI ps.flatten) (setR (KB B l.2)) = some true := by rw [in_row, decide_eq_true a2]
    simp -implicitDefEqProofs [call_p2 g2, pin]
theorem e_truth_agrees (B : Bans) (b : BOk B) (l : Line) (hL : LnOk l) (due : Bool) (h : due = true ↔ okL B l) (n : Nat) (hn : 95 < n) : Pure (cl n) "_law_truth_agrees" [bansD B, lineD l, .bl due] (.bl true) := by
  obtain ⟨n, rfl⟩ : ∃ m, n = m + 1 := ⟨n - 1, by omega⟩
  have isnon : cmpF .Is .non .non = some true := rfl
  have tr := e_is_truth due due n (by omega)
  rw [decide_eq_true rfl] at tr
  refine pure_by (fd := f_law_truth_agrees) m_law_truth_agrees rfl (Nat.le_of_ble_eq_true rfl) ?_
  cases due with
  | true =>
    have ok := h.mp rfl
    have H1 := e_holds_t B b l hL ok n (by omega)
    have F1 := e_fail_t B b l hL ok n (by omega)
    simp -implicitDefEqProofs [f_law_truth_agrees, call_p2 H1, call_p2 tr, call_p2 F1, isnon]
  | false =>
    have nok : ¬ okL B l := fun z => by have := h.mpr z; cases this
    have H1 := e_holds_f B b l hL nok n (by omega)
    obtain ⟨ps, hS, F1⟩ := e_fail_f B b l hL nok n (by omega)
    have S1 := e_shows B b l hL ps hS n (by omega)
    simp -implicitDefEqProofs [f_law_truth_agrees, call_p2 H1, call_p2 tr, call_p2 F1, call_p3 S1]
theorem e_all_lines (B : Bans) (b : BOk B) (l : Line) (hL : LnOk l) (n : Nat) (hn : 60 < n) : Pure (cl n) "_law_all_lines" [bansD B, lineD l] (.bl true) := by
  obtain ⟨n, rfl⟩ : ∃ m, n = m + 1 := ⟨n - 1, by omega⟩
  have ld : lineD l = .tup [.tup (l.1.map Kd.d), l.2.d] := rfl
  have z : l.1.length + 1 ≤ sizeLine := Nat.le_trans (by have := hL.len; omega : _ ≤ 2000) (by decide)
  refine pure_by (fd := f_law_all_lines) m_law_all_lines rfl (Nat.le_of_ble_eq_true rfl) ?_
  rw [ld]
  simp -implicitDefEqProofs [f_law_all_lines, z]
  rw [show l.1.map Kd.d ++ [l.2.d] = (l.1 ++ [l.2]).map Kd.d from by rw [List.map_append]; rfl]
  refine run_forx (fun i ρ => ∃ s2, Fre s2 ∧ ρ = [.d (bansD B), .d (.tup [.tup (l.1.map Kd.d), l.2.d]), s2]) ⟨_, .no, rfl⟩ (fun i x hi hx ρ ⟨s2, h2, e⟩ => ?_) fun ρ ⟨s2, h2, e⟩ => ?_
  · subst e
    obtain ⟨k, hk, rfl⟩ := List.mem_map.mp hx
    have ko : GoodK k ∧ k.sz ≤ 300 ∧ k.dep ≤ 40 := by
      rcases List.mem_append.mp hk with h | h
      · exact hL.k k h
      · rw [List.mem_singleton.mp h]; exact hL.g
    have c1 := e_banned_lines B b k ko.1.1 n (by omega)
    have c2 := e_lkind B b k ko.1.1 n (by omega)
    have kl : (KB B k).length ≤ 400000 := Nat.le_trans (nd_le (KB_ok b k).nd (KB_ok b k).st) b.st
    have c3 := e_ord_d (KB B k) kl n (by omega)
    have pl : Pl 2 (linesD (srtR (KB B k))) := .rows _ (by rw [srtR_len]; omega) fun x hx => by
      have := ((KB_ok b k).row b (mem_srtR.mp hx)).2
      omega
    have c4 := e_alike pl n (by omega)
    rw [show D.tup (((KB B k).mergeSort keyLe).map rowI) = linesD (srtR (KB B k)) from rfl] at c1
    generalize linesD (srtR (KB B k)) = R at *
    refine ⟨_, bindT_fre h2 rfl, ?_⟩
    simp -implicitDefEqProofs [call_p2 c1, call_p2 c2, call_p1 c3, call_p2 c4]
    exact Fre.d
  · subst e
    simp -implicitDefEqProofs
end Tab

set_option maxHeartbeats 2000000
namespace Tab
open PySem PySem.Spec PyProof.Rows L2 Fw
/-! ### the table that is drawn -/
def lrows (ls : List Row) : D := .lst (ls.map rowI)
structure TIn (ns : List Str) (i : Nat) (m : Bans) : Prop where
  nd : (m.map (·.1)).Nodup
  sub : ∀ p ∈ m, p.1 ∈ ns
  ls : ∀ p ∈ m, p.2.Nodup ∧ ∀ l ∈ p.2, GoodL l ∧ l.length ≤ 6
  cnt : cnt m ≤ i
theorem TIn.up {ns : List Str} {i j : Nat} {m : Bans} (h : TIn ns i m) (hj : i ≤ j) : TIn ns j m := ⟨h.nd, h.sub, h.ls, Nat.le_trans h.cnt hj⟩
theorem cnt_app {a b : Bans} : cnt (a ++ b) = cnt a + cnt b := by simp [cnt]
theorem TIn.new {ns : List Str} {i : Nat} {m : Bans} (h : TIn ns i m) {s : Str} (hs : s ∈ ns) (hn : s ∉ m.map (·.1)) : TIn ns i (m ++ [(s, [])]) where
  nd := by
    rw [List.map_append]
    exact List.nodup_append.mpr ⟨h.nd, by simp, fun x hx y hy => by
      have : y = s := by simpa using hy
      subst this
      exact fun z => hn (z ▸ hx)⟩
  sub := fun p hp => by
    rcases List.mem_append.mp hp with hp | hp
    · exact h.sub p hp
    · rw [List.mem_singleton.mp hp]; exact hs
  ls := fun p hp => by
    rcases List.mem_append.mp hp with hp | hp
    · exact h.ls p hp
    · rw [List.mem_singleton.mp hp]; exact ⟨List.nodup_nil, fun l hl => by cases hl⟩
  cnt := by rw [cnt_app]; have := h.cnt; simp [Tab.cnt] at this ⊢; omega
/-- one more line under a name -/
def addL (m : Bans) (s : Str) (l : Row) : Bans := m.map fun p => if p.1 = s then (p.1, p.2 ++ [l]) else p
theorem addL_fst {m : Bans} {s : Str} {l : Row} : (addL m s l).map (·.1) = m.map (·.1) := by
  unfold addL
  rw [List.map_map]
  apply List.map_congr_left
  intro p _
  show (if p.1 = s then (p.1, p.2 ++ [l]) else p).1 = p.1
  split <;> rfl
theorem addL_cnt {s : Str} {l : Row} : ∀ {m : Bans}, (m.map (·.1)).Nodup → cnt (addL m s l) ≤ cnt m + 1
  | [], _ => by simp [addL, cnt]
  | p :: m, h => by
    rw [List.map_cons, List.nodup_cons] at h
    have h2 := addL_cnt (s := s) (l := l) (m := m) h.2
    by_cases c : p.1 = s
    · have h3 : addL m s l = m := by
        unfold addL
        conv => rhs; rw [← List.map_id m]
        apply List.map_congr_left
        intro q hq
        have : q.1 ≠ s := fun z => h.1 (by rw [c, ← z]; exact List.mem_map.mpr ⟨q, hq, rfl⟩)
        rw [if_neg this]
        rfl
      have e : addL (p :: m) s l = (p.1, p.2 ++ [l]) :: addL m s l := by
        show (if p.1 = s then (p.1, p.2 ++ [l]) else p) :: addL m s l = _
        rw [if_pos c]
      rw [e, h3]
      simp [cnt]
      omega
    · have e : addL (p :: m) s l = p :: addL m s l := by
        show (if p.1 = s then (p.1, p.2 ++ [l]) else p) :: addL m s l = _
        rw [if_neg c]
      rw [e]
      simp [cnt] at h2 ⊢
      omega
theorem TIn.add {ns : List Str} {i : Nat} {m : Bans} (h : TIn ns i m) {s : Str} {ls : List Row} (hs : lookA s m = some ls) {l : Row} (hl : l ∉ ls) (g : GoodL l) (g6 : l.length ≤ 6) : TIn ns (i + 1) (addL m s l) where
  nd := by rw [addL_fst]; exact h.nd
  sub := fun p hp => by
    obtain ⟨q, hq, rfl⟩ := List.mem_map.mp hp
    split
    · exact h.sub q hq
    · exact h.sub q hq
  ls := fun p hp => by
    obtain ⟨q, hq, rfl⟩ := List.mem_map.mp hp
    by_cases c : q.1 = s
    · rw [if_pos c]
      have hq2 : q.2 = ls := by
        have h1 := look_mem hs
        have h2 : (q.1, q.2) ∈ m := hq
        rw [c] at h2
        have : ∀ {m : Bans}, (m.map (·.1)).Nodup → (s, ls) ∈ m → (s, q.2) ∈ m → q.2 = ls := fun {m} => by
          induction m with
          | nil => intro _ h; cases h
          | cons a m ih =>
            intro nd h1 h2
            rw [List.map_cons, List.nodup_cons] at nd
            rcases List.mem_cons.mp h1 with e1 | k1
            · rcases List.mem_cons.mp h2 with e2 | k2
              · rw [← e1] at e2
                injection e2
              · rw [← e1] at nd
                exact absurd (List.mem_map.mpr ⟨(s, q.2), k2, rfl⟩ : s ∈ m.map (·.1)) nd.1
            · rcases List.mem_cons.mp h2 with e2 | k2
              · rw [← e2] at nd
                exact absurd (List.mem_map.mpr ⟨(s, ls), k1, rfl⟩ : s ∈ m.map (·.1)) nd.1
              · exact ih nd.2 k1 k2
        exact this h.nd h1 h2
      obtain ⟨n1, n2⟩ := h.ls q hq
      refine ⟨List.nodup_append.mpr ⟨n1, by simp, fun x hx y hy => ?_⟩, fun x hx => ?_⟩
      · have : y = l := by simpa using hy
        subst this
        rw [hq2] at hx
        exact fun z => hl (z ▸ hx)
      · rcases List.mem_append.mp hx with hx | hx
        · exact n2 x hx
        · rw [List.mem_singleton.mp hx]; exact ⟨g, g6⟩
    · rw [if_neg c]; exact h.ls q hq
  cnt := Nat.le_trans (addL_cnt h.nd) (by have := h.cnt; omega)
theorem tab_keys (m : Bans) : (m.map fun p => D.str p.1) = (m.map (·.1)).map D.str := by rw [List.map_map]; rfl
theorem putA_add {m : Bans} {s : Str} {ls : List Row} {l : Row} (h : lookA s m = some ls) (nd : (m.map (·.1)).Nodup) : putA m s (ls ++ [l]) = addL m s l := by
  have hm : s ∈ m.map (·.1) := List.mem_map.mpr ⟨_, look_mem h, rfl⟩
  unfold putA addL
  rw [if_pos hm]
  apply List.map_congr_left
  intro p hp
  by_cases c : p.1 = s
  · rw [if_pos c, if_pos c]
    have : ∀ {m : Bans}, (m.map (·.1)).Nodup → (s, ls) ∈ m → p ∈ m → p.2 = ls := fun {m} => by
      induction m with
      | nil => intro _ h; cases h
      | cons a m ih =>
        intro nd h1 h2
        rw [List.map_cons, List.nodup_cons] at nd
        rcases List.mem_cons.mp h1 with e1 | k1
        · rcases List.mem_cons.mp h2 with e2 | k2
          · rw [← e1] at e2; rw [e2]
          · rw [← e1] at nd
            exact absurd (List.mem_map.mpr ⟨p, k2, c⟩ : s ∈ m.map (·.1)) nd.1
        · rcases List.mem_cons.mp h2 with e2 | k2
          · rw [← e2] at nd
            exact absurd (List.mem_map.mpr ⟨(s, ls), k1, c.symm⟩ : p.1 ∈ m.map (·.1)) nd.1
          · exact ih nd.2 k1 k2
    rw [this nd (look_mem h) hp]
  · rw [if_neg c, if_neg c]
theorem cnt_mem {m : Bans} {p : Str × List Row} (h : p ∈ m) : p.2.length ≤ cnt m := by
  unfold cnt
  induction m with
  | nil => cases h
  | cons q m ih =>
    rw [List.map_cons, List.sum_cons]
    rcases List.mem_cons.mp h with rfl | h
    · omega
    · have := ih h; omega

theorem pds_lines (ls : List Row) : SeqAt.shaped (linesD ls).pd = true := by
  obtain ⟨h1, h2⟩ := pds_rows ls
  unfold SeqAt.shaped linesD
  simp only [D.pd, PyData.canLay0, PyData.depth, h1, Bool.true_and]
  exact decide_eq_true (by omega)
theorem nin_lines (l : Row) (ls : List Row) : cmpF .NotIn (rowI l) (linesD ls) = some (!decide (l ∈ ls)) := by
  have any : (ls.map rowI).any (fun z => PyData.eqv z.pd (rowI l).pd) = decide (l ∈ ls) := by
    induction ls with
    | nil => rfl
    | cons a ls ih =>
      rw [List.map_cons, List.any_cons, ih, pd_row, pd_row]
      have e : PyData.eqv (.tuple (rpd a)) (.tuple (rpd l)) = decide (a = l) := by simp [PyData.eqv, eqv_ints]
      rw [e]
      by_cases h : a = l
      · subst h; simp
      · have h' : ¬ l = a := fun z => h z.symm
        simp [h, h']
  have f1 : (rowI l).flat = false := rfl
  show (inF (rowI l) (.tup (ls.map rowI))).map (!·) = _
  have e : inF (rowI l) (.tup (ls.map rowI)) = some (decide (l ∈ ls)) := by
    show (if (rowI l).flat = true ∧ (ls.map rowI).all D.flat = true then some (inV (rowI l).v0 ((ls.map rowI).map D.v0)) else
      if SeqAt.shaped (rowI l).pd = true ∧ SeqAt.shaped (D.tup (ls.map rowI)).pd = true then some ((ls.map rowI).any fun z => PyData.eqv z.pd (rowI l).pd) else none) = _
    rw [if_neg (by rw [f1]; simp), if_pos ⟨shp_row l, pds_lines ls⟩, any]
  rw [e]
  rfl
/-- a table whose values are tuples of lines -/
def tget (m : Bans) (a : Str) : List Row := (lookA a m).getD []
theorem tab_get {m : Bans} {a : Str} : dgetF (.dic (m.map fun p => D.str p.1) (m.map fun p => linesD p.2)) [.str a, .tup []] = some (.d (linesD (tget m a))) := by
  show (if dOk (m.map fun p => D.str p.1) (.str a) then some (Fw.T.d ((dFind (m.map fun p => D.str p.1) (m.map fun p => linesD p.2) (.str a)).getD (.tup []))) else none) = _
  rw [if_pos (by rw [tab_keys]; exact emb_str.ok _ _), emb_str.find (g := linesD)]
  unfold tget
  cases lookA a m <;> rfl
theorem tab_ix2 {m : Bans} {s : Str} {ls : List Row} (h : lookA s m = some ls) : ixF (.dic (m.map fun p => D.str p.1) (m.map fun p => linesD p.2)) (.str s) = some (.d (linesD ls)) := by
  rw [ixF_dic, emb_str.find (g := linesD), if_pos (by rw [tab_keys]; exact emb_str.ok _ _), h]
  rfl
theorem tab_put2 {m : Bans} {s : Str} {ls : List Row} (hl : m.length < sizeLine) : dPutF (m.map fun p => D.str p.1) (m.map fun p => linesD p.2) (.str s) (linesD ls) = some ((putA m s ls).map fun p => .str p.1, (putA m s ls).map fun p => linesD p.2) := emb_str.putM (g := linesD) hl
theorem look_none {s : Str} : ∀ {m : Bans}, lookA s m = none → s ∉ m.map (·.1)
  | [], _ => by simp
  | p :: m, h => by
    unfold lookA at h
    by_cases c : p.1 = s
    · rw [if_pos c] at h; cases h
    · rw [if_neg c] at h
      rw [List.map_cons, List.mem_cons, not_or]
      exact ⟨fun e => c e.symm, look_none h⟩
theorem look_some {p : Str × List Row} : ∀ {m : Bans}, (m.map (·.1)).Nodup → p ∈ m → lookA p.1 m = some p.2
  | [], _, h => by cases h
  | q :: m, nd, h => by
    rw [List.map_cons, List.nodup_cons] at nd
    unfold lookA
    rcases List.mem_cons.mp h with rfl | h
    · rw [if_pos rfl]
    · rw [if_neg fun e => nd.1 (by rw [e]; exact List.mem_map.mpr ⟨p, h, rfl⟩)]
      exact look_some nd.2 h
/-- the table's invariant; every pair has a line -/
structure TbOk (ns : List Str) (i : Nat) (m : Bans) : Prop where
  t : TIn ns i m
  ne : ∀ p ∈ m, p.2 ≠ []
theorem addL_ne {m : Bans} {s : Str} {l : Row} (h : ∀ p ∈ m, p.1 = s ∨ p.2 ≠ []) : ∀ p ∈ addL m s l, p.2 ≠ [] := fun p hp => by
  obtain ⟨q, hq, rfl⟩ := List.mem_map.mp hp
  by_cases c : q.1 = s
  · rw [if_pos c]; simp
  · rw [if_neg c]
    exact (h q hq).resolve_left c
theorem TbOk.put {ns : List Str} {i : Nat} {m : Bans} (h : TbOk ns i m) {s : Str} (hs : s ∈ ns) {l : Row} (hl : l ∉ tget m s) (g : GoodL l) (g6 : l.length ≤ 6) : TbOk ns (i + 1) (putA m s (tget m s ++ [l])) ∧ putA m s (tget m s ++ [l]) ≠ [] := by
  unfold tget at hl ⊢
  cases e : lookA s m with
  | some ls =>
    rw [e] at hl
    rw [show (some ls).getD [] = ls from rfl] at hl ⊢
    rw [putA_add e h.t.nd]
    refine ⟨⟨h.t.add e hl g g6, addL_ne fun p hp => .inr (h.ne p hp)⟩, fun z => ?_⟩
    have := look_mem e
    have h2 : (addL m s l).length = m.length := by simp [addL]
    rw [z] at h2
    have := List.length_pos_of_mem this
    simp at h2
    omega
  | none =>
    have hn := look_none e
    have h1 := h.t.new hs hn
    have e1 : lookA s (m ++ [(s, [])]) = some [] := look_some (p := (s, [])) h1.nd (by simp)
    have e2 : putA m s ((none : Option (List Row)).getD [] ++ [l]) = addL (m ++ [(s, [])]) s l := by
      show putA m s [l] = _
      unfold putA addL
      rw [if_neg hn, List.map_append]
      congr 1
      · conv => lhs; rw [← List.map_id m]
        apply List.map_congr_left
        intro p hp
        rw [if_neg fun z => hn (by rw [← z]; exact List.mem_map.mpr ⟨p, hp, rfl⟩)]
        rfl
      · simp
    rw [e2]
    refine ⟨⟨h1.add e1 (by simp) g g6, addL_ne fun p hp => ?_⟩, fun z => ?_⟩
    · rcases List.mem_append.mp hp with hp | hp
      · exact .inr (h.ne p hp)
      · rw [List.mem_singleton.mp hp]; exact .inl rfl
    · have h2 : (addL (m ++ [(s, [])]) s l).length = m.length + 1 := by simp [addL]
      rw [z] at h2
      simp at h2
def TbI (ns : List Str) (i : Nat) (t : Bans) : Prop := TbOk ns i t ∧ (1 ≤ i → t ≠ [])
def BlS (o : O) (ns : List Str) (many wide : Nat) (ms : List Int) (m : Bans) (s5 s7 s8 : Sl) : List Sl := [.bor o, .d (.lst (ns.map .str)), .d (.int (many : Nat)), .d (.int (wide : Nat)), .own (.lst (ms.map .int)), s5, .own (.dic (m.map fun p => .str p.1) (m.map fun p => linesD p.2)), s7, s8, .no]
theorem e_ban_list (ns : List Str) (hns : 1 ≤ ns.length) (hns2 : ns.length ≤ 100) (many wide : Nat) (h1 : many ≤ 100) (h2 : 1 ≤ wide) (h3 : wide ≤ 6) (o : O) (m : Int) (hp : PoolIn m o) (hm : m ≤ 1000000) (n : Nat) (hn : 2 < n) :
    ∃ r o', ((∃ B : Bans, r = bansD B ∧ TbOk ns many B ∧ (1 ≤ many → B ≠ [])) ∧ PoolIn (m + 5000) o') ∧ Pol (cl n) "_law_ban_list" o [.lst (ns.map .str), .int (many : Nat), .int (wide : Nat)] r o' := by
  obtain ⟨n, rfl⟩ : ∃ m, n = m + 1 := ⟨n - 1, by omega⟩
  obtain ⟨r1, o1, q1, p1, c1⟩ := e_take o m hp (by omega) 2 (by decide) (by decide) n (by omega)
  obtain ⟨v1, v1a, v1b, x1⟩ : ∃ v : Int, 0 ≤ v ∧ v ≤ 999999 ∧ atI [D.int 0, .int 999999] (r1 : Nat) = some (.int v) := by
    match r1, q1 with
    | 0, _ => exact ⟨0, by decide, by decide, atI_0⟩
    | 1, _ => exact ⟨999999, by decide, by decide, atI_1⟩
  obtain ⟨r2, o2, q2, p2, c2⟩ := e_take o1 _ p1 (by omega) 3 (by decide) (by decide) n (by omega)
  refine polx_by (fd := f_law_ban_list) m_law_ban_list rfl (Nat.le_of_ble_eq_true rfl) ?_
  simp -implicitDefEqProofs at c1 c2
  simp -implicitDefEqProofs [f_law_ban_list, call_b1 c1, x1, call_b1 c2, rng_n (n := r2) (by omega)]
  refine run_for (fun i ρ => ∃ o', PoolIn (m + 2 + 2 * i) o' ∧ ∃ ms : List Int, (ms.length = i + 1 ∧ ∀ x ∈ ms, 0 ≤ x ∧ x ≤ 999999) ∧ ∃ s5, Fre s5 ∧ ρ = [.bor o', .d (.lst (ns.map .str)), .d (.int (many : Nat)), .d (.int (wide : Nat)), .own (.lst (ms.map .int)), s5, .no, .no, .no, .no]) ⟨o2, p2.up (by omega), [v1], ⟨rfl, fun x hx => by rw [List.mem_singleton.mp hx]; exact ⟨v1a, v1b⟩⟩, .no, .no, rfl⟩
    (fun i hi ρ ⟨o', hpp, ms, ⟨hl, hx⟩, s5, h5, e⟩ => ?_) fun ρ ⟨o', hpp, ms, ⟨hl, hx⟩, s5, h5, e⟩ => ?_
  · subst e
    have hi' : i < r2 := by simpa using hi
    rw [get_of (x := natD i) (by rw [List.getElem?_map, List.getElem?_range hi']; rfl)]
    obtain ⟨r3, o3, q3, p3, c3⟩ := e_take o' _ hpp (by omega) 2 (by decide) (by decide) n (by omega)
    obtain ⟨c, hc, x3⟩ : ∃ c : Nat, (1 ≤ c ∧ c ≤ 1000000) ∧ atI [D.int 1000000, .int 4] (r3 : Nat) = some (.int (c : Nat)) := by
      match r3, q3 with
      | 0, _ => exact ⟨1000000, by decide, atI_0⟩
      | 1, _ => exact ⟨4, by decide, atI_1⟩
    obtain ⟨r4, o4, q4, p4, c4⟩ := e_take o3 _ p3 (by omega) c hc.1 (by omega) n (by omega)
    have z : ms.length < sizeLine := Nat.lt_of_le_of_lt (by omega : _ ≤ 100) (by decide)
    refine ⟨_, bindT_fre h5 rfl, ?_⟩
    simp -implicitDefEqProofs at c3
    simp -implicitDefEqProofs [call_b1 c3, x3, call_b1 c4, z]
    refine ⟨o4, p4.up (by omega), ms ++ [(r4 : Int)], ⟨by simp [hl], fun x hx' => ?_⟩, .d (natD i), Fre.d, rfl, by simp, rfl⟩
    rcases List.mem_append.mp hx' with h | h
    · exact hx x h
    · rw [List.mem_singleton.mp h]; omega
  · subst e
    rw [List.length_map, List.length_range] at hpp hl
    simp -implicitDefEqProofs [rng_n (n := many) (by omega)]
    refine run_for (fun i ρ => ∃ o', PoolIn (m + 10 + 20 * i) o' ∧ ∃ t : Bans, TbI ns i t ∧ ∃ s5, Fre s5 ∧ ∃ s7, Fre s7 ∧ ∃ s8, Fre s8 ∧ ρ = BlS o' ns many wide ms t s5 s7 s8) ⟨o', hpp.up (by omega), [], ⟨⟨⟨by simp, by simp, by simp, by simp [cnt]⟩, by simp⟩, by omega⟩, s5, h5, .no, .no, .no, .no, rfl⟩
      (fun i hi ρ ⟨o', hpp, t, ⟨ht, hne⟩, s5, h5, s7, h7, s8, h8, e⟩ => ?_) fun ρ ⟨o', hpp, t, ⟨ht, hne⟩, s5, h5, s7, h7, s8, h8, e⟩ => ?_
    · subst e
      have hi' : i < many := by simpa using hi
      rw [get_of (x := natD i) (by rw [List.getElem?_map, List.getElem?_range hi']; rfl)]
      obtain ⟨r3, o3, q3, p3, c3⟩ := e_take o' _ hpp (by omega) ns.length (by omega) (by omega) n (by omega)
      have a3 := atI_map (f := D.str) (List.getElem?_eq_getElem q3)
      have hs : ns[r3] ∈ ns := List.getElem_mem q3
      generalize ns[r3] = s at a3 hs
      obtain ⟨r4, o4, q4, p4, c4⟩ := e_take o3 _ p3 (by omega) wide h2 (by omega) n (by omega)
      refine ⟨_, bindT_fre h5 rfl, ?_⟩
      simp -implicitDefEqProofs [BlS, call_b1 c3, a3, h7.bo, call_b1 c4, show rngF [.int (1 + (r4 : Int))] = some ((List.range (r4 + 1)).map natD) from by rw [show (1 + (r4 : Int)) = ((r4 + 1 : Nat) : Int) by omega]; exact rng_n (by omega)]
      refine run_turns (fun j acc ρ => ∃ o' l, PoolIn (m + 10 + 20 * i + 2 + j) o' ∧ acc = l.map D.int ∧ l.length = j ∧ (∀ x ∈ l, x ∈ ms) ∧ ρ = BlS o' ns many wide ms t (.d (natD i)) (.d (.str s)) s8) ⟨o4, [], p4.up (by omega), rfl, rfl, by simp, rfl⟩
        (fun j hj acc ρ ⟨o', l, hpp, ha, hl', hx', e⟩ => ?_) fun acc ρ ⟨o', l, hpp, ha, hl', hx', e⟩ => ?_
      · subst e ha
        have hj' : j < r4 + 1 := by simpa using hj
        rw [get_of (x := D.int (j : Nat)) (by rw [List.getElem?_map, List.getElem?_range hj']; rfl)]
        obtain ⟨r5, o5, q5, p5, c5⟩ := e_take o' _ hpp (by omega) ms.length (by omega) (by omega) n (by omega)
        have a5 := atI_map (f := D.int) (List.getElem?_eq_getElem q5)
        simp -implicitDefEqProofs [BlS, call_b1 c5, a5]
        refine ⟨o5, p5.up (by omega), l ++ [ms[r5]], by simp, by simp [hl'], fun x hx'' => ?_, rfl⟩
        rcases List.mem_append.mp hx'' with h | h
        · exact hx' x h
        · rw [List.mem_singleton.mp h]; exact List.getElem_mem _
      · subst e ha
        rw [List.length_map, List.length_range] at hl' hpp
        have z2 : l.length ≤ sizeLine := Nat.le_trans (by omega : _ ≤ 100) (by decide)
        have gl : GoodL l := ⟨fun e => by rw [e] at hl'; simp at hl', by omega, fun x hx'' => hx x (hx' x hx'')⟩
        have tg := tab_get (m := t) (a := s)
        have ni := nin_lines l (tget t s)
        have tl : t.length < sizeLine := by
          have h1 := nd_le ht.t.nd fun x hx => by
            obtain ⟨p, hp, rfl⟩ := List.mem_map.mp hx
            exact ht.t.sub p hp
          rw [List.length_map] at h1
          exact Nat.lt_of_le_of_lt (by omega : _ ≤ 100) (by decide)
        have rd : D.tup (l.map D.int) = rowI l := rfl
        by_cases hin : l ∈ tget t s
        · rw [decide_eq_true hin] at ni
          have tne : t ≠ [] := fun e => by rw [e] at hin; cases hin
          generalize tget t s = ls at tg ni hin
          simp -implicitDefEqProofs [BlS, z2, h8.bo, tg, rd, ni]
          exact ⟨o', hpp.up (by omega), t, ⟨⟨ht.t.up (by omega), ht.ne⟩, fun _ => tne⟩, _, Fre.d, _, Fre.d, _, Fre.d, rfl, rfl, ⟨rfl, rfl⟩, rfl, rfl⟩
        · rw [decide_eq_false hin] at ni
          have pt := ht.put hs hin gl (by omega)
          have tp := tab_put2 (s := s) (ls := tget t s ++ [l]) tl
          have lsl : (tget t s).length + 1 ≤ sizeLine := by
            have : (tget t s).length ≤ 100 := by
              unfold tget
              cases e : lookA s t with
              | none => simp
              | some ls =>
                have h1 := cnt_mem (look_mem e)
                have h2 := ht.t.cnt
                show ls.length ≤ 100
                have h3 : ls.length ≤ cnt t := h1
                omega
            exact Nat.le_trans (by omega : _ ≤ 200) (by decide)
          have la : linesD (tget t s ++ [l]) = .tup ((tget t s).map rowI ++ [rowI l]) := by unfold linesD; rw [List.map_append]; rfl
          have lu : linesD (tget t s) = .tup ((tget t s).map rowI) := rfl
          rw [la] at tp
          rw [lu] at tg ni
          generalize putA t s (tget t s ++ [l]) = t' at pt tp
          generalize tget t s = ls at tg ni tp lsl
          simp -implicitDefEqProofs [BlS, z2, h8.bo, tg, rd, ni, lsl, tp]
          exact ⟨o', hpp.up (by omega), t', ⟨pt.1, fun _ => pt.2⟩, _, Fre.d, _, Fre.d, _, Fre.d, rfl, rfl, ⟨rfl, rfl⟩, rfl, rfl⟩
    · subst e
      rw [List.length_map, List.length_range] at hpp ht hne
      have tl : t.length ≤ sizeLine := by
        have h1 := nd_le ht.t.nd fun x hx => by
          obtain ⟨p, hp, rfl⟩ := List.mem_map.mp hx
          exact ht.t.sub p hp
        rw [List.length_map] at h1
        exact Nat.le_trans (by omega : _ ≤ 100) (by decide)
      simp -implicitDefEqProofs [BlS, h7.nw]
      rw [show (t.map fun p => D.str p.1) = (t.map fun p => p).map (fun p : Str × List Row => D.str p.1) from by rw [List.map_id']]
      refine run_map1 (h := banD) (fun p hp' => ?_) ?_
      · have ix := tab_ix2 (look_some ht.t.nd (by simpa using hp'))
        simp -implicitDefEqProofs [ix, banD]
      · simp -implicitDefEqProofs [tl]
        exact ⟨⟨t, rfl, ht, hne⟩, hpp.up (by omega)⟩
end Tab

set_option maxHeartbeats 400000
namespace Tab
open PySem PySem.Spec PyProof.Rows L2 Fw
/-! ### the sets by rows put together -/
theorem take_ne {l : Row} {c : Nat} (h : 1 ≤ c) (h' : c ≤ l.length) : l.take c ≠ [] := fun e => by
  have := congrArg List.length e
  rw [List.length_take, List.length_nil] at this
  omega
theorem drop_ne {l : Row} {c : Nat} (h : c < l.length) : l.drop c ≠ [] := fun e => by
  have := congrArg List.length e
  rw [List.length_drop, List.length_nil] at this
  omega
theorem over_app {F S : List Row} {x : Row} : x ∈ overB F S ↔ x ≠ [] ∧ ∃ y, y ≠ [] ∧ y ∉ S ∧ x ++ y ∈ F := by
  rw [mem_over]
  constructor
  · rintro ⟨l, hl, c, c1, c2, h, rfl⟩
    exact ⟨take_ne c1 (by omega), l.drop c, drop_ne c2, h, by rw [List.take_append_drop]; exact hl⟩
  · rintro ⟨h1, y, h2, h3, h4⟩
    have l1 : 1 ≤ x.length := by cases x <;> simp_all
    have l2 : 1 ≤ y.length := by cases y <;> simp_all
    exact ⟨x ++ y, h4, x.length, l1, by simp; omega, by simpa using h3, by simp⟩
theorem under_app {F S : List Row} {x : Row} : x ∈ underB F S ↔ x ≠ [] ∧ ∃ y, y ≠ [] ∧ y ∉ F ∧ y ++ x ∈ S := by
  rw [mem_under]
  constructor
  · rintro ⟨l, hl, c, c1, c2, h, rfl⟩
    exact ⟨drop_ne c2, l.take c, take_ne c1 (by omega), h, by rw [List.take_append_drop]; exact hl⟩
  · rintro ⟨h1, y, h2, h3, h4⟩
    have l1 : 1 ≤ x.length := by cases x <;> simp_all
    have l2 : 1 ≤ y.length := by cases y <;> simp_all
    exact ⟨y ++ x, h4, y.length, l2, by simp; omega, by simpa using h3, by simp⟩
theorem allowed_app {x : Row} {F S : List Row} : allowed x F S = true ↔ ∃ a b, a ≠ [] ∧ b ≠ [] ∧ a ∉ F ∧ b ∉ S ∧ x = a ++ b := by
  rw [allowed_iff]
  constructor
  · rintro ⟨c, c1, c2, h1, h2⟩
    exact ⟨x.take c, x.drop c, take_ne c1 (by omega), drop_ne c2, h1, h2, by rw [List.take_append_drop]⟩
  · rintro ⟨a, b, h1, h2, h3, h4, rfl⟩
    have l1 : 1 ≤ a.length := by cases a <;> simp_all
    have l2 : 1 ≤ b.length := by cases b <;> simp_all
    exact ⟨a.length, l1, by simp; omega, by simpa using h3, by simpa using h4⟩
theorem frames_app {ls : List Row} {F S : List Row} {u v : Row} : (u, v) ∈ framesB ls F S ↔ ∃ a b, a ≠ [] ∧ b ≠ [] ∧ a ∉ F ∧ b ∉ S ∧ u ++ (a ++ b) ++ v ∈ ls := by
  rw [mem_frames]
  constructor
  · rintro ⟨l, hl, s, e, h1, h2, h3, rfl, rfl⟩
    obtain ⟨a, b, g1, g2, g3, g4, g5⟩ := allowed_app.mp h3
    refine ⟨a, b, g1, g2, g3, g4, ?_⟩
    rw [← g5]
    have : l.take s ++ (l.drop s).take (e - s) ++ l.drop e = l := by
      have h4 : l.drop e = (l.drop s).drop (e - s) := by rw [List.drop_drop]; congr 1; omega
      rw [h4, List.append_assoc, List.take_append_drop, List.take_append_drop]
    rw [this]
    exact hl
  · rintro ⟨a, b, g1, g2, g3, g4, h⟩
    have l1 : 1 ≤ a.length := by cases a <;> simp_all
    have l2 : 1 ≤ b.length := by cases b <;> simp_all
    refine ⟨u ++ (a ++ b) ++ v, h, u.length, u.length + (a ++ b).length, by simp only [List.length_append]; omega, by simp only [List.length_append]; omega, ?_, by simp, by simp⟩
    rw [allowed_app]
    refine ⟨a, b, g1, g2, g3, g4, ?_⟩
    rw [List.append_assoc, List.drop_left, Nat.add_sub_cancel_left]
    exact List.take_left
theorem pair_app {B : Bans} {F S : List Row} {x : Row} : x ∈ pairB B F S ↔ x ≠ [] ∧ ∃ p ∈ B, ∃ u v, u ++ x ++ v ∈ p.2 ∧ (u, v) ∉ framesB p.2 F S := by
  rw [mem_pair]
  constructor
  · rintro ⟨p, hp, l, hl, s, e, h1, h2, h3, rfl⟩
    refine ⟨fun z => ?_, p, hp, l.take s, l.drop e, ?_, h3⟩
    · have := congrArg List.length z
      simp at this
      omega
    · have : l.take s ++ (l.drop s).take (e - s) ++ l.drop e = l := by
        have h4 : l.drop e = (l.drop s).drop (e - s) := by rw [List.drop_drop]; congr 1; omega
        rw [h4, List.append_assoc, List.take_append_drop, List.take_append_drop]
      rw [this]
      exact hl
  · rintro ⟨h, p, hp, u, v, h1, h2⟩
    have l1 : 1 ≤ x.length := by cases x <;> simp_all
    refine ⟨p, hp, u ++ x ++ v, h1, u.length, u.length + x.length, by omega, by simp, ?_, by simp⟩
    simpa using h2
theorem mem_o {B : Bans} {a b : Kd} {x : Row} : x ∈ KB B (.op "/" a b) ↔ x ≠ [] ∧ ∃ y, y ≠ [] ∧ y ∉ KB B b ∧ x ++ y ∈ KB B a := by
  rw [KB_o]; exact over_app
theorem mem_u {B : Bans} {a b : Kd} {x : Row} : x ∈ KB B (.op ">" b a) ↔ x ≠ [] ∧ ∃ y, y ≠ [] ∧ y ∉ KB B b ∧ y ++ x ∈ KB B a := by
  rw [KB_u]; exact under_app
theorem mem_p {B : Bans} {a b : Kd} {x : Row} : x ∈ KB B (.op "*" a b) ↔ x ≠ [] ∧ ∃ p ∈ B, ∃ u v, u ++ x ++ v ∈ p.2 ∧ (u, v) ∉ framesB p.2 (KB B a) (KB B b) := by
  rw [KB_p]; exact pair_app
/-- what is banned round an allowed pair is banned round a row of two allowed ones -/
theorem closed {B : Bans} {a b : Kd} {w : Row} (hw : w ≠ []) (hn : w ∉ KB B (.op "*" a b)) : ∀ (c : Kd), Wf c → ∀ p q : Row, p ++ w ++ q ∈ KB B c → ∃ y z, y ≠ [] ∧ z ≠ [] ∧ y ∉ KB B a ∧ z ∉ KB B b ∧ p ++ (y ++ z) ++ q ∈ KB B c := by
  have line : ∀ pr ∈ B, ∀ p q : Row, p ++ w ++ q ∈ pr.2 → ∃ y z, y ≠ [] ∧ z ≠ [] ∧ y ∉ KB B a ∧ z ∉ KB B b ∧ p ++ (y ++ z) ++ q ∈ pr.2 := fun pr hpr p q h => by
    have hf : (p, q) ∈ framesB pr.2 (KB B a) (KB B b) := Classical.byContradiction fun hf => hn (mem_p.mpr ⟨hw, pr, hpr, p, q, h, hf⟩)
    exact frames_app.mp hf
  intro c
  induction c with
  | «at» s =>
    intro _ p q h
    obtain ⟨pr, hpr, e, hl⟩ := mem_atomB.mp (show p ++ w ++ q ∈ atomB B s from h)
    obtain ⟨y, z, h1, h2, h3, h4, h5⟩ := line pr hpr p q hl
    exact ⟨y, z, h1, h2, h3, h4, mem_atomB.mpr ⟨pr, hpr, e, h5⟩⟩
  | op sg c1 c2 ih1 ih2 =>
    intro wf p q h
    have nn : ∀ y z : Row, y ≠ [] → p ++ (y ++ z) ++ q ≠ [] := fun y z hy e => by
      have := congrArg List.length e
      simp at this
      exact hy this.2.1
    rcases wf.1 with rfl | rfl | rfl
    · obtain ⟨_, t, t1, t2, t3⟩ := mem_o.mp h
      obtain ⟨y, z, h1, h2, h3, h4, h5⟩ := ih1 wf.2.1 p (q ++ t) (by rw [← List.append_assoc]; exact t3)
      exact ⟨y, z, h1, h2, h3, h4, mem_o.mpr ⟨nn y z h1, t, t1, t2, by rw [← List.append_assoc] at h5; exact h5⟩⟩
    · obtain ⟨_, t, t1, t2, t3⟩ := mem_u.mp h
      obtain ⟨y, z, h1, h2, h3, h4, h5⟩ := ih2 wf.2.2 (t ++ p) q (by rw [List.append_assoc, List.append_assoc]; rw [List.append_assoc] at t3; exact t3)
      exact ⟨y, z, h1, h2, h3, h4, mem_u.mpr ⟨nn y z h1, t, t1, t2, by simp only [List.append_assoc] at h5 ⊢; exact h5⟩⟩
    · obtain ⟨_, pr, hpr, u, v, t1, t2⟩ := mem_p.mp h
      obtain ⟨y, z, h1, h2, h3, h4, h5⟩ := line pr hpr (u ++ p) (q ++ v) (by simp only [List.append_assoc] at t1 ⊢; exact t1)
      exact ⟨y, z, h1, h2, h3, h4, mem_p.mpr ⟨nn y z h1, pr, hpr, u, v, by simp only [List.append_assoc] at h5 ⊢; exact h5, t2⟩⟩
/-! ### rows made up of pieces -/
theorem spl_app {Ts : List (List Row)} : ∀ {Ss : List (List Row)} {x : Row}, Spl x (Ss ++ Ts) ↔ ∃ a b, x = a ++ b ∧ Spl a Ss ∧ Spl b Ts
  | [], x => by
    constructor
    · exact fun h => ⟨[], x, rfl, rfl, h⟩
    · rintro ⟨a, b, rfl, h, h2⟩
      have : a = [] := h
      subst this
      exact h2
  | S :: Ss, x => by
    constructor
    · rintro ⟨a, b, rfl, h1, h2, h3⟩
      obtain ⟨c, d, rfl, h4, h5⟩ := spl_app.mp h3
      exact ⟨a ++ c, d, by rw [List.append_assoc], ⟨a, c, rfl, h1, h2, h4⟩, h5⟩
    · rintro ⟨a, b, rfl, ⟨c, d, rfl, h1, h2, h3⟩, h4⟩
      exact ⟨c, d ++ b, by rw [List.append_assoc], h1, h2, spl_app.mpr ⟨d, b, rfl, h3, h4⟩⟩
theorem spl_one {S : List Row} {x : Row} : Spl x [S] ↔ x ≠ [] ∧ x ∉ S := by
  constructor
  · rintro ⟨a, b, rfl, h1, h2, h3⟩
    have : b = [] := h3
    subst this
    rw [List.append_nil]
    exact ⟨h1, h2⟩
  · exact fun h => ⟨x, [], by simp, h.1, h.2, rfl⟩
theorem spl_two {S T : List Row} {x : Row} : Spl x [S, T] ↔ ∃ a b, x = a ++ b ∧ a ≠ [] ∧ b ≠ [] ∧ a ∉ S ∧ b ∉ T := by
  constructor
  · rintro ⟨a, b, rfl, h1, h2, h3⟩
    obtain ⟨h4, h5⟩ := spl_one.mp h3
    exact ⟨a, b, rfl, h1, h4, h2, h5⟩
  · rintro ⟨a, b, rfl, h1, h2, h3, h4⟩
    exact ⟨a, b, rfl, h1, h3, spl_one.mpr ⟨h2, h4⟩⟩
theorem spl_ne {S : List Row} {Ss : List (List Row)} {x : Row} (h : Spl x (S :: Ss)) : x ≠ [] := by
  have := spl_len h
  rintro rfl
  simp at this
/-! ### moves -/
theorem ok_over {B : Bans} {row : List Kd} {a b : Kd} (hr : row ≠ []) : okL B (row, .op "/" a b) ↔ okL B (row ++ [b], a) := by
  unfold okL
  simp only [List.map_append, List.map_cons, List.map_nil]
  constructor
  · intro h z hz hs
    obtain ⟨x, y, rfl, h1, h2⟩ := spl_app.mp hs
    obtain ⟨h3, h4⟩ := spl_one.mp h2
    refine h x (mem_o.mpr ⟨?_, y, h3, h4, hz⟩) h1
    cases row with
    | nil => exact absurd rfl hr
    | cons k r => exact spl_ne h1
  · intro h x hx hs
    obtain ⟨_, y, h1, h2, h3⟩ := mem_o.mp hx
    exact h (x ++ y) h3 (spl_app.mpr ⟨x, y, rfl, hs, spl_one.mpr ⟨h1, h2⟩⟩)
theorem ok_under {B : Bans} {row : List Kd} {a b : Kd} (hr : row ≠ []) : okL B (row, .op ">" b a) ↔ okL B (b :: row, a) := by
  unfold okL
  simp only [List.map_cons]
  constructor
  · rintro h z hz ⟨y, x, rfl, h3, h4, h1⟩
    refine h x (mem_u.mpr ⟨?_, y, h3, h4, hz⟩) h1
    cases row with
    | nil => exact absurd rfl hr
    | cons k r => exact spl_ne h1
  · intro h x hx hs
    obtain ⟨_, y, h1, h2, h3⟩ := mem_u.mp hx
    exact h (y ++ x) h3 ⟨y, x, rfl, h1, h2, hs⟩
theorem ok_pair {B : Bans} {u v : List Kd} {a b c : Kd} (wf : Wf c) : okL B (u ++ .op "*" a b :: v, c) ↔ okL B (u ++ a :: b :: v, c) := by
  unfold okL
  simp only [List.map_append, List.map_cons]
  constructor
  · intro h x hx hs
    obtain ⟨p, t, rfl, h1, ⟨y, r, rfl, g1, g2, ⟨z, q, rfl, g3, g4, h2⟩⟩⟩ := spl_app.mp hs
    refine h _ hx (spl_app.mpr ⟨p, y ++ (z ++ q), rfl, h1, y ++ z, q, by rw [List.append_assoc], by simp [g1], fun hm => ?_, h2⟩)
    obtain ⟨_, pr, hpr, e, f, t1, t2⟩ := mem_p.mp hm
    exact t2 (frames_app.mpr ⟨y, z, g1, g3, g2, g4, t1⟩)
  · intro h x hx hs
    obtain ⟨p, t, rfl, h1, ⟨w, q, rfl, g1, g2, h2⟩⟩ := spl_app.mp hs
    obtain ⟨y, z, k1, k2, k3, k4, k5⟩ := closed g1 g2 c wf p q (by rw [List.append_assoc]; exact hx)
    refine h _ k5 (spl_app.mpr ⟨p, y ++ (z ++ q), by simp only [List.append_assoc], h1, y, z ++ q, rfl, k1, k3, z, q, rfl, k2, k4, h2⟩)
end Tab

set_option maxHeartbeats 1000000
namespace Tab
open PySem PySem.Spec PyProof.Rows L2 Fw
theorem cut_neg1 {α : Type} {xs : List α} {x : α} : Fw.cutD (xs ++ [x]) none (some (-1)) = xs := by
  unfold Fw.cutD
  rw [HT.sIx_none]
  have : HT.sIx (xs ++ [x]).length (xs ++ [x]).length (some (-1)) = xs.length := by
    unfold HT.sIx
    simp
    try omega
  rw [this]
  simp
theorem atI_neg1 {α : Type} {xs : List α} {x : α} : atI (xs ++ [x]) (-1) = some x := atI_last
/-- a derivation's row and goal, whatever stands in it -/
def PapD (d : D) (l : Line) : Prop := ∃ (rule : Str) (at_ w : Int) (parts : List D), d = .tup [.str rule, .tup (l.1.map Kd.d), l.2.d, .int at_, .int w, .tup parts]
/-- what has a derivation -/
inductive Der : List Kd → Kd → Prop
  | ax (s : Str) : Der [.at s] (.at s)
  | overR {row : List Kd} {a b : Kd} : row ≠ [] → Der (row ++ [b]) a → Der row (.op "/" a b)
  | underR {row : List Kd} {a b : Kd} : row ≠ [] → Der (b :: row) a → Der row (.op ">" b a)
  | pairL {u v : List Kd} {a b c : Kd} : Der (u ++ a :: b :: v) c → Der (u ++ .op "*" a b :: v) c
  | pairR {p q : List Kd} {a b : Kd} : Der p a → Der q b → Der (p ++ q) (.op "*" a b)
  | overL {p u v : List Kd} {a b c : Kd} : Der p b → Der (u ++ a :: v) c → Der (u ++ .op "/" a b :: (p ++ v)) c
  | underL {p u v : List Kd} {a b c : Kd} : Der p b → Der (u ++ a :: v) c → Der (u ++ (p ++ .op ">" b a :: v)) c
  | cut {p u v : List Kd} {a c : Kd} : Der p a → Der (u ++ a :: v) c → Der (u ++ (p ++ v)) c
theorem lsz {n : Nat} (h : n ≤ 10000) : n ≤ sizeLine := Nat.le_trans h szl'
section
variable {n : Nat}
theorem e_below_or (row : List Kd) (a b : Kd) (hr : row ≠ []) : Pure (cl (n + 1)) "_law_below" [.str "over right", .int 0, .lst [lineD (row ++ [b], a)]] (.tup [.tup (row.map Kd.d), (Kd.op "/" a b).d, .int 0]) := by
  refine pure_by (fd := f_law_below) m_law_below rfl (Nat.le_of_ble_eq_true rfl) ?_
  have ld : lineD (row ++ [b], a) = .tup [.tup (row.map Kd.d ++ [b.d]), a.d] := by unfold lineD; rw [List.map_append]; rfl
  have l1 : ∀ x : D, atI [x] (-1) = some x := fun x => rfl
  have hl : (1 : Int) < (row.length : Int) + 1 := by cases row <;> simp_all; try omega
  have cg := cut_neg1 (xs := row.map Kd.d) (x := b.d)
  have ag := atI_neg1 (xs := row.map Kd.d) (x := b.d)
  rw [ld]
  simp -implicitDefEqProofs [f_law_below, l1, hl, cg, ag, Kd.d]
theorem n_ur_or : ¬ (("under right" : Str) = "over right") := by decide +kernel
theorem n_pl_or : ¬ (("pair left" : Str) = "over right") := by decide +kernel
theorem n_pl_ur : ¬ (("pair left" : Str) = "under right") := by decide +kernel
theorem n_ol_pr : ¬ (("over left" : Str) = "pair right") := by decide +kernel
theorem n_ul_pr : ¬ (("under left" : Str) = "pair right") := by decide +kernel
theorem n_ul_ol : ¬ (("under left" : Str) = "over left") := by decide +kernel
theorem n_cu_pr : ¬ (("cut" : Str) = "pair right") := by decide +kernel
theorem n_cu_ol : ¬ (("cut" : Str) = "over left") := by decide +kernel
theorem n_cu_ul : ¬ (("cut" : Str) = "under left") := by decide +kernel
theorem e_below_ur (row : List Kd) (a b : Kd) (hr : row ≠ []) : Pure (cl (n + 1)) "_law_below" [.str "under right", .int 0, .lst [lineD (b :: row, a)]] (.tup [.tup (row.map Kd.d), (Kd.op ">" b a).d, .int 0]) := by
  refine pure_by (fd := f_law_below) m_law_below rfl (Nat.le_of_ble_eq_true rfl) ?_
  have ld : lineD (b :: row, a) = .tup [.tup (b.d :: row.map Kd.d), a.d] := rfl
  have l1 : ∀ x : D, atI [x] (-1) = some x := fun x => rfl
  have hl : (1 : Int) < (row.length : Int) + 1 := by cases row <;> simp_all; try omega
  have cg : Fw.cutD (b.d :: row.map Kd.d) (some (1 : Int)) none = row.map Kd.d := by
    rw [show (1 : Int) = ((1 : Nat) : Int) from rfl, cut_from]
    rfl
  rw [ld]
  simp -implicitDefEqProofs [f_law_below, l1, hl, cg, Kd.d, n_ur_or]
/-- a row cut at a place -/
theorem cut_at {u v : List Kd} {x : Kd} : Fw.cutD ((u ++ x :: v).map Kd.d) none (some (u.length : Int)) = u.map Kd.d ∧ Fw.cutD ((u ++ x :: v).map Kd.d) (some ((u.length : Int) + 1)) none = v.map Kd.d ∧ atI ((u ++ x :: v).map Kd.d) (u.length : Int) = some x.d := by
  refine ⟨?_, ?_, ?_⟩
  · rw [cut_to, List.map_append]
    simp
  · rw [show (u.length : Int) + 1 = ((u.length + 1 : Nat) : Int) by omega, cut_from, List.map_append, List.map_cons, show u.map Kd.d ++ x.d :: v.map Kd.d = (u.map Kd.d ++ [x.d]) ++ v.map Kd.d by simp, show u.length + 1 = (u.map Kd.d ++ [x.d]).length by simp, List.drop_left]
  · rw [atI_map (f := Kd.d) (x := x)]
    simp
theorem e_below_pl (u v : List Kd) (a b c : Kd) (hr : u.length + v.length ≤ 1000) : Pure (cl (n + 1)) "_law_below" [.str "pair left", .int (u.length : Nat), .lst [lineD (u ++ a :: b :: v, c)]] (.tup [.tup ((u ++ .op "*" a b :: v).map Kd.d), c.d, .int 0]) := by
  refine pure_by (fd := f_law_below) m_law_below rfl (Nat.le_of_ble_eq_true rfl) ?_
  have ld : lineD (u ++ a :: b :: v, c) = .tup [.tup ((u ++ a :: b :: v).map Kd.d), c.d] := rfl
  have l1 : ∀ x : D, atI [x] (-1) = some x := fun x => rfl
  obtain ⟨c1, c2, c3⟩ := cut_at (u := u) (v := b :: v) (x := a)
  obtain ⟨_, c4, c5⟩ := cut_at (u := u ++ [a]) (v := v) (x := b)
  rw [show u ++ [a] ++ b :: v = u ++ a :: b :: v by simp, show (((u ++ [a]).length : Nat) : Int) = (u.length : Int) + 1 by simp] at c4 c5
  rw [show (u.length : Int) + 1 + 1 = (u.length : Int) + 2 by omega] at c4
  have z1 := lsz (n := u.length + 1) (by omega)
  have z2 := lsz (n := u.length + 1 + v.length) (by omega)
  have hl : (((u ++ a :: b :: v).map Kd.d).length : Int) = (u.length : Int) + ((v.length : Int) + 2) := by simp; omega
  have h0 : (0 : Int) ≤ (u.length : Int) := by omega
  have h1 : (u.length : Int) < (u.length : Int) + ((v.length : Int) + 2) - 1 := by omega
  rw [ld]
  generalize hg : (u ++ a :: b :: v).map Kd.d = row at *
  have e2 : u.map Kd.d ++ [D.tup [.str "*", a.d, b.d]] ++ v.map Kd.d = (u ++ .op "*" a b :: v).map Kd.d := by simp [Kd.d]
  simp -implicitDefEqProofs [f_law_below, l1, n_pl_or, n_pl_ur, hl, h0, h1, c1, c3, c4, c5, z1, z2, Kd.d]
theorem e_below_pr (p q : List Kd) (a b : Kd) (hr : p.length + q.length ≤ 1000) : Pure (cl (n + 1)) "_law_below" [.str "pair right", .int (p.length : Nat), .lst [lineD (p, a), lineD (q, b)]] (.tup [.tup ((p ++ q).map Kd.d), (Kd.op "*" a b).d, .int 0]) := by
  refine pure_by (fd := f_law_below) m_law_below rfl (Nat.le_of_ble_eq_true rfl) ?_
  have l1 : ∀ x y : D, atI [x, y] (-1) = some y := fun x y => rfl
  have z1 := lsz (n := p.length + q.length) (by omega)
  simp -implicitDefEqProofs [f_law_below, lineD, l1, z1, Kd.d]
theorem e_below_ol (p u v : List Kd) (a b c : Kd) (hr : p.length + u.length + v.length ≤ 1000) : Pure (cl (n + 1)) "_law_below" [.str "over left", .int (u.length : Nat), .lst [lineD (p, b), lineD (u ++ a :: v, c)]] (.tup [.tup ((u ++ .op "/" a b :: (p ++ v)).map Kd.d), c.d, .int (p.length : Nat)]) := by
  refine pure_by (fd := f_law_below) m_law_below rfl (Nat.le_of_ble_eq_true rfl) ?_
  have l1 : ∀ x y : D, atI [x, y] (-1) = some y := fun x y => rfl
  have ld : lineD (u ++ a :: v, c) = .tup [.tup ((u ++ a :: v).map Kd.d), c.d] := rfl
  have lp : lineD (p, b) = .tup [.tup (p.map Kd.d), b.d] := rfl
  obtain ⟨c1, c2, c3⟩ := cut_at (u := u) (v := v) (x := a)
  have hl : (((u ++ a :: v).map Kd.d).length : Int) = (u.length : Int) + ((v.length : Int) + 1) := by simp
  have h0 : (0 : Int) ≤ (u.length : Int) := by omega
  have h1 : (u.length : Int) < (u.length : Int) + ((v.length : Int) + 1) := by omega
  have z1 := lsz (n := u.length + 1) (by omega)
  have z2 := lsz (n := u.length + 1 + p.length) (by omega)
  have z3 := lsz (n := u.length + 1 + p.length + v.length) (by omega)
  have z2' := lsz (n := u.length + (p.length + 1)) (by omega)
  have z3' := lsz (n := u.length + (p.length + 1) + v.length) (by omega)
  rw [ld, lp]
  generalize hg : (u ++ a :: v).map Kd.d = row at *
  simp -implicitDefEqProofs [f_law_below, l1, n_ol_pr, hl, h0, h1, c1, c2, c3, z1, z2, z3, z2', z3', Kd.d]
theorem e_below_ul (p u v : List Kd) (a b c : Kd) (hr : p.length + u.length + v.length ≤ 1000) : Pure (cl (n + 1)) "_law_below" [.str "under left", .int ((u.length : Int) + (p.length : Int)), .lst [lineD (p, b), lineD (u ++ a :: v, c)]] (.tup [.tup ((u ++ (p ++ .op ">" b a :: v)).map Kd.d), c.d, .int (p.length : Nat)]) := by
  refine pure_by (fd := f_law_below) m_law_below rfl (Nat.le_of_ble_eq_true rfl) ?_
  have l1 : ∀ x y : D, atI [x, y] (-1) = some y := fun x y => rfl
  have ld : lineD (u ++ a :: v, c) = .tup [.tup ((u ++ a :: v).map Kd.d), c.d] := rfl
  have lp : lineD (p, b) = .tup [.tup (p.map Kd.d), b.d] := rfl
  obtain ⟨c1, c2, c3⟩ := cut_at (u := u) (v := v) (x := a)
  have hl : (((u ++ a :: v).map Kd.d).length : Int) = (u.length : Int) + ((v.length : Int) + 1) := by simp
  have hs : (u.length : Int) + (p.length : Int) - (p.length : Int) = (u.length : Int) := by omega
  have h0 : (0 : Int) ≤ (u.length : Int) := by omega
  have h1 : (u.length : Int) < (u.length : Int) + ((v.length : Int) + 1) := by omega
  have z1 := lsz (n := u.length + p.length) (by omega)
  have z2 := lsz (n := u.length + p.length + 1) (by omega)
  have z3 := lsz (n := u.length + p.length + 1 + v.length) (by omega)
  have z2' := lsz (n := u.length + (p.length + 1)) (by omega)
  have z3' := lsz (n := u.length + (p.length + 1) + v.length) (by omega)
  rw [ld, lp]
  generalize hg : (u ++ a :: v).map Kd.d = row at *
  simp -implicitDefEqProofs [f_law_below, l1, n_ul_pr, n_ul_ol, hs, hl, h0, h1, c1, c2, c3, z1, z2, z3, z2', z3', Kd.d]
end
end Tab

set_option maxHeartbeats 1000000
namespace Tab
open PySem PySem.Spec PyProof.Rows L2 Fw
theorem ints_map {α : Type} {f : α → Nat} : ∀ xs : List α, D.ints (xs.map fun x => D.int (f x : Nat)) = some (xs.map fun x => ((f x : Nat) : Int))
  | [] => rfl
  | x :: xs => by
    show (D.ints (xs.map fun x => D.int (f x : Nat))).map ((f x : Int) :: ·) = _
    rw [ints_map xs]
    rfl
theorem max_map {α : Type} {f : α → Nat} {ls : List α} (h : 1 ≤ ls.length) : ∃ M : Nat, bltF .max [.lst (ls.map fun l => D.int (f l : Nat))] = some (.d (.int (M : Nat))) ∧ (∀ l ∈ ls, f l ≤ M) ∧ ∃ l ∈ ls, f l = M := by
  cases ls with
  | nil => simp at h
  | cons a r =>
    have e : bltF .max [.lst ((a :: r).map fun l => D.int (f l : Nat))] = some (.d (.int (List.foldl (max : Int → Int → Int) ((f a : Nat) : Int) (r.map fun l => ((f l : Nat) : Int))))) := by
      show (D.ints _).bind _ = _
      rw [ints_map]
      rfl
    obtain ⟨h1, h2⟩ := max_fold (r.map fun l => ((f l : Nat) : Int)) ((f a : Nat) : Int)
    have h1' : ∃ l ∈ a :: r, List.foldl (max : Int → Int → Int) ((f a : Nat) : Int) (r.map fun l => ((f l : Nat) : Int)) = ((f l : Nat) : Int) := by
      rcases List.mem_cons.mp h1 with g | g
      · exact ⟨a, List.mem_cons_self, g⟩
      · obtain ⟨l, hl, g⟩ := List.mem_map.mp g
        exact ⟨l, List.mem_cons_of_mem _ hl, g.symm⟩
    obtain ⟨l, hl, g⟩ := h1'
    refine ⟨f l, by rw [e, g], fun x hx => ?_, l, hl, rfl⟩
    have := h2 ((f x : Nat) : Int) (by
      rcases List.mem_cons.mp hx with rfl | hx
      · exact List.mem_cons_self
      · exact List.mem_cons_of_mem _ (List.mem_map.mpr ⟨x, hx, rfl⟩))
    rw [g] at this
    omega
theorem e_size : ∀ (k : Kd) (n : Nat), k.dep < n → Pure (cl n) "_law_size" [k.d] (.int (k.sz : Nat))
  | .at s, n, hn => by
    obtain ⟨n, rfl⟩ : ∃ m, n = m + 1 := ⟨n - 1, by omega⟩
    refine pure_by (fd := f_law_size) m_law_size rfl (Nat.le_of_ble_eq_true rfl) ?_
    simp -implicitDefEqProofs [f_law_size, Kd.d, Kd.sz]
  | .op c a b, n, hn => by
    obtain ⟨n, rfl⟩ : ∃ m, n = m + 1 := ⟨n - 1, by omega⟩
    have hd : (Kd.op c a b).dep = max a.dep b.dep + 1 := rfl
    have h1 := e_size a n (by omega)
    have h2 := e_size b n (by omega)
    refine pure_by (fd := f_law_size) m_law_size rfl (Nat.le_of_ble_eq_true rfl) ?_
    simp -implicitDefEqProofs [f_law_size, Kd.d, Kd.sz, call_p1 h1, call_p1 h2]
/-- a line over these names, of so many atoms -/
structure LIn (ns : List Str) (T : Nat) (l : Line) : Prop where
  ok : ∀ k ∈ l.1 ++ [l.2], Wf k ∧ ∀ s ∈ k.ats, s ∈ ns
  tot : (l.1.map Kd.sz).sum + l.2.sz ≤ T
  pos : l.1 ≠ []
theorem sz_mem {row : List Kd} {k : Kd} (h : k ∈ row) : k.sz ≤ (row.map Kd.sz).sum := by
  induction row with
  | nil => cases h
  | cons a r ih =>
    rw [List.map_cons, List.sum_cons]
    rcases List.mem_cons.mp h with rfl | h
    · omega
    · have := ih h; omega
theorem len_sz : ∀ row : List Kd, row.length ≤ (row.map Kd.sz).sum
  | [] => Nat.le_refl _
  | a :: r => by
    have := len_sz r
    have := a.sz_pos
    rw [List.map_cons, List.sum_cons, List.length_cons]
    omega
theorem LIn.len {ns : List Str} {T : Nat} {l : Line} (h : LIn ns T l) : l.1.length < T := by
  have := len_sz l.1
  have := l.2.sz_pos
  have := h.tot
  omega
theorem LIn.sz {ns : List Str} {T : Nat} {l : Line} (h : LIn ns T l) {k : Kd} (hk : k ∈ l.1 ++ [l.2]) : k.sz ≤ T := by
  have := h.tot
  rcases List.mem_append.mp hk with hk | hk
  · have := sz_mem hk; omega
  · rw [List.mem_singleton.mp hk]; omega
theorem LIn.ln {ns : List Str} (hns : ∀ s ∈ ns, Atm s) {T : Nat} (hT : T ≤ 40) {l : Line} (h : LIn ns T l) : LnOk l := by
  have one : ∀ k ∈ l.1 ++ [l.2], GoodK k ∧ k.sz ≤ 300 ∧ k.dep ≤ 40 := fun k hk => by
    have h1 := h.sz hk
    have h2 := k.dep_lt
    exact ⟨⟨(h.ok k hk).1, fun s hs => (hns s ((h.ok k hk).2 s hs)).good⟩, by omega, by omega⟩
  exact ⟨by have := h.len; omega, fun k hk => one k (List.mem_append_left _ hk), one l.2 (by simp)⟩
section
variable {n : Nat}
theorem e_step1 {rule : Str} {at_ w : Int} {d : D} {l l' : Line} (hd : PapD d l) (hb : Pure (cl n) "_law_below" [.str rule, .int at_, .lst [lineD l]] (.tup [.tup (l'.1.map Kd.d), l'.2.d, .int w])) : ∃ r, PapD r l' ∧ Pure (cl (n + 1)) "_law_step" [.str rule, .int at_, .lst [d]] r := by
  obtain ⟨r0, a0, w0, p0, rfl⟩ := hd
  refine ⟨.tup [.str rule, .tup (l'.1.map Kd.d), l'.2.d, .int at_, .int w, .tup [.tup [.str r0, .tup (l.1.map Kd.d), l.2.d, .int a0, .int w0, .tup p0]]], ⟨rule, at_, w, _, rfl⟩, pure_by (fd := f_law_step) m_law_step rfl (Nat.le_of_ble_eq_true rfl) ?_⟩
  simp -implicitDefEqProofs [f_law_step]
  refine run_map1 (ps := [()]) (f := fun _ => .tup [.str r0, .tup (l.1.map Kd.d), l.2.d, .int a0, .int w0, .tup p0]) (h := fun _ => lineD l) (fun _ _ => ?_) ?_
  · simp -implicitDefEqProofs [lineD]
  · have o1 : (1 : Nat) ≤ sizeLine := by decide
    have isn : cmpF .Is (.tup [.tup (l'.1.map Kd.d), l'.2.d, .int w]) .non = some false := rfl
    simp -implicitDefEqProofs [o1, call_p3 hb, isn]
    rw [tupF_ok (ds := [.str rule, .tup (l'.1.map Kd.d), l'.2.d, .int at_, .int w, .tup [.tup [.str r0, .tup (l.1.map Kd.d), l.2.d, .int a0, .int w0, .tup p0]]]) rfl (by show 6 ≤ sizeLine; decide)]
    simp -implicitDefEqProofs
theorem e_step2 {rule : Str} {at_ w : Int} {d1 d2 : D} {l1 l2 l' : Line} (hd1 : PapD d1 l1) (hd2 : PapD d2 l2) (hb : Pure (cl n) "_law_below" [.str rule, .int at_, .lst [lineD l1, lineD l2]] (.tup [.tup (l'.1.map Kd.d), l'.2.d, .int w])) : ∃ r, PapD r l' ∧ Pure (cl (n + 1)) "_law_step" [.str rule, .int at_, .lst [d1, d2]] r := by
  have e1 := hd1
  have e2 := hd2
  obtain ⟨r1, a1, w1, p1, e1⟩ := e1
  obtain ⟨r2, a2, w2, p2, e2⟩ := e2
  refine ⟨.tup [.str rule, .tup (l'.1.map Kd.d), l'.2.d, .int at_, .int w, .tup [d1, d2]], ⟨rule, at_, w, _, rfl⟩, pure_by (fd := f_law_step) m_law_step rfl (Nat.le_of_ble_eq_true rfl) ?_⟩
  simp -implicitDefEqProofs [f_law_step]
  refine run_map1 (ps := [(d1, l1), (d2, l2)]) (f := fun p => p.1) (h := fun p => lineD p.2) (fun p hp => ?_) ?_
  · obtain ⟨r0, a0, w0, p0, e⟩ : PapD p.1 p.2 := by
      simp at hp
      rcases hp with rfl | rfl
      · exact hd1
      · exact hd2
    simp -implicitDefEqProofs [e, lineD]
  · have o2 : (2 : Nat) ≤ sizeLine := by decide
    have isn : cmpF .Is (.tup [.tup (l'.1.map Kd.d), l'.2.d, .int w]) .non = some false := rfl
    simp -implicitDefEqProofs [o2, call_p3 hb, isn]
    rw [tupF_ok (ds := [.str rule, .tup (l'.1.map Kd.d), l'.2.d, .int at_, .int w, .tup [d1, d2]]) rfl (by show 6 ≤ sizeLine; decide)]
    simp -implicitDefEqProofs
theorem e_axiom (s : Str) : Pure (cl (n + 1)) "_law_axiom" [.str s] (.tup [.str "axiom", .tup [.str s], .str s, .int 0, .int 0, .tup []]) := by
  refine pure_by (fd := f_law_axiom) m_law_axiom rfl (Nat.le_of_ble_eq_true rfl) ?_
  simp -implicitDefEqProofs [f_law_axiom]
  rw [tupF_ok (ds := [.str "axiom", .tup [.str s], .str s, .int 0, .int 0, .tup []]) rfl (by show 6 ≤ sizeLine; decide)]
  simp -implicitDefEqProofs
end
/-- a paper of a line that is derived -/
structure PpOk (ns : List Str) (T : Nat) (d : D) (l : Line) : Prop where
  p : PapD d l
  i : LIn ns T l
  der : Der l.1 l.2
theorem e_turned (ns : List Str) (T : Nat) (hT : T ≤ 200) (d : D) (l : Line) (h : PpOk ns T d l) (way at_ : Nat) (n : Nat) (hn : T + 3 < n) : ∃ r, (∃ l', PpOk ns T r l') ∧ Pure (cl n) "_law_turned" [d, .int (way : Nat), .int (at_ : Nat)] r := by
  obtain ⟨n, rfl⟩ : ∃ m, n = m + 3 := ⟨n - 3, by omega⟩
  have hl := h.i.len
  have a1 : ixF d (.int 1) = some (.d (.tup (l.1.map Kd.d))) := by
    obtain ⟨r0, a0, w0, p0, rfl⟩ := h.p
    exact (ixF_tup).trans (by rw [atI_1]; rfl)
  by_cases hw : (2 : Int) < way ∨ (l.1.length : Int) < 2
  · refine ⟨d, ⟨l, h⟩, pure_by (fd := f_law_turned) m_law_turned rfl (Nat.le_of_ble_eq_true rfl) ?_⟩
    rcases hw with hw | hw
    · simp -implicitDefEqProofs [f_law_turned, a1, hw]
    · by_cases hw2 : (2 : Int) < way
      · simp -implicitDefEqProofs [f_law_turned, a1, hw2]
      · simp -implicitDefEqProofs [f_law_turned, a1, hw2, hw]
  · rw [not_or] at hw
    obtain ⟨w1, w2⟩ := hw
    -- what each way makes
    have fin : ∀ (rule : Str) (k : Int) (r : D) (l' : Line), PpOk ns T r l' → Pure (cl (n + 2)) "_law_step" [.str rule, .int k, .lst [d]] r →
        ∃ q, (∃ l', PpOk ns T q l') ∧ ∃ (M : Nat), (l'.1.map Kd.d).length + 1 ≤ sizeLine ∧ (∀ k ∈ l'.1 ++ [l'.2], Pure (cl (n + 2)) "_law_size" [k.d] (.int (k.sz : Nat))) ∧ ((l'.1 ++ [l'.2]).map fun k => D.int (k.sz : Nat)).length ≤ sizeLine ∧
          bltF .max [.lst ((l'.1 ++ [l'.2]).map fun k => D.int (k.sz : Nat))] = some (.d (.int (M : Nat))) ∧ q = (if (40 : Int) < M then d else r) := fun rule k r l' hr hp => by
      have ll := hr.i.len
      obtain ⟨M, hM, _⟩ := max_map (f := Kd.sz) (ls := l'.1 ++ [l'.2]) (by simp)
      refine ⟨if (40 : Int) < M then d else r, ?_, M, by rw [List.length_map]; exact lsz (by omega), fun k hk => e_size k _ (by have := hr.i.sz hk; have := k.dep_lt; omega), by rw [List.length_map, List.length_append]; exact lsz (by simp; omega), hM, rfl⟩
      split
      · exact ⟨l, h⟩
      · exact ⟨l', hr⟩
    have ixs : ∀ (r : D) (l' : Line), PapD r l' → ixF r (.int 1) = some (.d (.tup (l'.1.map Kd.d))) ∧ ixF r (.int 2) = some (.d l'.2.d) := fun r l' hr => by
      obtain ⟨r0, a0, w0, p0, rfl⟩ := hr
      exact ⟨(ixF_tup).trans (by rw [atI_1]; rfl), (ixF_tup).trans (by rw [atI_2]; rfl)⟩
    have eap : ∀ l' : Line, l'.1.map Kd.d ++ [l'.2.d] = (l'.1 ++ [l'.2]).map Kd.d := fun l' => by rw [List.map_append]; rfl
    obtain ⟨row, g⟩ := l
    by_cases h0 : way = 0
    · subst h0
      rcases List.eq_nil_or_concat row with e | ⟨row', b, e⟩
      · exact absurd e h.i.pos
      rw [List.concat_eq_append] at e
      subst e
      have hr' : row' ≠ [] := by rintro rfl; simp at w2
      have Q : LIn ns T (row', .op "/" g b) := ⟨fun k hk => by
        rcases List.mem_append.mp hk with hk | hk
        · exact h.i.ok k (by simp at hk ⊢; exact .inl hk)
        · rw [List.mem_singleton.mp hk]
          have g1 := h.i.ok g (by simp)
          have g2 := h.i.ok b (by simp)
          exact ⟨⟨.inl rfl, g1.1, g2.1⟩, fun s hs => (List.mem_append.mp hs).elim (g1.2 s) (g2.2 s)⟩, by
        have := h.i.tot
        simp [Kd.sz] at this ⊢
        omega, hr'⟩
      obtain ⟨r, hr, hp⟩ := e_step1 (n := n + 1) (l' := (row', .op "/" g b)) (w := 0) h.p (e_below_or (n := n) row' g b hr')
      obtain ⟨q, hq, M, z1, hsz, z2, hM, rfl⟩ := fin _ _ r _ ⟨hr, Q, .overR hr' h.der⟩ hp
      obtain ⟨i1, i2⟩ := ixs r _ hr
      refine ⟨_, hq, pure_by (fd := f_law_turned) m_law_turned rfl (Nat.le_of_ble_eq_true rfl) ?_⟩
      have ea := eap (row', .op "/" g b)
      generalize ((row', .op "/" g b) : Line) = l' at *
      rw [List.length_map] at z1
      have w2' : ¬ ((row'.length : Int) + 1 < 2) := by simpa using w2
      simp -implicitDefEqProofs [f_law_turned, a1, w2', call_p3 hp, i1, i2, z1]
      rw [ea]
      refine run_map1 (h := fun k => .int (k.sz : Nat)) (fun k hk => ?_) ?_
      · simp -implicitDefEqProofs [call_p1 (hsz k hk)]
      · generalize (l'.1 ++ [l'.2]).map (fun k => D.int (k.sz : Nat)) = W at z2 hM
        by_cases h40 : (40 : Int) < M
        · simp -implicitDefEqProofs [z2, hM, h40]
        · simp -implicitDefEqProofs [z2, hM, h40]
    · by_cases h1 : way = 1
      · subst h1
        cases row with
        | nil => exact absurd rfl h.i.pos
        | cons b row' =>
        have hr' : row' ≠ [] := by rintro rfl; simp at w2
        have Q : LIn ns T (row', .op ">" b g) := ⟨fun k hk => by
          rcases List.mem_append.mp hk with hk | hk
          · exact h.i.ok k (by simp at hk ⊢; exact .inr (.inl hk))
          · rw [List.mem_singleton.mp hk]
            have g1 := h.i.ok g (by simp)
            have g2 := h.i.ok b (by simp)
            exact ⟨⟨.inr (.inl rfl), g2.1, g1.1⟩, fun s hs => (List.mem_append.mp hs).elim (g2.2 s) (g1.2 s)⟩, by
          have := h.i.tot
          simp [Kd.sz] at this ⊢
          omega, hr'⟩
        obtain ⟨r, hr, hp⟩ := e_step1 (n := n + 1) (l' := (row', .op ">" b g)) (w := 0) h.p (e_below_ur (n := n) row' g b hr')
        obtain ⟨q, hq, M, z1, hsz, z2, hM, rfl⟩ := fin _ _ r _ ⟨hr, Q, .underR hr' h.der⟩ hp
        obtain ⟨i1, i2⟩ := ixs r _ hr
        refine ⟨_, hq, pure_by (fd := f_law_turned) m_law_turned rfl (Nat.le_of_ble_eq_true rfl) ?_⟩
        have ea := eap (row', .op ">" b g)
        generalize ((row', .op ">" b g) : Line) = l' at *
        rw [List.length_map] at z1
        have w2' : ¬ ((row'.length : Int) + 1 < 2) := by simpa using w2
        simp -implicitDefEqProofs [f_law_turned, a1, w2', call_p3 hp, i1, i2, z1]
        rw [ea]
        refine run_map1 (h := fun k => .int (k.sz : Nat)) (fun k hk => ?_) ?_
        · simp -implicitDefEqProofs [call_p1 (hsz k hk)]
        · generalize (l'.1 ++ [l'.2]).map (fun k => D.int (k.sz : Nat)) = W at z2 hM
          by_cases h40 : (40 : Int) < M
          · simp -implicitDefEqProofs [z2, hM, h40]
          · simp -implicitDefEqProofs [z2, hM, h40]
      · have w2n : 2 ≤ row.length := by
          have : ¬ ((row.length : Int) < 2) := w2
          omega
        have hl' : row.length < T := hl
        obtain ⟨j, hj, hmod⟩ : ∃ j : Nat, j < row.length - 1 ∧ binF .Mod (.int (at_ : Nat)) (.int ((row.length : Int) - 1)) = some (.d (.int (j : Nat))) := by
          obtain ⟨q1, q2⟩ := fmod_rng (i := (at_ : Int)) (j := (row.length : Int) - 1) (by omega)
          obtain ⟨j, hj⟩ := Int.eq_ofNat_of_zero_le q1
          exact ⟨j, by omega, by rw [mod_ok (by omega), hj]⟩
        obtain ⟨u, a, b, v, e, eu⟩ : ∃ u a b v, row = u ++ a :: b :: v ∧ u.length = j := by
          refine ⟨row.take j, row[j], row[j + 1], row.drop (j + 2), ?_, by rw [List.length_take]; omega⟩
          rw [List.getElem_cons_drop, List.getElem_cons_drop, List.take_append_drop]
        have Q : LIn ns T (u ++ .op "*" a b :: v, g) := ⟨fun k hk => by
          have hin : ∀ x, x ∈ u ++ a :: b :: v ++ [g] → Wf x ∧ ∀ s ∈ x.ats, s ∈ ns := fun x hx => h.i.ok x (by rw [e]; exact hx)
          simp only [List.mem_append, List.mem_cons, List.not_mem_nil, or_false] at hk
          rcases hk with (hk | rfl | hk) | rfl
          · exact hin k (by simp [hk])
          · have g1 := hin a (by simp)
            have g2 := hin b (by simp)
            exact ⟨⟨.inr (.inr rfl), g1.1, g2.1⟩, fun s hs => (List.mem_append.mp hs).elim (g1.2 s) (g2.2 s)⟩
          · exact hin k (by simp [hk])
          · exact hin k (by simp), by
          have := h.i.tot
          rw [e] at this
          simp [Kd.sz] at this ⊢
          omega, by simp⟩
        have hb := e_below_pl (n := n) u v a b g (by have := congrArg List.length e; simp at this; omega)
        rw [← e, eu] at hb
        obtain ⟨r, hr, hp⟩ := e_step1 (n := n + 1) (l' := (u ++ .op "*" a b :: v, g)) (w := 0) h.p hb
        obtain ⟨q, hq, M, z1, hsz, z2, hM, rfl⟩ := fin _ _ r _ ⟨hr, Q, .pairL (by rw [← e]; exact h.der)⟩ hp
        obtain ⟨i1, i2⟩ := ixs r _ hr
        refine ⟨_, hq, pure_by (fd := f_law_turned) m_law_turned rfl (Nat.le_of_ble_eq_true rfl) ?_⟩
        have ea := eap (u ++ .op "*" a b :: v, g)
        generalize ((u ++ .op "*" a b :: v, g) : Line) = l' at *
        rw [List.length_map] at z1
        have w2' : ¬ ((row.length : Int) < 2) := w2
        have h1i : ¬ ((way : Int) = 1) := by omega
        simp -implicitDefEqProofs [f_law_turned, a1, w1, w2', h0, h1, h1i, hmod, call_p3 hp, i1, i2, z1]
        rw [ea]
        refine run_map1 (h := fun k => .int (k.sz : Nat)) (fun k hk => ?_) ?_
        · simp -implicitDefEqProofs [call_p1 (hsz k hk)]
        · generalize (l'.1 ++ [l'.2]).map (fun k => D.int (k.sz : Nat)) = W at z2 hM
          by_cases h40 : (40 : Int) < M
          · simp -implicitDefEqProofs [z2, hM, h40]
          · simp -implicitDefEqProofs [z2, hM, h40]
end Tab

set_option maxHeartbeats 2000000
namespace Tab
open PySem PySem.Spec PyProof.Rows L2 Fw
def GrS (o : O) (ns : List Str) (lv : Nat) (s3 : Sl) (d : D) (s5 s6 s7 s8 s9 : Sl) : List Sl := [.bor o, .d (.lst (ns.map .str)), .d (.int (lv : Nat)), s3, .d d, s5, s6, s7, s8, s9]
theorem PapD.ix {d : D} {l : Line} (h : PapD d l) : ixF d (.int 1) = some (.d (.tup (l.1.map Kd.d))) ∧ ixF d (.int 2) = some (.d l.2.d) := by
  obtain ⟨r0, a0, w0, p0, rfl⟩ := h
  exact ⟨(ixF_tup).trans (by rw [atI_1]; rfl), (ixF_tup).trans (by rw [atI_2]; rfl)⟩
/-- two lines put together -/
theorem grow_pr {ns : List Str} {T1 T2 : Nat} {l1 l2 : Line} (h1 : LIn ns T1 l1) (h2 : LIn ns T2 l2) : LIn ns (T1 + T2) (l1.1 ++ l2.1, .op "*" l1.2 l2.2) := by
  refine ⟨fun k hk => ?_, ?_, by simp [h1.pos]⟩
  · simp only [List.mem_append, List.mem_cons, List.not_mem_nil, or_false] at hk
    rcases hk with (hk | hk) | rfl
    · exact h1.ok k (by simp [hk])
    · exact h2.ok k (by simp [hk])
    · have g1 := h1.ok l1.2 (by simp)
      have g2 := h2.ok l2.2 (by simp)
      exact ⟨⟨.inr (.inr rfl), g1.1, g2.1⟩, fun s hs => (List.mem_append.mp hs).elim (g1.2 s) (g2.2 s)⟩
  · have := h1.tot
    have := h2.tot
    simp [Kd.sz]
    omega
theorem grow_ol {ns : List Str} {T1 T2 : Nat} {p u v : List Kd} {a b c : Kd} (h1 : LIn ns T1 (p, b)) (h2 : LIn ns T2 (u ++ a :: v, c)) : LIn ns (T1 + T2) (u ++ .op "/" a b :: (p ++ v), c) := by
  refine ⟨fun k hk => ?_, ?_, by simp⟩
  · simp only [List.mem_append, List.mem_cons, List.not_mem_nil, or_false] at hk
    rcases hk with (hk | rfl | hk | hk) | rfl
    · exact h2.ok k (by simp [hk])
    · have g1 := h2.ok a (by simp)
      have g2 := h1.ok b (by simp)
      exact ⟨⟨.inl rfl, g1.1, g2.1⟩, fun s hs => (List.mem_append.mp hs).elim (g1.2 s) (g2.2 s)⟩
    · exact h1.ok k (by simp [hk])
    · exact h2.ok k (by simp [hk])
    · exact h2.ok k (by simp)
  · have e1 := h1.tot
    have e2 := h2.tot
    simp [Kd.sz] at e1 e2 ⊢
    omega
theorem grow_ul {ns : List Str} {T1 T2 : Nat} {p u v : List Kd} {a b c : Kd} (h1 : LIn ns T1 (p, b)) (h2 : LIn ns T2 (u ++ a :: v, c)) : LIn ns (T1 + T2) (u ++ (p ++ .op ">" b a :: v), c) := by
  refine ⟨fun k hk => ?_, ?_, by simp⟩
  · simp only [List.mem_append, List.mem_cons, List.not_mem_nil, or_false] at hk
    rcases hk with (hk | hk | rfl | hk) | rfl
    · exact h2.ok k (by simp [hk])
    · exact h1.ok k (by simp [hk])
    · have g1 := h2.ok a (by simp)
      have g2 := h1.ok b (by simp)
      exact ⟨⟨.inr (.inl rfl), g2.1, g1.1⟩, fun s hs => (List.mem_append.mp hs).elim (g2.2 s) (g1.2 s)⟩
    · exact h2.ok k (by simp [hk])
    · exact h2.ok k (by simp)
  · have e1 := h1.tot
    have e2 := h2.tot
    simp [Kd.sz] at e1 e2 ⊢
    omega
def Ppe (ns : List Str) (T : Nat) (d : D) : Prop := ∃ l, PpOk ns T d l
theorem e_grown (ns : List Str) (hns : 1 ≤ ns.length) (hns2 : ns.length ≤ 1000) : ∀ (lv : Nat) (o : O) (m : Int) (n : Nat), 1 ≤ lv → lv ≤ 50 → PoolIn m o → m + 40 * lv ≤ 10000000 → 3 * lv + 10 < n →
    ∃ r o', ((Ppe ns (2 * lv) r) ∧ PoolIn (m + 40 * lv - 20) o') ∧ Pol (cl n) "_law_grown" o [.lst (ns.map .str), .int (lv : Nat)] r o' := by
  intro lv
  induction lv using Nat.strongRecOn with
  | ind lv ih =>
  intro o m n h1 h50 hp hm hn
  obtain ⟨n, rfl⟩ : ∃ m, n = m + 1 := ⟨n - 1, by omega⟩
  have hm0 : 0 ≤ m := by obtain ⟨a, b, c, _, _, _, h5, h6⟩ := hp; omega
  refine polx_by (fd := f_law_grown) m_law_grown rfl (Nat.le_of_ble_eq_true rfl) ?_
  unfold f_law_grown
  refine run_cons (fun ρ => ∃ o', PoolIn (m + 40 * lv - 30) o' ∧ ∃ d, Ppe ns (2 * lv) d ∧ ∃ s5 s6 s7 s8 s9, ρ = GrS o' ns lv .no d s5 s6 s7 s8 s9) ?_ fun ρ ⟨o', hpp, d, ⟨l, hl⟩, s5, s6, s7, s8, s9, e⟩ => ?_
  · by_cases hl1 : (lv : Int) ≤ 1
    · obtain ⟨r1, o1, q1, p1, c1⟩ := e_take o m hp (by omega) ns.length hns (by omega) n (by omega)
      have a1 := atI_map (f := D.str) (List.getElem?_eq_getElem q1)
      have hs : ns[r1] ∈ ns := List.getElem_mem q1
      generalize ns[r1] = s at a1 hs
      obtain ⟨n, rfl⟩ : ∃ m, n = m + 1 := ⟨n - 1, by omega⟩
      have ax := e_axiom (n := n) s
      simp -implicitDefEqProofs [hl1, call_b1 c1, a1, call_p1 ax]
      refine ⟨o1, p1.up (by omega), _, ⟨([.at s], .at s), ⟨"axiom", 0, 0, [], rfl⟩, ⟨fun k hk => ?_, ?_, by simp⟩, .ax s⟩, .no, .no, .no, .no, .no, rfl⟩
      · simp at hk
        subst hk
        exact ⟨trivial, fun t ht => by rw [List.mem_singleton.mp ht]; exact hs⟩
      · simp [Kd.sz]
        omega
    · obtain ⟨r1, o1, q1, p1, c1⟩ := e_take o m hp (by omega) (lv - 1) (by omega) (by omega) n (by omega)
      obtain ⟨d1, o2, ⟨⟨l1, hd1⟩, p2⟩, c2⟩ := ih (1 + r1) (by omega) o1 _ n (by omega) (by omega) p1 (by omega) (by omega)
      obtain ⟨d2, o3, ⟨⟨l2, hd2⟩, p3⟩, c3⟩ := ih (lv - (1 + r1)) (by omega) o2 _ n (by omega) (by omega) p2 (by omega) (by omega)
      obtain ⟨r4, o4, q4, p4, c4⟩ := e_take o3 _ p3 (by omega) 5 (by decide) (by decide) n (by omega)
      have pos2 : 1 ≤ l2.1.length := by
        have := hd2.i.pos
        cases h : l2.1 with
        | nil => exact absurd h this
        | cons => simp
      have ln1 := hd1.i.len
      have ln2 := hd2.i.len
      obtain ⟨r5, o5, q5, p5, c5⟩ := e_take o4 _ p4 (by omega) l2.1.length pos2 (by omega) n (by omega)
      rw [show ((lv - 1 : Nat) : Int) = (lv : Int) - 1 by omega] at c1
      rw [show ((1 + r1 : Nat) : Int) = 1 + (r1 : Int) by omega] at c2
      rw [show ((lv - (1 + r1) : Nat) : Int) = (lv : Int) - (1 + (r1 : Int)) by omega] at c3
      obtain ⟨i1, _⟩ := hd1.p.ix
      obtain ⟨i2, _⟩ := hd2.p.ix
      obtain ⟨n', hn'⟩ : ∃ m, n = m + 2 := ⟨n - 2, by omega⟩
      obtain ⟨p, b⟩ := l1
      obtain ⟨row, c⟩ := l2
      obtain ⟨u, a, v, e, eu⟩ : ∃ u a v, row = u ++ a :: v ∧ u.length = r5 := ⟨row.take r5, row[r5], row.drop (r5 + 1), by rw [List.getElem_cons_drop, List.take_append_drop], by rw [List.length_take]; have : r5 < row.length := q5; omega⟩
      have er : p.length + u.length + v.length ≤ 1000 := by
        have := congrArg List.length e
        simp at this
        have h1 : p.length < _ := ln1
        have h2 : row.length < _ := ln2
        omega
      have tot : ∀ {l : Line}, LIn ns (2 * (1 + r1) + 2 * (lv - (1 + r1))) l → LIn ns (2 * lv) l := fun {l} h => ⟨h.ok, by have := h.tot; omega, h.pos⟩
      simp -implicitDefEqProofs at c4
      by_cases h4 : r4 = 4
      · subst h4
        obtain ⟨r, hr, st⟩ := e_step2 (n := n' + 1) (l' := (p ++ row, .op "*" b c)) (w := 0) hd1.p hd2.p (e_below_pr (n := n') p row b c (by have h1 : p.length < _ := ln1; have h2 : row.length < _ := ln2; omega))
        rw [show n' + 1 + 1 = n by omega] at st
        simp -implicitDefEqProofs at c4
        simp -implicitDefEqProofs [hl1, call_b1 c1, call_b2 c2, call_b2 c3, call_b1 c4, i1, i2, call_b1 c5, call_p3 st]
        exact ⟨o5, p5.up (by omega), r, ⟨_, hr, tot (grow_pr hd1.i hd2.i), .pairR hd1.der hd2.der⟩, _, _, _, _, _, rfl⟩
      · have h4' : ¬ ((r4 : Int) = 4) := by omega
        by_cases h1' : (1 : Int) < r4
        · obtain ⟨r, hr, st⟩ := e_step2 (n := n' + 1) (l' := (u ++ .op "/" a b :: (p ++ v), c)) (w := (p.length : Nat)) (l2 := (u ++ a :: v, c)) hd1.p (by rw [← e]; exact hd2.p) (e_below_ol (n := n') p u v a b c er)
          rw [show n' + 1 + 1 = n by omega, eu] at st
          simp -implicitDefEqProofs [hl1, call_b1 c1, call_b2 c2, call_b2 c3, call_b1 c4, i1, i2, call_b1 c5, h4', h1', call_p3 st]
          exact ⟨o5, p5.up (by omega), r, ⟨_, hr, tot (grow_ol hd1.i (by rw [← e]; exact hd2.i)), .overL hd1.der (by rw [← e]; exact hd2.der)⟩, _, _, _, _, _, rfl⟩
        · obtain ⟨r, hr, st⟩ := e_step2 (n := n' + 1) (l' := (u ++ (p ++ .op ">" b a :: v), c)) (w := (p.length : Nat)) (l2 := (u ++ a :: v, c)) hd1.p (by rw [← e]; exact hd2.p) (e_below_ul (n := n') p u v a b c er)
          rw [show n' + 1 + 1 = n by omega, eu] at st
          simp -implicitDefEqProofs [hl1, call_b1 c1, call_b2 c2, call_b2 c3, call_b1 c4, i1, i2, call_b1 c5, h4', h1', call_p3 st]
          exact ⟨o5, p5.up (by omega), r, ⟨_, hr, tot (grow_ul hd1.i (by rw [← e]; exact hd2.i)), .underL hd1.der (by rw [← e]; exact hd2.der)⟩, _, _, _, _, _, rfl⟩
  · subst e
    have rg3 : rngF [.int 3] = some ((List.range 3).map natD) := rng_n (n := 3) (by decide)
    simp -implicitDefEqProofs [GrS, rg3]
    refine run_for (fun i ρ => ∃ o', PoolIn (m + 40 * lv - 30 + 2 * i) o' ∧ ∃ d, Ppe ns (2 * lv) d ∧ ∃ s3, Fre s3 ∧ ρ = GrS o' ns lv s3 d s5 s6 s7 s8 s9) ⟨o', hpp.up (by omega), d, ⟨l, hl⟩, .no, .no, rfl⟩ (fun i hi ρ ⟨o', hpp, d, ⟨l, hl⟩, s3, h3, e⟩ => ?_) fun ρ ⟨o', hpp, d, ⟨l, hl⟩, s3, h3, e⟩ => ?_
    · subst e
      have hi' : i < 3 := by simpa using hi
      obtain ⟨r1, o1, q1, p1, c1⟩ := e_take o' _ hpp (by omega) 9 (by decide) (by decide) n (by omega)
      obtain ⟨r2, o2, q2, p2, c2⟩ := e_take o1 _ p1 (by omega) 40 (by decide) (by decide) n (by omega)
      obtain ⟨r, ⟨l', hl'⟩, t⟩ := e_turned ns (2 * lv) (by omega) d l hl r1 r2 n (by omega)
      refine ⟨_, bindT_fre h3 rfl, ?_⟩
      simp -implicitDefEqProofs at c1 c2
      simp -implicitDefEqProofs [GrS, call_b1 c1, call_b1 c2, call_p3 t]
      exact ⟨o2, p2.up (by omega), r, ⟨l', hl'⟩, _, Fre.d, rfl, rfl, rfl⟩
    · subst e
      rw [List.length_map, List.length_range] at hpp
      simp -implicitDefEqProofs [GrS]
      exact ⟨⟨l, hl⟩, hpp.up (by omega)⟩
end Tab

set_option maxHeartbeats 1000000
namespace Tab
open PySem PySem.Spec PyProof.Rows L2 Fw
theorem e_base (s : Str) (hs : Atm s) (n : Nat) (hn : 0 < n) : ∃ r, (∃ t, r = .str t ∧ Base (tl t) 7) ∧ Pure (cl n) "_law_base" [.str s] r := by
  obtain ⟨n, rfl⟩ : ∃ m, n = m + 1 := ⟨n - 1, by omega⟩
  obtain ⟨b, hb, h⟩ := hs.ex
  have nd := hb
  obtain ⟨c, r, e1, e2, e3, e4⟩ := hb.ex
  have n46 : 46 ∉ b := fun hx => by
    rw [e1] at hx
    rcases List.mem_cons.mp hx with hx | hx
    · unfold isLow at e2; omega
    · rcases e3 _ hx with h | h
      · unfold isLow at h; omega
      · unfold isDig at h; omega
  obtain ⟨t, d, m, hp, ht, hl⟩ : ∃ t d m, Txt.partition s (".") = (t, d, m) ∧ tl t = b ∧ s.length ≤ 1000 := by
    rcases h with h | ⟨i, i1, i2, h⟩
    · exact ⟨s, Str.empty, Str.empty, TL.partition_none tl_dot (by rw [show TL.tl s = b from h]; exact n46), h, by rw [len_str, h, e1, List.length_cons]; omega⟩
    · have eb : tl (⟨b.toArray⟩ : Str) = b := by simp
      have em : tl (⟨(TL.numL i).toArray⟩ : Str) = TL.numL i := by simp
      have es : s = (⟨b.toArray⟩ : Str) ++ ("." : Str) ++ (⟨(TL.numL i).toArray⟩ : Str) := TL.ext_tl (by
        show tl s = tl _
        rw [tl_app, tl_app, eb, em, h, show tl ("." : Str) = [46] from tl_dot]
        simp)
      have l6 := TL.numL_len (n := i) (k := 6) (by decide) (by omega)
      exact ⟨⟨b.toArray⟩, ".", ⟨(TL.numL i).toArray⟩, by rw [es]; exact TL.partition_app tl_dot (by rw [show TL.tl (⟨b.toArray⟩ : Str) = b from eb]; exact n46), eb, by rw [len_str, h, e1, List.length_append, List.length_cons, List.length_cons]; omega⟩
  have pt := pt_str hp hl
  refine purex_by (fd := f_law_base) m_law_base rfl (Nat.le_of_ble_eq_true rfl) ?_
  simp -implicitDefEqProofs [f_law_base, pt]
  rw [ht]
  exact nd
theorem dot_atm {t : Str} (h : Base (tl t) 7) {i : Nat} (h1 : 1 ≤ i) (h2 : i ≤ 999999) : Atm (t ++ ("." : Str) ++ Str.ofString (toString ((i : Nat) : Int))) :=
  ⟨tl t, h, .inr ⟨i, h1, h2, by rw [tl_app, tl_app, show tl (Str.ofString (toString ((i : Nat) : Int))) = TL.numL i from TL.tl_num i, List.append_assoc]; rfl⟩⟩
def NmS (o : O) (many : Nat) (ns : List Str) (s3 s4 : Sl) : List Sl := [.bor o, .d (.int (many : Nat)), .own (.lst (ns.map .str)), s3, s4]
theorem e_names (o : O) (m : Int) (h : PoolIn m o) (hm : m ≤ 1000000) (many : Nat) (h9 : many ≤ 9) (n : Nat) (hn : 3 < n) :
    ∃ (r : D) (o' : O), ((∃ ns : List Str, r = .lst (ns.map .str) ∧ ns.length = many ∧ ∀ s ∈ ns, Atm s) ∧ PoolIn (m + 200) o') ∧ Pol (cl n) "_law_names" o [.int (many : Nat)] r o' := by
  obtain ⟨n, rfl⟩ : ∃ m, n = m + 1 := ⟨n - 1, by omega⟩
  refine polx_by (fd := f_law_names) m_law_names rfl (Nat.le_of_ble_eq_true rfl) ?_
  simp -implicitDefEqProofs [f_law_names, rng_n (n := many) (by omega)]
  refine run_for (fun i ρ => ∃ o', PoolIn (m + 20 * i) o' ∧ ∃ ns : List Str, (ns.length = i ∧ ∀ s ∈ ns, Atm s) ∧ ∃ s3, Fre s3 ∧ ∃ s4, Fre s4 ∧ ρ = NmS o' many ns s3 s4) ⟨o, h.up (by omega), [], ⟨rfl, by simp⟩, .no, .no, .no, .no, rfl⟩
    (fun i hi ρ ⟨o', hp, ns, ⟨hl, hns⟩, s3, h3, s4, h4, e⟩ => ?_) fun ρ ⟨o', hp, ns, ⟨hl, hns⟩, s3, h3, s4, h4, e⟩ => ?_
  · subst e
    have hi' : i < many := by simpa using hi
    rw [get_of (x := D.int (i : Nat)) (by rw [List.getElem?_map, List.getElem?_range hi']; rfl)]
    obtain ⟨_, o2, ⟨⟨s, rfl, hs⟩, p2⟩, c2⟩ := e_atom o' _ hp (by omega) n (by omega)
    obtain ⟨r3, o3, q3, p3, c3⟩ := e_take o2 _ p2 (by omega) 3 (by decide) (by decide) n (by omega)
    have z : ns.length < sizeLine := Nat.lt_of_le_of_lt (by omega : _ ≤ 100) (by decide)
    have fin : ∀ (o' : O) (s : Str), PoolIn (m + 20 * i + 19) o' → Atm s → ∃ o'', PoolIn (m + 20 * ((i : Nat) + 1 : Nat)) o'' ∧ ∃ ns' : List Str, (ns'.length = i + 1 ∧ ∀ s ∈ ns', Atm s) ∧ ∃ s3, Fre s3 ∧ ∃ s4, Fre s4 ∧ [Sl.bor o', .d (.int (many : Nat)), .own (.lst (ns.map D.str ++ [.str s])), .d (.int (i : Nat)), .d (.str s)] = NmS o'' many ns' s3 s4 := fun o' s hp hs => by
      refine ⟨o', hp.up (by omega), ns ++ [s], ⟨by simp [hl], fun t ht => ?_⟩, _, Fre.d, _, Fre.d, by simp [NmS]; exact ⟨rfl, rfl⟩⟩
      rcases List.mem_append.mp ht with h | h
      · exact hns t h
      · rw [List.mem_singleton.mp h]; exact hs
    have dots : ∀ (t : Str) (o3 : O), Base (tl t) 7 → PoolIn (m + 20 * i + 10 + 1) o3 → ∃ (r4 : Nat) (o4 : O) (c : Nat) (r5 : Nat) (o5 : O) (w td : Str), Pol (cl n) "_law_take" o3 [.int 2] (.int (r4 : Nat)) o4 ∧ atI [D.int 9, .int 999999] (r4 : Nat) = some (.int (c : Nat)) ∧ Pol (cl n) "_law_take" o4 [.int (c : Nat)] (.int (r5 : Nat)) o5 ∧
        bltF .str [.int (1 + (r5 : Int))] = some (.d (.str w)) ∧ binF .Add (.str t) (.str ".") = some (.d (.str td)) ∧ (∃ x, binF .Add (.str td) (.str w) = some (.d (.str x)) ∧ Atm x) ∧ PoolIn (m + 20 * i + 19) o5 := fun t o3 ht p3 => by
      obtain ⟨r4, o4, q4, p4, c4⟩ := e_take o3 _ p3 (by omega) 2 (by decide) (by decide) n (by omega)
      obtain ⟨c, hc, x4⟩ : ∃ c : Nat, (1 ≤ c ∧ c ≤ 999999) ∧ atI [D.int 9, .int 999999] (r4 : Nat) = some (.int (c : Nat)) := by
        match r4, q4 with
        | 0, _ => exact ⟨9, by decide, atI_0⟩
        | 1, _ => exact ⟨999999, by decide, atI_1⟩
      obtain ⟨r5, o5, q5, p5, c5⟩ := e_take o4 _ p4 (by omega) c hc.1 (by omega) n (by omega)
      have n1 := str_num (i := 1 + r5) (by omega)
      have l1 : (Str.ofString (toString ((1 + r5 : Nat) : Int))).length ≤ 8 := by
        rw [TL.len_tl, TL.tl_num]
        exact TL.numL_len (by decide) (by omega)
      have ld : ("." : Str).length = 1 := by decide +kernel
      have tl8 := ht.len
      have b1 := add_str (a := t) (b := ".") (by omega)
      have b2 := add_str (a := t ++ ("." : Str)) (b := Str.ofString (toString ((1 + r5 : Nat) : Int))) (by
        rw [len_str, tl_app, List.length_append, ← len_str, ← len_str]; omega)
      have at_ := dot_atm ht (i := 1 + r5) (by omega) (by omega)
      rw [show ((1 + r5 : Nat) : Int) = 1 + (r5 : Int) by omega] at n1 b2 at_
      exact ⟨r4, o4, c, r5, o5, _, _, c4, x4, c5, n1, b1, ⟨_, b2, at_⟩, p5.up (by omega)⟩
    refine ⟨_, bindT_fre h3 rfl, ?_⟩
    simp -implicitDefEqProofs at c3
    by_cases h0 : r3 = 0
    · subst h0
      simp -implicitDefEqProofs at c3
      by_cases hi0 : 0 < i
      · cases ns with
        | nil => simp at hl; omega
        | cons s0 nr =>
          obtain ⟨_, ⟨t, rfl, ht⟩, cb⟩ := e_base s0 (hns s0 List.mem_cons_self) n (by omega)
          obtain ⟨r4, o4, c, r5, o5, w, td, d1, d2, d3, d4, d5, ⟨x, d6, hx⟩, p5⟩ := dots t o3 ht p3
          have f := fin o5 x p5 hx
          have hi0' : (0 : Int) < i := by omega
          simp -implicitDefEqProofs at z
          simp -implicitDefEqProofs [NmS, call_b0 c2, h4.bo, call_b1 c3, hi0, hi0', call_p1 cb, call_b1 d1, d2, call_b1 d3, d4, d5, d6, z]
          simpa [NmS] using f
      · obtain ⟨r4, o4, c, r5, o5, w, td, d1, d2, d3, d4, d5, ⟨x, d6, hx⟩, p5⟩ := dots s o3 hs p3
        have f := fin o5 x p5 hx
        have hi0' : ¬ ((0 : Int) < i) := by omega
        simp -implicitDefEqProofs [NmS, call_b0 c2, h4.bo, call_b1 c3, hi0, hi0', call_b1 d1, d2, call_b1 d3, d4, d5, d6, z]
        simpa [NmS] using f
    · have f := fin o3 s (p3.up (by omega)) hs.atm
      simp -implicitDefEqProofs [NmS, call_b0 c2, h4.bo, call_b1 c3, h0, z]
      simpa [NmS] using f
  · subst e
    rw [List.length_map, List.length_range] at hp hl
    simp -implicitDefEqProofs [NmS]
    exact ⟨⟨ns, rfl, hl, hns⟩, hp.up (by omega)⟩
end Tab

set_option maxHeartbeats 2000000
namespace Tab
open PySem PySem.Spec PyProof.Rows L2 Fw
theorem Kd.ats_len : ∀ k : Kd, k.ats.length = k.sz
  | .at _ => rfl
  | .op _ a b => by
    show (a.ats ++ b.ats).length = a.sz + b.sz
    rw [List.length_append, a.ats_len, b.ats_len]
theorem e_leaves : ∀ (k : Kd), k.sz ≤ 10000 → ∀ n, k.dep < n → Pure (cl n) "_law_leaves" [k.d] (.lst (k.ats.map .str))
  | .at s, _, n, hn => by
    obtain ⟨n, rfl⟩ : ∃ m, n = m + 1 := ⟨n - 1, by omega⟩
    refine pure_by (fd := f_law_leaves) m_law_leaves rfl (Nat.le_of_ble_eq_true rfl) ?_
    simp -implicitDefEqProofs [f_law_leaves, Kd.d, Kd.ats]
  | .op c a b, hs, n, hn => by
    obtain ⟨n, rfl⟩ : ∃ m, n = m + 1 := ⟨n - 1, by omega⟩
    have hd : (Kd.op c a b).dep = max a.dep b.dep + 1 := rfl
    have hz : (Kd.op c a b).sz = a.sz + b.sz := rfl
    have h1 := e_leaves a (by omega) n (by omega)
    have h2 := e_leaves b (by omega) n (by omega)
    have z : a.ats.length + b.ats.length ≤ sizeLine := by rw [a.ats_len, b.ats_len]; exact lsz (by omega)
    refine pure_by (fd := f_law_leaves) m_law_leaves rfl (Nat.le_of_ble_eq_true rfl) ?_
    simp -implicitDefEqProofs [f_law_leaves, Kd.d, Kd.ats, call_p1 h1, call_p1 h2, z]
def spots (l : Line) : List Str := (l.1 ++ [l.2]).flatMap Kd.ats
theorem ats_sum : ∀ row : List Kd, (row.flatMap Kd.ats).length = (row.map Kd.sz).sum
  | [] => rfl
  | a :: r => by rw [List.flatMap_cons, List.length_append, ats_sum r, a.ats_len]; rfl
theorem spots_len (l : Line) : (spots l).length = (l.1.map Kd.sz).sum + l.2.sz := by
  unfold spots
  rw [ats_sum]
  simp
theorem e_spots (ns : List Str) (T : Nat) (hT : T ≤ 100) (l : Line) (h : LIn ns T l) (n : Nat) (hn : T + 1 < n) : PureN (cl n) "_law_spots" [lineD l] ((spots l).map .str) := by
  obtain ⟨n, rfl⟩ : ∃ m, n = m + 1 := ⟨n - 1, by omega⟩
  have hl := h.len
  have st := spots_len l
  have tt := h.tot
  have z : l.1.length + 1 ≤ sizeLine := lsz (by omega)
  refine pureN_by (fd := f_law_spots) m_law_spots rfl (Nat.le_of_ble_eq_true rfl) ?_
  simp -implicitDefEqProofs [f_law_spots, lineD, z]
  rw [show l.1.map Kd.d ++ [l.2.d] = (l.1 ++ [l.2]).map Kd.d from by rw [List.map_append]; rfl]
  refine run_fold (e := Kd.d) (fun acc k => acc ++ k.ats) [] (fun acc ρ => ∃ s2, Fre s2 ∧ ρ = [.d (.tup [.tup (l.1.map Kd.d), l.2.d]), .own (.lst (acc.map D.str)), s2]) ⟨_, .no, rfl⟩ (fun pre k post e ρ ⟨s2, h2, er⟩ => ?_) fun ρ ⟨s2, h2, er⟩ => ?_
  · subst er
    have hk : k ∈ l.1 ++ [l.2] := by rw [e]; simp
    have sk := h.sz hk
    have c := e_leaves k (by omega) n (by have := k.dep_lt; omega)
    have bl : (pre.foldl (fun acc k => acc ++ k.ats) []).length + k.ats.length ≤ T := by
      rw [← List.flatMap_eq_foldl]
      have h1 : (pre.flatMap Kd.ats).length + k.ats.length ≤ (spots l).length := by
        unfold spots
        rw [e, List.flatMap_append, List.length_append, List.flatMap_cons, List.length_append]
        omega
      omega
    generalize pre.foldl (fun acc k => acc ++ k.ats) [] = acc at bl
    have z2 : acc.length + k.ats.length ≤ sizeLine := lsz (by omega)
    refine ⟨_, bindT_fre h2 rfl, ?_⟩
    simp -implicitDefEqProofs [call_p1 c, z2]
    exact Fre.d
  · subst er
    rw [← List.flatMap_eq_foldl, show (l.1 ++ [l.2]).flatMap (fun k => k.ats) = spots l from rfl]
    simp -implicitDefEqProofs
/-! ### kinds poured again -/
def fill : Kd → List Str → Kd
  | .at s, as => .at (as.headD s)
  | .op c a b, as => .op c (fill a (as.take a.sz)) (fill b (as.drop a.sz))
theorem fill_sz : ∀ (k : Kd) (as : List Str), (fill k as).sz = k.sz
  | .at _, _ => rfl
  | .op _ a b, as => by show (fill a _).sz + (fill b _).sz = a.sz + b.sz; rw [fill_sz, fill_sz]
theorem fill_wf : ∀ (k : Kd) (as : List Str), Wf k → Wf (fill k as)
  | .at _, _, _ => trivial
  | .op _ a b, as, h => ⟨h.1, fill_wf a _ h.2.1, fill_wf b _ h.2.2⟩
theorem fill_ats : ∀ (k : Kd) (as : List Str), as.length = k.sz → ∀ s ∈ (fill k as).ats, s ∈ as
  | .at s, as, h, t, ht => by
    cases as with
    | nil => simp [Kd.sz] at h
    | cons a r =>
      rw [List.mem_singleton.mp ht]
      simp
  | .op c a b, as, h, t, ht => by
    have hz : as.length = a.sz + b.sz := h
    rcases List.mem_append.mp ht with ht | ht
    · exact List.mem_of_mem_take (fill_ats a _ (by rw [List.length_take]; omega) t ht)
    · exact List.mem_of_mem_drop (fill_ats b _ (by rw [List.length_drop]; omega) t ht)
theorem call_2o {call : Str → List Fw.Arg → Option (Fw.T × List Sl)} {f : Str} {a r : D} {o o' : O} {b0 : Sl} {ρ : List Sl} {i : Nat} (h : call f [.fr a, .bo o] = some (.d r, [b0, .bor o'])) (e : ρ[i]? = some (.own o)) : callF call f [.d a, .sl i] ρ = some (.d r, ρ.set i (.own o')) := by
  unfold callF
  simp [toArgs, toArg, e, lent, news, h, backs, back1, setAll]
theorem call_2b {call : Str → List Fw.Arg → Option (Fw.T × List Sl)} {f : Str} {a r : D} {o o' : O} {b0 : Sl} {ρ : List Sl} {i : Nat} (h : call f [.fr a, .bo o] = some (.d r, [b0, .bor o'])) (e : ρ[i]? = some (.bor o)) : callF call f [.d a, .sl i] ρ = some (.d r, ρ.set i (.bor o')) := by
  unfold callF
  simp [toArgs, toArg, e, lent, news, h, backs, back1, setAll]
theorem e_poured : ∀ (k : Kd), Wf k → ∀ (as R : List Str), as.length = k.sz → ∀ n, k.dep < n → ∃ b0, cl n "_law_poured" [.fr k.d, .bo (.lst ((R ++ as.reverse).map .str))] = some (.d (fill k as).d, [b0, .bor (.lst (R.map .str))])
  | .at s, _, as, R, h, n, hn => by
    obtain ⟨n, rfl⟩ : ∃ m, n = m + 1 := ⟨n - 1, by omega⟩
    obtain ⟨a, rfl⟩ : ∃ a, as = [a] := List.length_eq_one_iff.mp h
    refine ⟨.d (.str s), (cl_by m_law_poured _).trans ?_⟩
    have mp : mutF .pop (R.map D.str ++ [.str a]) [] = some (.str a, R.map D.str) := mut_pop
    unfold runF
    simp -implicitDefEqProofs [f_law_poured, argSl, Kd.d, fill, mp]
  | .op c x y, w, as, R, h, n, hn => by
    obtain ⟨n, rfl⟩ : ∃ m, n = m + 1 := ⟨n - 1, by omega⟩
    have hd : (Kd.op c x y).dep = max x.dep y.dep + 1 := rfl
    have hz : as.length = x.sz + y.sz := h
    obtain ⟨b1, c1⟩ := e_poured x w.2.1 (as.take x.sz) (R ++ (as.drop x.sz).reverse) (by rw [List.length_take]; omega) n (by omega)
    obtain ⟨b2, c2⟩ := e_poured y w.2.2 (as.drop x.sz) R (by rw [List.length_drop]; omega) n (by omega)
    have er : R ++ (as.drop x.sz).reverse ++ (as.take x.sz).reverse = R ++ as.reverse := by
      rw [List.append_assoc, ← List.reverse_append, List.take_append_drop]
    rw [er] at c1
    refine ⟨.d (.tup [.str c, x.d, y.d]), (cl_by m_law_poured _).trans ?_⟩
    unfold runF
    generalize (R ++ as.reverse).map D.str = A at *
    generalize (R ++ (as.drop x.sz).reverse).map D.str = A2 at *
    simp -implicitDefEqProofs [f_law_poured, argSl, Kd.d, fill, call_2b c1, call_2b c2]
end Tab

set_option maxHeartbeats 2000000
namespace Tab
open PySem PySem.Spec PyProof.Rows L2 Fw
/-- a line of this sort -/
def LnD (ns : List Str) (T : Nat) (r : D) : Prop := ∃ l, r = lineD l ∧ LIn ns T l
def rest (l : Line) (i : Nat) : Nat := ((l.1.drop i).map Kd.sz).sum
def sums (ks : List Kd) : Nat := (ks.map Kd.sz).sum
theorem rest_succ {l : Line} {i : Nat} (h : i < l.1.length) : rest l i = l.1[i].sz + rest l (i + 1) := by
  unfold rest
  rw [List.drop_eq_getElem_cons h, List.map_cons, List.sum_cons]
theorem rest_0 {l : Line} : rest l 0 = sums l.1 := by unfold rest sums; rw [List.drop_zero]
theorem rest_end {l : Line} : rest l l.1.length = 0 := by unfold rest; rw [List.drop_length]; rfl
theorem sums_app {ks : List Kd} {k : Kd} : sums (ks ++ [k]) = sums ks + k.sz := by simp [sums]
def RfP (ns : List Str) (l : Line) (i : Nat) (bs : List Str) (ks : List Kd) : Prop := bs.length = rest l i + l.2.sz ∧ (∀ s ∈ bs, s ∈ ns) ∧ ks.length = i ∧ (∀ k ∈ ks, Wf k ∧ ∀ s ∈ k.ats, s ∈ ns) ∧ sums ks + rest l i = sums l.1
def RfS (l : Line) (A : D) (R : List Str) (ks : List Kd) (s4 : Sl) : List Sl := [.d (.tup [.tup (l.1.map Kd.d), l.2.d]), .d A, .own (.lst (R.map .str)), .own (.lst (ks.map Kd.d)), s4]
theorem e_refilled (ns : List Str) (T : Nat) (hT : T ≤ 100) (l : Line) (h : LIn ns T l) (as : List Str) (ha : as.length = (spots l).length) (hs : ∀ s ∈ as, s ∈ ns) (n : Nat) (hn : T + 1 < n) :
    ∃ r, LnD ns T r ∧ Pure (cl n) "_law_refilled" [lineD l, .lst (as.map .str)] r := by
  obtain ⟨n, rfl⟩ : ∃ m, n = m + 1 := ⟨n - 1, by omega⟩
  have hl := h.len
  have hp := h.pos
  have st := spots_len l
  rw [← ha] at st
  refine purex_by (fd := f_law_refilled) m_law_refilled rfl (Nat.le_of_ble_eq_true rfl) ?_
  have lr : lrevF (.lst (as.map D.str)) = some (.new (.lst (as.reverse.map D.str))) := by
    show some _ = _
    rw [List.map_reverse]
  simp -implicitDefEqProofs only [f_law_refilled]
  have ld : lineD l = .tup [.tup (l.1.map Kd.d), l.2.d] := rfl
  rw [ld]
  generalize hA : D.lst (as.map D.str) = A at lr
  simp -implicitDefEqProofs [lr]
  -- the premises, each by the atoms that are left
  refine run_for (fun i ρ => ∃ bs ks, RfP ns l i bs ks ∧ ∃ s4, Fre s4 ∧ ρ = RfS l A bs.reverse ks s4)
    ⟨as, [], ⟨by rw [rest_0]; exact st, hs, rfl, by simp, by rw [rest_0]; simp [sums]⟩, .no, .no, by simp [RfS]⟩ (fun i hi ρ ⟨bs, ks, ⟨b1, b2, k1, k2, k3⟩, s4, h4, e⟩ => ?_) fun ρ ⟨bs, ks, ⟨b1, b2, k1, k2, k3⟩, s4, h4, e⟩ => ?_
  · subst e
    have hi' : i < l.1.length := by simpa using hi
    have hk := h.ok l.1[i] (by simp)
    have sk := h.sz (k := l.1[i]) (by simp)
    rw [rest_succ hi'] at b1 k3
    rw [get_of (x := l.1[i].d) (by rw [List.getElem?_map, List.getElem?_eq_getElem hi']; rfl)]
    generalize l.1[i] = k at *
    obtain ⟨b0, c⟩ := e_poured k hk.1 (bs.take k.sz) (bs.drop k.sz).reverse (by rw [List.length_take]; omega) n (by have := k.dep_lt; omega)
    rw [← List.reverse_append, List.take_append_drop] at c
    have z : ks.length < sizeLine := Nat.lt_of_le_of_lt (by omega : _ ≤ 1000) (by decide)
    have new : RfP ns l (i + 1) (bs.drop k.sz) (ks ++ [fill k (bs.take k.sz)]) := by
      refine ⟨by rw [List.length_drop]; omega, fun s hs => b2 s (List.mem_of_mem_drop hs), by simp [k1], fun x hx => ?_, by rw [sums_app, fill_sz]; omega⟩
      rcases List.mem_append.mp hx with hx | hx
      · exact k2 x hx
      · rw [List.mem_singleton.mp hx]
        exact ⟨fill_wf _ _ hk.1, fun s hs => b2 s (List.mem_of_mem_take (fill_ats k _ (by rw [List.length_take]; omega) s hs))⟩
    refine ⟨_, bindT_fre h4 rfl, ?_⟩
    simp -implicitDefEqProofs only [RfS]
    generalize bs.reverse.map D.str = X at c
    simp -implicitDefEqProofs [call_2o c, z]
    exact ⟨_, _, new, .d k.d, Fre.d, by simp [RfS]⟩
  · subst e
    rw [List.length_map] at b1 k1 k3
    rw [rest_end] at b1 k3
    rw [Nat.zero_add] at b1
    rw [Nat.add_zero] at k3
    have hg := h.ok l.2 (by simp)
    have sg := h.sz (k := l.2) (by simp)
    obtain ⟨b0, c⟩ := e_poured l.2 hg.1 bs [] b1 n (by have := l.2.dep_lt; omega)
    rw [List.nil_append] at c
    have fin : LnD ns T (.tup [.tup (ks.map Kd.d), (fill l.2 bs).d]) := by
      refine ⟨(ks, fill l.2 bs), rfl, fun k hk => ?_, by have := h.tot; show sums ks + (fill l.2 bs).sz ≤ T; rw [fill_sz, k3]; exact this, ?_⟩
      · rcases List.mem_append.mp hk with hk | hk
        · exact k2 k hk
        · rw [List.mem_singleton.mp hk]
          exact ⟨fill_wf _ _ hg.1, fun s hs => b2 s (fill_ats l.2 _ b1 s hs)⟩
      · intro e
        have e' : ks = [] := e
        rw [e'] at k1
        exact hp (List.length_eq_zero_iff.mp k1.symm)
    simp -implicitDefEqProofs only [RfS]
    generalize bs.reverse.map D.str = X at c
    simp -implicitDefEqProofs [call_2o c]
    exact fin
theorem rw_lin {ns : List Str} {cap : Nat} {row : List Kd} {g : Kd} (h1 : RwOk ns cap row) (h2 : RwOk ns cap [g]) (hp : row ≠ []) {T : Nat} (hT : (row.length + 1) * cap ≤ T) : LIn ns T (row, g) := by
  refine ⟨fun k hk => ?_, ?_, hp⟩
  · rcases List.mem_append.mp hk with hk | hk
    · exact ⟨(h1.k k hk).1, (h1.k k hk).2.2.2⟩
    · rw [List.mem_singleton.mp hk]; exact ⟨(h2.k g (by simp)).1, (h2.k g (by simp)).2.2.2⟩
  · have e1 : (row.map Kd.sz).sum ≤ row.length * cap := by
      clear hp hT
      induction row with
      | nil => simp
      | cons a r ih =>
        have := ih ⟨fun k hk => h1.k k (List.mem_cons_of_mem _ hk)⟩
        have := (h1.k a (by simp)).2.2.1
        rw [List.map_cons, List.sum_cons, List.length_cons, Nat.succ_mul]
        omega
    have := (h2.k g (by simp)).2.2.1
    rw [Nat.succ_mul] at hT
    show (row.map Kd.sz).sum + g.sz ≤ T
    omega
theorem e_scene (ns : List Str) (hns : 1 ≤ ns.length) (hns2 : ns.length ≤ 1000) (o : O) (m : Int) (hp : PoolIn m o) (hm : m ≤ 100000) (n : Nat) (hn : 40 < n) :
    ∃ r o', (LnD ns 20 r ∧ PoolIn (m + 10000) o') ∧ Pol (cl n) "_law_scene" o [.lst (ns.map .str)] r o' := by
  obtain ⟨n, rfl⟩ : ∃ m, n = m + 1 := ⟨n - 1, by omega⟩
  obtain ⟨r1, o1, q1, p1, c1⟩ := e_take o m hp (by omega) 2 (by decide) (by decide) n (by omega)
  refine polx_by (fd := f_law_scene) m_law_scene rfl (Nat.le_of_ble_eq_true rfl) ?_
  simp -implicitDefEqProofs at c1
  by_cases h0 : r1 = 0
  · subst h0
    obtain ⟨r2, o2, q2, p2, c2⟩ := e_take o1 _ p1 (by omega) 4 (by decide) (by decide) n (by omega)
    obtain ⟨r3, o3, q3, p3, c3⟩ := e_take o2 _ p2 (by omega) 4 (by decide) (by decide) n (by omega)
    obtain ⟨_, o4, ⟨⟨row, g, rfl, hl, h1, h2⟩, p4⟩, c4⟩ := e_bushes ns hns hns2 (1 + r2) (1 + r3) 9 (by omega) (by omega) (by omega) o3 _ p3 (by omega) n (by omega)
    rw [show ((1 + r2 : Nat) : Int) = 1 + (r2 : Int) by omega, show ((1 + r3 : Nat) : Int) = 1 + (r3 : Int) by omega] at c4
    simp -implicitDefEqProofs at c1 c2 c3 c4
    simp -implicitDefEqProofs [f_law_scene, call_b1 c1, call_b1 c2, call_b1 c3, call_b4 c4]
    refine ⟨⟨(row, g), rfl, rw_lin h1 h2 (by rintro rfl; simp at hl; omega) ?_⟩, p4.up (by omega)⟩
    have : (row.length + 1) * (1 + r3) ≤ 5 * 4 := Nat.mul_le_mul (by omega) (by omega)
    omega
  · obtain ⟨r2, o2, q2, p2, c2⟩ := e_take o1 _ p1 (by omega) 3 (by decide) (by decide) n (by omega)
    obtain ⟨d, o3, ⟨⟨l, hl⟩, p3⟩, c3⟩ := e_grown ns hns hns2 (2 + r2) o2 _ n (by omega) (by omega) p2 (by omega) (by omega)
    rw [show ((2 + r2 : Nat) : Int) = 2 + (r2 : Int) by omega] at c3
    obtain ⟨i1, i2⟩ := hl.p.ix
    have L20 : LIn ns 20 l := ⟨hl.i.ok, by have := hl.i.tot; omega, hl.i.pos⟩
    obtain ⟨r4, o4, q4, p4, c4⟩ := e_take o3 _ p3 (by omega) 2 (by decide) (by decide) n (by omega)
    have ld : D.tup [.tup (l.1.map Kd.d), l.2.d] = lineD l := rfl
    simp -implicitDefEqProofs at c2 c3 c4
    by_cases h1 : r4 = 1
    · subst h1
      have sp := e_spots ns 20 (by decide) l L20 n (by omega)
      have spl := spots_len l
      have tt := L20.tot
      have pos : 1 ≤ (spots l).length := by have := l.2.sz_pos; omega
      have hsp : ∀ s ∈ spots l, s ∈ ns := fun s hs => by
        obtain ⟨k, hk, hs⟩ := List.mem_flatMap.mp hs
        exact (L20.ok k hk).2 s hs
      obtain ⟨r5, o5, q5, p5, c5⟩ := e_take o4 _ p4 (by omega) (spots l).length pos (by omega) n (by omega)
      obtain ⟨r6, o6, q6, p6, c6⟩ := e_take o5 _ p5 (by omega) (spots l).length pos (by omega) n (by omega)
      have a5 := atI_map (f := D.str) (List.getElem?_eq_getElem q5)
      have a6 := atI_map (f := D.str) (List.getElem?_eq_getElem q6)
      obtain ⟨_, ⟨l', rfl, L'⟩, rf⟩ := e_refilled ns 20 (by decide) l L20 (((spots l).set r5 (spots l)[r6]).set r6 (spots l)[r5]) (by simp) (fun s hs => by
        rcases List.mem_or_eq_of_mem_set hs with hs | rfl
        · rcases List.mem_or_eq_of_mem_set hs with hs | rfl
          · exact hsp s hs
          · exact hsp _ (List.getElem_mem _)
        · exact hsp _ (List.getElem_mem _)) n (by omega)
      have es : (((spots l).set r5 (spots l)[r6]).set r6 (spots l)[r5]).map D.str = (((spots l).map D.str).set r5 (.str (spots l)[r6])).set r6 (.str (spots l)[r5]) := by rw [List.map_set, List.map_set]
      rw [es] at rf
      have x5 : ixN ((spots l).map D.str).length (r5 : Int) = some r5 := ixN_nat (by rw [List.length_map]; exact q5)
      have x6 : ixN (((spots l).map D.str).set r5 (.str (spots l)[r6])).length (r6 : Int) = some r6 := ixN_nat (by rw [List.length_set, List.length_map]; exact q6)
      have ls : bltF .len [.lst ((spots l).map D.str)] = some (.d (.int ((spots l).length : Nat))) := by rw [blt_lenl, List.length_map]
      generalize (spots l)[r5] = t5 at *
      generalize (spots l)[r6] = t6 at *
      generalize (spots l).map D.str = X at *
      generalize (spots l).length = Y at *
      rw [← ld] at sp rf
      have px : putO (.lst X) (.int (r5 : Nat)) (.str t6) = some (.lst (X.set r5 (.str t6))) := by
        show (ixN X.length (r5 : Int)).map _ = _
        rw [x5]; rfl
      have px2 : putO (.lst (X.set r5 (.str t6))) (.int (r6 : Nat)) (.str t5) = some (.lst ((X.set r5 (.str t6)).set r6 (.str t5))) := by
        show (ixN (X.set r5 (.str t6)).length (r6 : Int)).map _ = _
        rw [x6]; rfl
      simp -implicitDefEqProofs at c4
      simp -implicitDefEqProofs [-blt_lenl, f_law_scene, call_b1 c1, h0, call_b1 c2, call_b2 c3, i1, i2, call_b1 c4, call_n1 sp, ls, call_b1 c5, call_b1 c6, a5, a6, putS, un2, px, px2, call_p2 rf]
      exact ⟨⟨l', rfl, L'⟩, p6.up (by omega)⟩
    · have h1' : ¬ ((r4 : Int) = 1) := by omega
      simp -implicitDefEqProofs [f_law_scene, call_b1 c1, h0, call_b1 c2, call_b2 c3, i1, i2, call_b1 c4, h1']
      exact ⟨⟨l, ld, L20⟩, p4.up (by omega)⟩
end Tab

set_option maxHeartbeats 2000000
namespace Tab
open PySem PySem.Spec PyProof.Rows L2 Fw
/-- what a move hands back -/
def MvR (ns : List Str) (T : Nat) (l : Line) (r : D) : Prop := r = .non ∨ ∃ l', r = lineD l' ∧ LIn ns T l' ∧ ∀ B, okL B l' ↔ okL B l
def sgOf : Kd → Str
  | .at _ => "none"
  | .op c _ _ => c
theorem n_no_o : ¬ (("none" : Str) = "/") := by decide +kernel
theorem n_no_u : ¬ (("none" : Str) = ">") := by decide +kernel
theorem n_u_o : ¬ ((">" : Str) = "/") := by decide +kernel
theorem n_p_o : ¬ (("*" : Str) = "/") := by decide +kernel
theorem n_o_u : ¬ (("/" : Str) = ">") := by decide +kernel
theorem n_p_u : ¬ (("*" : Str) = ">") := by decide +kernel
theorem n_o_p : ¬ (("/" : Str) = "*") := by decide +kernel
theorem n_u_p : ¬ ((">" : Str) = "*") := by decide +kernel
theorem row_split {row : List Kd} {j : Nat} (h : j < row.length) : ∃ u x v, row = u ++ x :: v ∧ u.length = j := ⟨row.take j, row[j], row.drop (j + 1), by rw [List.getElem_cons_drop, List.take_append_drop], by rw [List.length_take]; omega⟩
theorem e_move (ns : List Str) (T : Nat) (hT : T ≤ 100) (l : Line) (h : LIn ns T l) (way at_ : Nat) (hw : way < 6) (ha : at_ < l.1.length) (n : Nat) (hn : 0 < n) :
    ∃ r, MvR ns T l r ∧ Pure (cl n) "_law_move" [lineD l, .int (way : Nat), .int (at_ : Nat)] r := by
  obtain ⟨n, rfl⟩ : ∃ m, n = m + 1 := ⟨n - 1, by omega⟩
  have hl := h.len
  have tt := h.tot
  refine purex_by (fd := f_law_move) m_law_move rfl (Nat.le_of_ble_eq_true rfl) ?_
  obtain ⟨row, g⟩ := l
  have hl : row.length < T := hl
  have ha : at_ < row.length := ha
  have hpos : row ≠ [] := h.pos
  have ld : lineD (row, g) = .tup [.tup (row.map Kd.d), g.d] := rfl
  unfold f_law_move
  refine run_cons (fun ρ => ρ = [.d (lineD (row, g)), .d (.int (way : Nat)), .d (.int (at_ : Nat)), .no, .d (.tup (row.map Kd.d)), .d g.d]) (by simp -implicitDefEqProofs [ld]) fun ρ e => ?_
  subst e
  refine run_cons (fun ρ => ρ = [.d (lineD (row, g)), .d (.int (way : Nat)), .d (.int (at_ : Nat)), .d (.str "none"), .d (.tup (row.map Kd.d)), .d g.d]) (by simp -implicitDefEqProofs) fun ρ e => ?_
  subst e
  refine run_cons (fun ρ => ρ = [.d (lineD (row, g)), .d (.int (way : Nat)), .d (.int (at_ : Nat)), .d (.str (sgOf g)), .d (.tup (row.map Kd.d)), .d g.d]) (by cases g <;> simp -implicitDefEqProofs [Kd.d, sgOf]) fun ρ e => ?_
  subst e
  have tot : ∀ {l' : Line}, (∀ k ∈ l'.1 ++ [l'.2], Wf k ∧ ∀ s ∈ k.ats, s ∈ ns) → (l'.1.map Kd.sz).sum + l'.2.sz = (row.map Kd.sz).sum + g.sz → l'.1 ≠ [] → LIn ns T l' := fun h1 h2 h3 => ⟨h1, by have : (row.map Kd.sz).sum + g.sz ≤ T := tt; omega, h3⟩
  have ok : ∀ k ∈ row ++ [g], Wf k ∧ ∀ s ∈ k.ats, s ∈ ns := h.ok
  have okg := ok g (by simp)
  have opk : ∀ (c : Str) (a b : Kd), Sgn c → (Wf a ∧ ∀ s ∈ a.ats, s ∈ ns) → (Wf b ∧ ∀ s ∈ b.ats, s ∈ ns) → Wf (.op c a b) ∧ ∀ s ∈ (Kd.op c a b).ats, s ∈ ns := fun c a b hc h1 h2 => ⟨⟨hc, h1.1, h2.1⟩, fun s hs => (List.mem_append.mp hs).elim (h1.2 s) (h2.2 s)⟩
  match way, hw with
  | 0, _ =>
    by_cases h1 : (1 : Int) < row.length
    · rcases List.eq_nil_or_concat row with e | ⟨row', b, e⟩
      · exact absurd e hpos
      rw [List.concat_eq_append] at e
      subst e
      have hr' : row' ≠ [] := by rintro rfl; simp at h1
      have h1' : (1 : Int) < (row'.length : Int) + 1 := by simpa using h1
      have cg := cut_neg1 (xs := row'.map Kd.d) (x := b.d)
      have ag := atI_neg1 (xs := row'.map Kd.d) (x := b.d)
      have res : MvR ns T (row' ++ [b], g) (.tup [.tup (row'.map Kd.d), .tup [.str "/", g.d, b.d]]) := .inr ⟨(row', .op "/" g b), rfl, tot (fun k hk => by
        simp only [List.mem_append, List.mem_cons, List.not_mem_nil, or_false] at hk
        rcases hk with hk | rfl
        · exact ok k (by simp [hk])
        · exact opk _ _ _ (.inl rfl) okg (ok b (by simp))) (by simp [Kd.sz]; omega) hr', fun B => ok_over hr'⟩
      simp -implicitDefEqProofs [h1', cg, ag]
      exact res
    · simp -implicitDefEqProofs [h1]
      exact .inl rfl
  | 1, _ =>
    cases g with
    | «at» s =>
      simp -implicitDefEqProofs [sgOf, n_no_o]
      exact .inl rfl
    | op c a b =>
      rcases okg.1.1 with rfl | rfl | rfl
      · have z : row.length + 1 ≤ sizeLine := lsz (by omega)
        have res : MvR ns T (row, .op "/" a b) (.tup [.tup (row.map Kd.d ++ [b.d]), a.d]) := .inr ⟨(row ++ [b], a), by simp [lineD], tot (fun k hk => by
          simp only [List.mem_append, List.mem_cons, List.not_mem_nil, or_false] at hk
          rcases hk with (hk | rfl) | rfl
          · exact ok k (by simp [hk])
          · exact ⟨okg.1.2.2, fun s hs => okg.2 s (List.mem_append_right _ hs)⟩
          · exact ⟨okg.1.2.1, fun s hs => okg.2 s (List.mem_append_left _ hs)⟩) (by simp [Kd.sz]; omega) (by simp), fun B => (ok_over hpos).symm⟩
        simp -implicitDefEqProofs [sgOf, Kd.d, z]
        exact res
      · simp -implicitDefEqProofs [sgOf, n_u_o]
        exact .inl rfl
      · simp -implicitDefEqProofs [sgOf, n_p_o]
        exact .inl rfl
  | 2, _ =>
    by_cases h1 : (1 : Int) < row.length
    · cases row with
      | nil => exact absurd rfl hpos
      | cons b row' =>
      have hr' : row' ≠ [] := by rintro rfl; simp at h1
      have h1' : (1 : Int) < (row'.length : Int) + 1 := by simpa using h1
      have cg : Fw.cutD (b.d :: row'.map Kd.d) (some (1 : Int)) none = row'.map Kd.d := by
        rw [show (1 : Int) = ((1 : Nat) : Int) from rfl, cut_from]
        rfl
      have res : MvR ns T (b :: row', g) (.tup [.tup (row'.map Kd.d), .tup [.str ">", b.d, g.d]]) := .inr ⟨(row', .op ">" b g), rfl, tot (fun k hk => by
        simp only [List.mem_append, List.mem_cons, List.not_mem_nil, or_false] at hk
        rcases hk with hk | rfl
        · exact ok k (by simp [hk])
        · exact opk _ _ _ (.inr (.inl rfl)) (ok b (by simp)) okg) (by simp [Kd.sz]; omega) hr', fun B => ok_under hr'⟩
      simp -implicitDefEqProofs [h1', cg]
      exact res
    · simp -implicitDefEqProofs [h1]
      exact .inl rfl
  | 3, _ =>
    cases g with
    | «at» s =>
      simp -implicitDefEqProofs [sgOf, n_no_u]
      exact .inl rfl
    | op c b a =>
      rcases okg.1.1 with rfl | rfl | rfl
      · simp -implicitDefEqProofs [sgOf, n_o_u]
        exact .inl rfl
      · have z : 1 + row.length ≤ sizeLine := lsz (by omega)
        have res : MvR ns T (row, .op ">" b a) (.tup [.tup (b.d :: row.map Kd.d), a.d]) := .inr ⟨(b :: row, a), by simp [lineD], tot (fun k hk => by
          simp only [List.cons_append, List.mem_append, List.mem_cons, List.not_mem_nil, or_false] at hk
          rcases hk with rfl | hk | rfl
          · exact ⟨okg.1.2.1, fun s hs => okg.2 s (List.mem_append_left _ hs)⟩
          · exact ok k (by simp [hk])
          · exact ⟨okg.1.2.2, fun s hs => okg.2 s (List.mem_append_right _ hs)⟩) (by simp [Kd.sz]; omega) (by simp), fun B => (ok_under hpos).symm⟩
        simp -implicitDefEqProofs [sgOf, Kd.d, z]
        exact res
      · simp -implicitDefEqProofs [sgOf, n_p_u]
        exact .inl rfl
  | 4, _ =>
    by_cases h1 : (at_ : Int) < (row.length : Int) - 1
    · obtain ⟨u, a, w, e, eu⟩ := row_split ha
      obtain ⟨b, v, rfl⟩ : ∃ b v, w = b :: v := by
        cases w with
        | nil => rw [e] at h1; simp at h1; omega
        | cons b v => exact ⟨b, v, rfl⟩
      obtain ⟨c1, c2, c3⟩ := cut_at (u := u) (v := b :: v) (x := a)
      obtain ⟨_, c4, c5⟩ := cut_at (u := u ++ [a]) (v := v) (x := b)
      rw [show u ++ [a] ++ b :: v = u ++ a :: b :: v by simp, show (((u ++ [a]).length : Nat) : Int) = (u.length : Int) + 1 by simp] at c4 c5
      rw [show (u.length : Int) + 1 + 1 = (u.length : Int) + 2 by omega] at c4
      rw [← e, eu] at c1 c3 c4 c5
      have lrow : row.length = u.length + (v.length + 2) := by rw [e]; simp
      have z1 := lsz (n := u.length + 1) (by omega)
      have z2 := lsz (n := u.length + 1 + v.length) (by omega)
      have z2' := lsz (n := u.length + (v.length + 1)) (by omega)
      have res : MvR ns T (row, g) (.tup [.tup (u.map Kd.d ++ .tup [.str "*", a.d, b.d] :: v.map Kd.d), g.d]) := .inr ⟨(u ++ .op "*" a b :: v, g), by simp [lineD, Kd.d], tot (fun k hk => by
        simp only [List.mem_append, List.mem_cons, List.not_mem_nil, or_false] at hk
        rcases hk with (hk | rfl | hk) | rfl
        · exact ok k (by rw [e]; simp [hk])
        · exact opk _ _ _ (.inr (.inr rfl)) (ok a (by rw [e]; simp)) (ok b (by rw [e]; simp))
        · exact ok k (by rw [e]; simp [hk])
        · exact okg) (by rw [e]; simp [Kd.sz]; omega) (by simp), fun B => by rw [e]; exact ok_pair okg.1⟩
      simp -implicitDefEqProofs [h1, c1, c3, c4, c5, z1, z2, z2']
      exact res
    · simp -implicitDefEqProofs [h1]
      exact .inl rfl
  | 5, _ =>
    obtain ⟨u, x, v, e, eu⟩ := row_split ha
    obtain ⟨c1, c2, c3⟩ := cut_at (u := u) (v := v) (x := x)
    rw [← e, eu] at c1 c2 c3
    have lrow : row.length = u.length + (v.length + 1) := by rw [e]; simp
    have okx := ok x (by rw [e]; simp)
    cases x with
    | «at» s =>
      rw [show (Kd.at s).d = .str s from rfl] at c3
      simp -implicitDefEqProofs [c3]
      exact .inl rfl
    | op c a b =>
      rw [show (Kd.op c a b).d = .tup [.str c, a.d, b.d] from rfl] at c3
      rcases okx.1.1 with rfl | rfl | rfl
      · simp -implicitDefEqProofs [c3, n_o_p]
        exact .inl rfl
      · simp -implicitDefEqProofs [c3, n_u_p]
        exact .inl rfl
      · have ct : Fw.cutD [D.str "*", a.d, b.d] (some (1 : Int)) none = [a.d, b.d] := by
          rw [show (1 : Int) = ((1 : Nat) : Int) from rfl, cut_from]
          rfl
        have z1 := lsz (n := u.length + 2) (by omega)
        have z2 := lsz (n := u.length + 2 + v.length) (by omega)
        have z2' := lsz (n := u.length + (v.length + 2)) (by omega)
        have z2'' := lsz (n := u.length + (v.length + 1 + 1)) (by omega)
        have res : MvR ns T (row, g) (.tup [.tup (u.map Kd.d ++ a.d :: b.d :: v.map Kd.d), g.d]) := .inr ⟨(u ++ a :: b :: v, g), by simp [lineD], tot (fun k hk => by
          simp only [List.mem_append, List.mem_cons, List.not_mem_nil, or_false] at hk
          rcases hk with (hk | rfl | rfl | hk) | rfl
          · exact ok k (by rw [e]; simp [hk])
          · exact ⟨okx.1.2.1, fun s hs => okx.2 s (List.mem_append_left _ hs)⟩
          · exact ⟨okx.1.2.2, fun s hs => okx.2 s (List.mem_append_right _ hs)⟩
          · exact ok k (by rw [e]; simp [hk])
          · exact okg) (by rw [e]; simp [Kd.sz]; omega) (by simp), fun B => by rw [e]; exact (ok_pair okg.1).symm⟩
        simp -implicitDefEqProofs [c3, c1, c2, ct, z1, z2, z2', z2'']
        exact res
  | n + 6, hw => omega
end Tab

set_option maxHeartbeats 1000000
namespace Tab
open PySem PySem.Spec PyProof.Rows L2 Fw
/-! ### a drawn ban list is one -/
theorem st_cnt (B : Bans) (h : ∀ p ∈ B, ∀ l ∈ p.2, l.length ≤ 6) : (St B).length ≤ 36 * cnt B := by
  unfold St cnt
  induction B with
  | nil => simp
  | cons p B ih =>
    have h1 := ih fun q hq => h q (List.mem_cons_of_mem _ hq)
    have h2 : (p.2.flatMap stretches).length ≤ p.2.length * 36 := flat_len fun l hl => Nat.le_trans str_len (Nat.mul_le_mul (h p List.mem_cons_self l hl) (h p List.mem_cons_self l hl))
    rw [List.flatMap_cons, List.length_append, List.map_cons, List.sum_cons]
    omega
theorem TIn.bok {ns : List Str} {i : Nat} {B : Bans} (h : TIn ns i B) (hi : i ≤ 100) : BOk B where
  ls := fun p hp => by have := cnt_mem hp; have := h.cnt; omega
  ln := fun p hp l hl => ⟨((h.ls p hp).2 l hl).1.ne, by have := ((h.ls p hp).2 l hl).2; omega⟩
  st := by
    have h1 := st_cnt B fun p hp l hl => ((h.ls p hp).2 l hl).2
    have := h.cnt
    omega
theorem TIn.ban {ns : List Str} {i : Nat} {B : Bans} (h : TIn ns i B) (hi : i ≤ 100) (hns : ns.length ≤ 100) (hat : ∀ s ∈ ns, Atm s) {M : Nat} (hM : 4 < M) : Pure (cl M) "is_ban_list" [bansD B] (.bl true) := by
  have bl : B.length ≤ 100 := by
    have h1 := nd_le h.nd fun x hx => by
      obtain ⟨p, hp, rfl⟩ := List.mem_map.mp hx
      exact h.sub p hp
    rw [List.length_map] at h1
    omega
  have z := ban_good' M (by omega) B (fun p hp => ⟨hat _ (h.sub p hp), by have := cnt_mem hp; have := h.cnt; omega, fun l hl => ((h.ls p hp).2 l hl).1, (h.ls p hp).1⟩) h.nd bl
  rw [decide_eq_true (by have := h.cnt; omega)] at z
  exact z
end Tab

set_option maxHeartbeats 2000000
namespace Tab
open PySem PySem.Spec PyProof.Rows L2 Fw
theorem other_atm : Atm "other" := ⟨[111, 116, 104, 101, 114], ⟨111, [116, 104, 101, 114], rfl, ⟨by decide, by decide⟩, fun x hx => .inl (by simp at hx; unfold isLow; omega), by decide⟩, .inl (by decide +kernel)⟩
def LwS (sc : D) (o : O) (ns : List Str) (l : Line) (s4 : Sl) (B : Bans) (due : Bool) (s7 s8 : Sl) : List Sl := [.d sc, .own o, .d (.lst (ns.map .str)), .d (lineD l), s4, .d (bansD B), .d (.bl due), s7, s8]
def LwI (sc : D) (ns : List Str) (B : Bans) (l : Line) (s4 : Sl) (due : Bool) (o : O) (ρ : List Sl) : Prop := ∃ l', (LIn ns 20 l' ∧ (okL B l' ↔ okL B l)) ∧ ∃ s7, Fre s7 ∧ ∃ s8, Fre s8 ∧ ρ = LwS sc o ns l' s4 B due s7 s8
theorem e_law (xs : List Int) : Pure (cl 110) "law" [.rd (xs.map D.int)] (.bl true) := by
  refine pure_by (n := 109) (fd := f_law) m_law rfl (Nat.le_of_ble_eq_true rfl) ?_
  obtain ⟨_, p0, x0, rfl, c0⟩ := e_source xs 0 (by decide) 109 (by decide)
  obtain ⟨_, p1, x1, rfl, c1⟩ := e_source xs 1 (by decide) 109 (by decide)
  show Fw.Run (exSs (cf 109) f_law.body [.d (.rd (xs.map D.int)), .no, .no, .no, .no, .no, .no, .no, .no]) _
  generalize D.rd (xs.map D.int) = sc at *
  obtain ⟨r2, o2, h2, q2, d2⟩ := e_take _ _ p0 (by decide) 4 (by decide) (by decide) 109 (by decide)
  obtain ⟨many, hm, x2⟩ : ∃ c : Nat, (1 ≤ c ∧ c ≤ 3) ∧ atI [D.int 1, .int 2, .int 3, .int 2] (r2 : Nat) = some (.int (c : Nat)) := by
    match r2, h2 with
    | 0, _ => exact ⟨1, by decide, atI_0⟩
    | 1, _ => exact ⟨2, by decide, atI_1⟩
    | 2, _ => exact ⟨3, by decide, atI_2⟩
    | 3, _ => exact ⟨2, by decide, atI_3⟩
  obtain ⟨_, o3, ⟨⟨ns, rfl, nl, nat⟩, q3⟩, d3⟩ := e_names o2 _ q2 (by decide) many (by omega) 109 (by decide)
  obtain ⟨_, o4, ⟨⟨l, rfl, hl⟩, q4⟩, d4⟩ := e_scene ns (by omega) (by omega) o3 _ q3 (by decide) 109 (by decide)
  obtain ⟨r5, o5, h5, q5, d5⟩ := e_take _ _ p1 (by decide) 8 (by decide) (by decide) 109 (by decide)
  obtain ⟨k7, wide, qq, hk7, f7, y1, y2⟩ : ∃ (k7 wide : Nat) (qq : Int), ((1 ≤ k7 ∧ k7 ≤ 12) ∧ 1 ≤ wide ∧ wide ≤ 6) ∧ binF .FloorDiv (.int (r5 : Nat)) (.int 7) = some (.d (.int qq)) ∧ atI [D.int 7, .int 12] qq = some (.int (k7 : Nat)) ∧ atI [D.int 4, .int 6] qq = some (.int (wide : Nat)) := by
    have f7 : binF .FloorDiv (.int (r5 : Nat)) (.int 7) = some (.d (.int ((r5 / 7 : Nat) : Int))) := by
      rw [fdiv_ok (by decide), Int.fdiv_eq_ediv_of_nonneg _ (by decide)]
      rfl
    rcases (by omega : r5 / 7 = 0 ∨ r5 / 7 = 1) with e | e
    · rw [e] at f7; exact ⟨7, 4, _, by decide, f7, atI_0, atI_0⟩
    · rw [e] at f7; exact ⟨12, 6, _, by decide, f7, atI_1, atI_1⟩
  obtain ⟨r6, o6, h6, q6, d6⟩ := e_take o5 _ q5 (by decide) k7 (by omega) (by omega) 109 (by decide)
  have nl2 : (ns ++ [("other" : Str)]).length = many + 1 := by simp [nl]
  obtain ⟨_, o7, ⟨⟨B, rfl, hB, _⟩, q7⟩, d7⟩ := e_ban_list (ns ++ [("other" : Str)]) (by omega) (by omega) (1 + r6) wide (by omega) (by omega) (by omega) o6 _ q6 (by decide) 109 (by decide)
  have nat2 : ∀ s ∈ ns ++ [("other" : Str)], Atm s := fun s hs => by
    rcases List.mem_append.mp hs with hs | hs
    · exact nat s hs
    · rw [List.mem_singleton.mp hs]; exact other_atm
  have bk := hB.t.bok (by omega)
  have bg := hB.t.ban (by omega) (by omega) nat2 (M := 109) (by decide)
  have nsD : ns.map D.str ++ [.str "other"] = (ns ++ [("other" : Str)]).map D.str := by simp
  have z1 : ns.length + 1 ≤ sizeLine := lsz (by omega)
  rw [show ((1 + r6 : Nat) : Int) = 1 + (r6 : Int) by omega, ← nsD] at d7
  have due : (!failsC B l) = true ↔ okL B l := by
    cases h : failsC B l with
    | true =>
      have := failsC_iff.mp h
      simp [this]
    | false =>
      have : okL B l := Classical.byContradiction fun z => by rw [failsC_iff.mpr z] at h; cases h
      simp [this]
  have lf : ∀ l' : Line, LIn ns 20 l' → (okL B l' ↔ okL B l) → Pure (cl 109) "_law_fails" [bansD B, lineD l'] (.bl (failsC B l)) := fun l' h' he => by
    have c := e_lfails B bk l' (h'.ln nat (by decide)) 109 (by decide)
    have : failsC B l' = failsC B l := Bool.eq_iff_iff.mpr (by rw [failsC_iff, failsC_iff, he])
    rw [this] at c
    exact c
  have c3 := lf l hl Iff.rfl
  have ta := fun l' (h' : LIn ns 20 l') (he : okL B l' ↔ okL B l) => e_truth_agrees B bk l' (h'.ln nat (by decide)) (!failsC B l) (due.trans he.symm) 109 (by decide)
  have al := fun l' (h' : LIn ns 20 l') => e_all_lines B bk l' (h'.ln nat (by decide)) 109 (by decide)
  have ho := fun l' (h' : LIn ns 20 l') (he : okL B l' ↔ okL B l) => (show Pure (cl 109) "holds" [bansD B, lineD l'] (.bl (!failsC B l)) from by
    cases h : failsC B l with
    | true =>
      rw [h] at due
      exact e_holds_f B bk l' (h'.ln nat (by decide)) (fun z => by have := due.mpr (he.mp z); cases this) 109 (by decide)
    | false =>
      rw [h] at due
      exact e_holds_t B bk l' (h'.ln nat (by decide)) (he.mpr (due.mp rfl)) 109 (by decide))
  have t0 := ta l hl Iff.rfl
  have a0 := al l hl
  have isn : cmpF .IsNot (.bl true) (.bl true) = some false := rfl
  have neq : cmpF .Eq (.bl (failsC B l)) (.bl (!failsC B l)) = some false := by
    show some (decide (failsC B l = !failsC B l)) = some false
    cases failsC B l <;> rfl
  have trh := e_is_truth (!failsC B l) (!failsC B l) 109 (by decide)
  rw [decide_eq_true rfl] at trh
  clear due
  generalize failsC B l = fb at *
  have rg6 : rngF [.int 6] = some ((List.range 6).map natD) := rng_n (n := 6) (by decide)
  try simp -implicitDefEqProofs at c0
  try simp -implicitDefEqProofs at c1
  try simp -implicitDefEqProofs at d2
  try simp -implicitDefEqProofs at d5
  generalize hBD : bansD B = BD at *
  simp -implicitDefEqProofs [f_law, call_n2 c0, lst4, call_o1 d2, x2, call_o1 d3, call_o1 d4, call_n2 c1, call_o1 d5, f7, y1, y2, call_o1 d6, z1, call_o3 d7, call_p2 c3, call_p1 bg, isn, call_p3 t0, call_p2 a0, rg6]
  subst hBD
  refine run_for (fun i ρ => ∃ o', PoolIn (20000 + 2 * i) o' ∧ LwI sc ns B l (.d (.int (r5 : Nat))) (!fb) o' ρ) ⟨o7, q7.up (by omega), l, ⟨hl, Iff.rfl⟩, .no, .no, .no, .no, rfl⟩
    (fun i hi ρ ⟨o', hp, l', ⟨hl', he⟩, s7, h7, s8, h8, e⟩ => ?_) fun ρ ⟨o', hp, l', ⟨hl', he⟩, s7, h7, s8, h8, e⟩ => ?_
  · subst e
    have hi' : i < 6 := by simpa using hi
    have ll := hl'.len
    have pos : 1 ≤ l'.1.length := by
      have := hl'.pos
      cases h : l'.1 with
      | nil => exact absurd h this
      | cons => simp
    obtain ⟨r8, o8, g8, q8, d8⟩ := e_take o' _ hp (by omega) 6 (by decide) (by decide) 109 (by decide)
    obtain ⟨r9, o9, g9, q9, d9⟩ := e_take o8 _ q8 (by omega) l'.1.length pos (by omega) 109 (by decide)
    obtain ⟨r, hr, mv⟩ := e_move ns 20 (by decide) l' hl' r8 r9 g8 g9 109 (by decide)
    have i0 : ixF (lineD l') (.int 0) = some (.d (.tup (l'.1.map Kd.d))) := (ixF_tup).trans (by rw [atI_0]; rfl)
    refine ⟨_, bindT_fre h7 rfl, ?_⟩
    simp -implicitDefEqProofs at d8
    rcases hr with rfl | ⟨l2, rfl, hl2, hm⟩
    · have isno : cmpF .IsNot .non .non = some false := rfl
      simp -implicitDefEqProofs [LwS, call_o1 d8, i0, call_o1 d9, call_p3 mv, h8.bo, isno]
      exact ⟨o9, q9.up (by omega), l', ⟨hl', he⟩, _, Fre.d, _, Fre.d, rfl⟩
    · have he2 := (hm B).trans he
      have isno : cmpF .IsNot (lineD l2) .non = some true := rfl
      have c4 := lf l2 hl2 he2
      have t4 := ta l2 hl2 he2
      have a4 := al l2 hl2
      have h4 := ho l2 hl2 he2
      simp -implicitDefEqProofs [LwS, call_o1 d8, i0, call_o1 d9, call_p3 mv, h8.bo, isno, call_p2 c4, neq, call_p3 t4, call_p2 a4, call_p2 h4, call_p2 trh]
      exact ⟨o9, q9.up (by omega), l2, ⟨hl2, he2⟩, _, Fre.d, _, Fre.d, rfl⟩
  · subst e
    simp -implicitDefEqProofs [LwS]
end Tab

set_option maxHeartbeats 0
namespace Tab
open PySem PySem.Spec PyProof.Rows L2 Fw
theorem plain : ∀ ns : List Int, ns.length ≤ 63 → ∃ bs, callN (tabOf dfs) (fun x => gs.lookup x) wf (fun x => ks.lookup x) 110 "law" [.fr (.rd (ns.map D.int))] = some (.d (.bl true), bs) := fun ns _ => (e_law ns).elim fun bs h => ⟨bs, h.1⟩
end Tab
open PySem PySem.W PySem.Calls PyProof.Rows
theorem PySem.Challenge.cw_fractionwords_k88_whole_moves_keep_holdi_holds : PySem.Challenge.rw_fractionwords_k88_whole_moves_keep_holdi.Holds := by
  w_on; o_law
  exact HandSHeadRun.head_any (r := OpenLaw.row PySem.Challenge.rw_fractionwords_k88_whole_moves_keep_holdi) (q := Tab.Hd.q) (H := Tab.Hd.hk) (ob := Tab.Hd.ob) (M := 3000) (loose := Tab.Hd.names) (d := Tab.Hd.d0) (kwd := []) Tab.Hd.ob_eq
    Tab.Hd.h1 Tab.Hd.h2 Tab.Hd.run Tab.Hd.h3 Tab.Hd.h4 Tab.Hd.h5 Tab.Hd.h6 Tab.Hd.h7 Tab.Hd.h8 Tab.Hd.h9 Tab.Hd.h10
    (Fw.law_by (l := PySem.Challenge.rw_fractionwords_k88_whole_moves_keep_holdi) (ds := Tab.dfs) (cs := Tab.cs) (gs := Tab.gs) (ks := Tab.ks) (n := 110) (m := 63) (dl := Tab.dfs.getLast (by decide)) (wf := Tab.wf) rfl (by decide) Tab.Hd.h11 ⟨rfl, by decide, by decide⟩ Tab.Hd.h12 Tab.tabOk (List.getLast_mem _) rfl rfl rfl rfl rfl Tab.plain)


