import PyProof.Rows.All
import Wide.All
import OpenK.AllK
import Wide.FinOn
import HandS.ForMost
import HandS.ForExc
import HandS.Walk
import HandS.TupAny
import HandS.Wide
import HandS.Conv
import HandS.IsInst
import HandS.Style
import HandS.SetFor
import HandS.Rev
import KE.SortData
import KE.KDictWalk
import HandS.EndBits
import HandS.ExcIs
import HandS.ExcOwn
import HandS.TryOnly
import PyProof.ExcBaseAll.ValueError
import PySem.Challenge.RW_pagepart_k33_boxes_counted
set_option Elab.async false
set_option linter.all false
set_option maxRecDepth 100000
/-! Rules of the hand layer's kind that it lacks. -/
namespace PySem
namespace PD0
set_option maxRecDepth 8000 in
theorem list_extend_tuple (l : Addr) (items : Array Value) (n : Nat) (b : Addr) (items2 : Array Value) (n2 : Nat) (dd : Option Addr) (sl : Array (Option Value)) (hs0 : ¬(!items.isEmpty && Builtin.List.listTooLong (items.size + items2.size)) = true) (hs1 : items.size ≤ sizeLine) (hs2 : items.size + items2.size ≤ sizeLine + 1 := by seq_fits) :
    Meets (Builtin.«list.extend» ⟨[.ref l, .ref b], []⟩) (fun _ R s => s.heap.get? l = some { cls := .type "list", dict := none, data := .seq items n, slots := #[] } ∧ s.heap.get? b = some { cls := .type "tuple", dict := dd, data := .seq items2 n2, slots := sl } ∧ R (.ok (.ret Value.none)) { s with heap := s.heap.update l (Obj.mapSeq fun x => x ++ items2), toks := s.toks }) :=
  .of_wp fun prog w A R s h => by
    obtain ⟨hp, g, d, tk, os⟩ := s; obtain ⟨hl, hb, h⟩ := h; have f1 := PySem.AutoSeq1.idx_int; have f2 := PySem.AutoSeq1.sub_tuple_tuple; have f3 := PySem.AutoSeq1.sub_list_list; have f4 := PySem.AutoSeq1.sub_tuple_list; have f5 := PySem.AutoSeq1.sub_list_tuple;
    have hz' : (items ++ items2).size ≤ sizeLine + 1 := by rw [Array.size_append]; exact hs2
    wp_walk using (wpAny_updateSeq hl rfl (hz := hs1) (_hz' := hz')), PySem.AutoSeq1.wpAny_loadPart' hl, PySem.AutoSeq1.wpAny_loadPart' hb; exact ⟨_, rfl, h⟩
set_option maxRecDepth 8000 in
theorem list_extend_list (l : Addr) (items : Array Value) (n : Nat) (b : Addr) (items2 : Array Value) (n2 : Nat) (dd : Option Addr) (sl : Array (Option Value)) (hs0 : ¬(!items.isEmpty && Builtin.List.listTooLong (items.size + items2.size)) = true) (hs1 : items.size ≤ sizeLine) (hs2 : items.size + items2.size ≤ sizeLine + 1 := by seq_fits) :
    Meets (Builtin.«list.extend» ⟨[.ref l, .ref b], []⟩) (fun _ R s => s.heap.get? l = some { cls := .type "list", dict := none, data := .seq items n, slots := #[] } ∧ s.heap.get? b = some { cls := .type "list", dict := dd, data := .seq items2 n2, slots := sl } ∧ R (.ok (.ret Value.none)) { s with heap := s.heap.update l (Obj.mapSeq fun x => x ++ items2), toks := s.toks }) :=
  .of_wp fun prog w A R s h => by
    obtain ⟨hp, g, d, tk, os⟩ := s; obtain ⟨hl, hb, h⟩ := h; have f1 := PySem.AutoSeq1.idx_int; have f2 := PySem.AutoSeq1.sub_tuple_tuple; have f3 := PySem.AutoSeq1.sub_list_list; have f4 := PySem.AutoSeq1.sub_tuple_list; have f5 := PySem.AutoSeq1.sub_list_tuple;
    have hz' : (items ++ items2).size ≤ sizeLine + 1 := by rw [Array.size_append]; exact hs2
    wp_walk using (wpAny_updateSeq hl rfl (hz := hs1) (_hz' := hz')), PySem.AutoSeq1.wpAny_loadPart' hl, PySem.AutoSeq1.wpAny_loadPart' hb; exact ⟨_, rfl, h⟩
end PD0
end PySem
namespace PD
open PySem PySem.Spec PyProof.Rows L2
section
variable {X : Cx}
/-- xs.extend(ys), ys a list or a tuple -/
def rExtG (K : PySem.W.Frag) : V → List V → Hp → VK → Prop := fun x vs H Q => ∃ l b xs zs, x = .ref l ∧ vs = [.ref b] ∧ H l = some (.lst xs) ∧ (SqL K H b zs ∨ SqT K H b zs) ∧ xs.length + zs.length ≤ sizeLine ∧ Q .non (upd H l (.lst (xs ++ zs)))
theorem mt_extG : MtR X "list.extend" (rExtG X.K) := by
  intro pins s σ H x vs v us Q I rx rv h
  obtain ⟨l, b, xs, zs, rfl, rfl, hH, hB, hz, q⟩ := h
  cases rx
  obtain ⟨u, rfl, ru⟩ := rv.one
  cases ru
  obtain ⟨z, its, n, r, hl, e⟩ := I.lstM hH
  have fin : ∀ its2 : List Value, Vals zs its2 → EP X pins σ Q Value.none { s with heap := s.heap.update l (Obj.mapSeq fun x => x ++ its2.toArray), toks := s.toks } := fun its2 r2 =>
    ⟨.non, _, I.lset (its' := its ++ its2) hH e (by simp) (r.append r2) (by rw [List.length_append]; exact hz), rfl, q⟩
  rcases hB with hB | hB
  · obtain ⟨its2, r2, p2, _⟩ := I.list hB
    have hl2 := r2.length
    obtain ⟨⟨oc, od, odt, osl⟩, n2, e2, hc, _, hd⟩ := p2
    cases hc
    cases hd
    have hsz : its.toArray.size + its2.toArray.size ≤ sizeLine := by rw [List.size_toArray, List.size_toArray]; omega
    have hlong : ¬ (!its.toArray.isEmpty && Builtin.List.listTooLong (its.toArray.size + its2.toArray.size)) = true := by
      rw [notLongL hsz, Bool.and_false]
      exact Bool.false_ne_true
    exact call_meets F.slot_list_extend ⟨_, e, rfl⟩ F.entry_list_extend (F.args_list_extend_2 _ _)
      (PySem.PD0.list_extend_list l its.toArray n b its2.toArray n2 _ _ hlong (by rw [List.size_toArray]; omega) (by omega)) ⟨e, e2, fin its2 r2⟩
  · obtain ⟨its2, r2, p2, _⟩ := I.tuple hB
    have hl2 := r2.length
    obtain ⟨⟨oc, od, odt, osl⟩, e2, hc, n2, hd⟩ := p2
    cases hc
    cases hd
    have hsz : its.toArray.size + its2.toArray.size ≤ sizeLine := by rw [List.size_toArray, List.size_toArray]; omega
    have hlong : ¬ (!its.toArray.isEmpty && Builtin.List.listTooLong (its.toArray.size + its2.toArray.size)) = true := by
      rw [notLongL hsz, Bool.and_false]
      exact Bool.false_ne_true
    exact call_meets F.slot_list_extend ⟨_, e, rfl⟩ F.entry_list_extend (F.args_list_extend_2 _ _)
      (PySem.PD0.list_extend_tuple l its.toArray n b its2.toArray n2 _ _ hlong (by rw [List.size_toArray]; omega) (by omega)) ⟨e, e2, fin its2 r2⟩
/-- xs + ys -/
def rCatG (K : PySem.W.Frag) : R2 := fun x y H Q => ∃ l b xs zs, x = .ref l ∧ y = .ref b ∧ SqL K H l xs ∧ SqL K H b zs ∧ xs.length + zs.length ≤ sizeLine ∧ ∀ p, H p = none → Q (.ref p) (upd H p (.lst (xs ++ zs)))
theorem op_catG : OpR X (binaryOp .Add) (rCatG X.K) := by
  intro pins s σ H x y v u Q I rx ry h
  obtain ⟨l, b, xs, zs, rfl, rfl, hH, hB, hz, q⟩ := h
  cases rx
  cases ry
  obtain ⟨its, r, p1, _⟩ := I.list hH
  obtain ⟨its2, r2, p2, _⟩ := I.list hB
  have hl := r.length
  have hl2 := r2.length
  obtain ⟨⟨cls, dd, data, sl⟩, n, ho, hc, _, hd⟩ := p1
  obtain ⟨⟨cls2, dd2, data2, sl2⟩, n2, ho2, hc2, _, hd2⟩ := p2
  simp only at hc hd hc2 hd2
  subst hc hd hc2 hd2
  have e : its.toArray ++ its2.toArray = (its ++ its2).toArray := by simp
  refine concat_meets ⟨_, ho, rfl⟩ ⟨_, ho2, rfl⟩ noFill_list_add seq_list_add PySem.F.slot_list_add PySem.F.entry_list_add (PySem.F.args_list_add_2 _ _) (list_addW l b its.toArray its2.toArray n n2 dd dd2 sl sl2 (by rw [List.size_toArray, List.size_toArray]; omega)) ⟨ho, ho2, ?_⟩
  rw [e]
  exact ⟨.ref _, _, I.lnew (t' := s.toks) (r.append r2) (by rw [List.length_append]; omega), rfl, q _ I.fresh⟩
end
end PD

set_option Elab.async false
set_option linter.all false
set_option maxRecDepth 100000
/-! The data layer, 1: values that are data, environments, what a reading computes. -/
namespace PD
open PySem PySem.Spec PyProof.Rows L2
abbrev Frag := PySem.W.Frag
abbrev D := PyData
/-- a key as data -/
def keyD : Key → D
  | .inl i => .int i
  | .inr x => .str x
mutual
/-- v is the data d, read in the part G of the heap that never changes -/
def Rep (K : Frag) (G : Hp) : D → V → Prop
  | .none, v => v = .non
  | .bool b, v => v = .bl b
  | .int i, v => v = .int i
  | .str x, v => v = .str x
  | .list ds, v => ds.length ≤ sizeLine ∧ ∃ a xs, v = .ref a ∧ SqL K G a xs ∧ RepL K G ds xs
  | .tuple ds, v => ds.length ≤ sizeLine ∧ ∃ a xs, v = .ref a ∧ SqT K G a xs ∧ RepL K G ds xs
  | .dict es, v => ∃ a kvs, v = .ref a ∧ Rd G a (.dK kvs) ∧ RepK K G es kvs
def RepL (K : Frag) (G : Hp) : List D → List V → Prop
  | [], vs => vs = []
  | d :: ds, vs => ∃ v r, vs = v :: r ∧ Rep K G d v ∧ RepL K G ds r
def RepK (K : Frag) (G : Hp) : List (D × D) → List (Key × V) → Prop
  | [], kvs => kvs = []
  | (k, d) :: es, kvs => ∃ k' v r, kvs = (k', v) :: r ∧ k = keyD k' ∧ Rep K G d v ∧ RepK K G es r
end
section
variable {K : Frag} {G G' : Hp}
theorem Same.rd {H H' : Hp} {a : Addr} {u : HO} (e : Same H H') (h : Rd H a u) : Rd H' a u := by
  rcases h with h | ⟨o, h⟩
  · exact .inl (e _ _ h)
  · exact .inr ⟨o, e _ _ h⟩
theorem Same.sqt {H H' : Hp} {a : Addr} {xs : List V} (e : Same H H') (h : SqT K H a xs) : SqT K H' a xs := by
  rcases h with h | h
  · exact .inl (Same.rd e h)
  · exact .inr h
mutual
theorem Rep.mono (e : Same G G') : ∀ (d : D) (v : V), Rep K G d v → Rep K G' d v
  | .none, _, h => by unfold Rep at *; exact h
  | .bool _, _, h => by unfold Rep at *; exact h
  | .int _, _, h => by unfold Rep at *; exact h
  | .str _, _, h => by unfold Rep at *; exact h
  | .list ds, v, h => by
    unfold Rep at *
    obtain ⟨z, a, xs, hv, hs, hr⟩ := h
    exact ⟨z, a, xs, hv, e.seq hs, RepL.mono e ds xs hr⟩
  | .tuple ds, v, h => by
    unfold Rep at *
    obtain ⟨z, a, xs, hv, hs, hr⟩ := h
    exact ⟨z, a, xs, hv, Same.sqt e hs, RepL.mono e ds xs hr⟩
  | .dict es, v, h => by
    unfold Rep at *
    obtain ⟨a, xs, hv, hs, hr⟩ := h
    exact ⟨a, xs, hv, Same.rd e hs, RepK.mono e es xs hr⟩
theorem RepL.mono (e : Same G G') : ∀ (ds : List D) (vs : List V), RepL K G ds vs → RepL K G' ds vs
  | [], _, h => by unfold RepL at *; exact h
  | d :: ds, vs, h => by
    unfold RepL at *
    obtain ⟨v, r, hv, h1, h2⟩ := h
    exact ⟨v, r, hv, Rep.mono e d v h1, RepL.mono e ds r h2⟩
theorem RepK.mono (e : Same G G') : ∀ (ds : List (D × D)) (vs : List (Key × V)), RepK K G ds vs → RepK K G' ds vs
  | [], _, h => by unfold RepK at *; exact h
  | (k, d) :: ds, vs, h => by
    unfold RepK at *
    obtain ⟨k', v, r, hv, hk, h1, h2⟩ := h
    exact ⟨k', v, r, hv, hk, Rep.mono e d v h1, RepK.mono e ds r h2⟩
end

theorem repL_nil {vs : List V} : RepL K G [] vs ↔ vs = [] := by unfold RepL; exact Iff.rfl
theorem repL_cons {d : D} {ds : List D} {v : V} {vs : List V} : RepL K G (d :: ds) (v :: vs) ↔ Rep K G d v ∧ RepL K G ds vs := by
  constructor
  · intro h
    unfold RepL at h
    obtain ⟨v', r, e, h1, h2⟩ := h
    cases e
    exact ⟨h1, h2⟩
  · intro ⟨h1, h2⟩
    unfold RepL
    exact ⟨v, vs, rfl, h1, h2⟩
theorem RepL.cons {d : D} {ds : List D} {v : V} {vs : List V} (h : Rep K G d v) (t : RepL K G ds vs) : RepL K G (d :: ds) (v :: vs) := repL_cons.mpr ⟨h, t⟩
theorem RepL.nil : RepL K G [] [] := repL_nil.mpr rfl
theorem repL_iff : ∀ {ds : List D} {vs : List V}, RepL K G ds vs ↔ ds.length = vs.length ∧ ∀ (i : Nat) d v, ds[i]? = some d → vs[i]? = some v → Rep K G d v
  | [], vs => by
    rw [repL_nil]
    constructor
    · rintro rfl
      exact ⟨rfl, fun i d v h => by simp at h⟩
    · rintro ⟨h, _⟩
      cases vs with
      | nil => rfl
      | cons _ _ => cases h
  | d :: ds, [] => by
    constructor
    · intro h
      unfold RepL at h
      obtain ⟨_, _, e, _⟩ := h
      cases e
    · rintro ⟨h, _⟩
      cases h
  | d :: ds, v :: vs => by
    rw [repL_cons, repL_iff (ds := ds) (vs := vs)]
    constructor
    · rintro ⟨h, hl, ht⟩
      refine ⟨by simp [hl], fun i d' v' e1 e2 => ?_⟩
      cases i with
      | zero => simp at e1 e2; subst e1 e2; exact h
      | succ i => simp at e1 e2; exact ht i _ _ e1 e2
    · rintro ⟨hl, ht⟩
      exact ⟨ht 0 d v rfl rfl, by simpa using hl, fun i d' v' e1 e2 => ht (i + 1) d' v' (by simpa using e1) (by simpa using e2)⟩
theorem RepL.len {ds : List D} {vs : List V} (h : RepL K G ds vs) : ds.length = vs.length := (repL_iff.mp h).1
theorem RepL.at {ds : List D} {vs : List V} (h : RepL K G ds vs) {i : Nat} {d : D} (e : ds[i]? = some d) : ∃ v, vs[i]? = some v ∧ Rep K G d v := by
  have hi : i < ds.length := by
    rcases Nat.lt_or_ge i ds.length with q | q
    · exact q
    · rw [List.getElem?_eq_none q] at e; cases e
  have hv : i < vs.length := by rw [← h.len]; exact hi
  exact ⟨vs[i], List.getElem?_eq_getElem hv, (repL_iff.mp h).2 i d _ e (List.getElem?_eq_getElem hv)⟩
theorem RepL.atV {ds : List D} {vs : List V} (h : RepL K G ds vs) {i : Nat} {v : V} (e : vs[i]? = some v) : ∃ d, ds[i]? = some d ∧ Rep K G d v := by
  have hi : i < vs.length := by
    rcases Nat.lt_or_ge i vs.length with q | q
    · exact q
    · rw [List.getElem?_eq_none q] at e; cases e
  have hv : i < ds.length := by rw [h.len]; exact hi
  exact ⟨ds[i], List.getElem?_eq_getElem hv, (repL_iff.mp h).2 i _ v (List.getElem?_eq_getElem hv) e⟩
theorem RepL.append : ∀ {ds es : List D} {vs us : List V}, RepL K G ds vs → RepL K G es us → RepL K G (ds ++ es) (vs ++ us)
  | [], es, vs, us, h, h' => by rw [repL_nil.mp h]; exact h'
  | d :: ds, es, [], us, h, h' => by unfold RepL at h; obtain ⟨_, _, e, _⟩ := h; cases e
  | d :: ds, es, v :: vs, us, h, h' => RepL.cons (repL_cons.mp h).1 (RepL.append (repL_cons.mp h).2 h')
theorem RepL.one {d : D} {v : V} (h : Rep K G d v) : RepL K G [d] [v] := RepL.cons h RepL.nil
theorem RepL.of_idx {ds es : List D} {vs us : List V} (h : RepL K G ds vs) (hl : es.length = us.length) (f : Nat → Nat) (h1 : ∀ i, i < es.length → es[i]? = ds[f i]? ∧ us[i]? = vs[f i]?) : RepL K G es us := by
  refine repL_iff.mpr ⟨hl, fun i d v e1 e2 => ?_⟩
  have hi : i < es.length := by
    rcases Nat.lt_or_ge i es.length with q | q
    · exact q
    · rw [List.getElem?_eq_none q] at e1; cases e1
  obtain ⟨q1, q2⟩ := h1 i hi
  exact (repL_iff.mp h).2 (f i) d v (q1.symm.trans e1) (q2.symm.trans e2)
theorem RepL.take {ds : List D} {vs : List V} (n : Nat) (h : RepL K G ds vs) : RepL K G (ds.take n) (vs.take n) := by
  refine h.of_idx (by simp [h.len]) id fun i hi => ?_
  simp only [List.length_take] at hi
  simp only [id, List.getElem?_take]
  rw [if_pos (by omega), if_pos (by omega)]
  exact ⟨rfl, rfl⟩
theorem RepL.drop {ds : List D} {vs : List V} (n : Nat) (h : RepL K G ds vs) : RepL K G (ds.drop n) (vs.drop n) := by
  refine h.of_idx (by simp [h.len]) (fun i => n + i) fun i hi => ?_
  simp only [List.getElem?_drop]
  exact ⟨trivial, trivial⟩
theorem RepL.reverse {ds : List D} {vs : List V} (h : RepL K G ds vs) : RepL K G ds.reverse vs.reverse := by
  refine h.of_idx (by simp [h.len]) (fun i => ds.length - 1 - i) fun i hi => ?_
  rw [List.length_reverse] at hi
  rw [List.getElem?_reverse hi, List.getElem?_reverse (by rw [← h.len]; exact hi), h.len]
  exact ⟨rfl, rfl⟩
theorem RepL.set {ds : List D} {vs : List V} {d : D} {v : V} (h : RepL K G ds vs) (j : Nat) (hd : Rep K G d v) : RepL K G (ds.set j d) (vs.set j v) := by
  refine repL_iff.mpr ⟨by simp [h.len], fun i d' v' e1 e2 => ?_⟩
  by_cases hj : j = i
  · subst hj
    by_cases hl : j < ds.length
    · rw [List.getElem?_set_self hl] at e1
      rw [List.getElem?_set_self (by rw [← h.len]; exact hl)] at e2
      cases e1; cases e2; exact hd
    · rw [List.getElem?_eq_none (by simpa using hl)] at e1; cases e1
  · rw [List.getElem?_set_ne hj] at e1 e2
    exact (repL_iff.mp h).2 i _ _ e1 e2
theorem RepL.eraseIdx {ds : List D} {vs : List V} (h : RepL K G ds vs) (j : Nat) : RepL K G (ds.eraseIdx j) (vs.eraseIdx j) := by
  by_cases hj : j < ds.length
  · refine h.of_idx (by rw [List.length_eraseIdx, List.length_eraseIdx, h.len]) (fun i => if i < j then i else i + 1) fun i hi => ?_
    rw [List.getElem?_eraseIdx, List.getElem?_eraseIdx]
    split <;> exact ⟨rfl, rfl⟩
  · rw [List.eraseIdx_of_length_le (by omega), List.eraseIdx_of_length_le (by rw [← h.len]; omega)]
    exact h
theorem RepL.dropLast {ds : List D} {vs : List V} (h : RepL K G ds vs) : RepL K G ds.dropLast vs.dropLast := by
  rw [List.dropLast_eq_take, List.dropLast_eq_take, ← h.len]
  exact h.take _
theorem RepL.repl {d : D} {v : V} (h : Rep K G d v) : ∀ n : Nat, RepL K G (List.replicate n d) (List.replicate n v)
  | 0 => RepL.nil
  | n + 1 => RepL.cons h (RepL.repl h n)
theorem repL_ints : ∀ {ns : List Int} {vs : List V}, RepL K G (ns.map PyData.int) vs ↔ vs = ns.map V.int
  | [], vs => repL_nil
  | n :: ns, [] => by
    constructor
    · intro h; have := h.len; simp at this
    · intro h; simp at h
  | n :: ns, v :: vs => by
    rw [List.map_cons, repL_cons, repL_ints, List.map_cons]
    constructor
    · rintro ⟨h, rfl⟩
      unfold Rep at h
      rw [h]
    · intro h
      cases h
      exact ⟨by unfold Rep; rfl, rfl⟩
end

/-! ### growing heaps: H the tracked heap, G its part that never changes -/
structure Gr (G H G' H' : Hp) : Prop where
  hh : Same H H'
  gg : Same G G'
  gh : Same G' H'
  nw : ∀ a, G a = none → H a ≠ none → G' a = none
theorem Gr.rfl' {G H : Hp} (h : Same G H) : Gr G H G H := ⟨Same.refl _, Same.refl _, h, fun _ x _ => x⟩
theorem Gr.trans {G H G1 H1 G2 H2 : Hp} (a : Gr G H G1 H1) (b : Gr G1 H1 G2 H2) : Gr G H G2 H2 :=
  ⟨a.hh.trans b.hh, a.gg.trans b.gg, b.gh, fun p h1 h2 => b.nw p (a.nw p h1 h2) (fun e => by
    cases q : H p with
    | none => exact h2 q
    | some o => rw [a.hh p o q] at e; cases e)⟩
theorem same_new {H : Hp} {p : Addr} (h : H p = none) (o : HO) : Same H (upd H p o) := fun b u q => by rw [upd_ne (ne_of_none q h)]; exact q
/-- a new object, frozen at once -/
theorem Gr.new {G H : Hp} {p : Addr} (s : Same G H) (h : H p = none) (o : HO) : Gr G H (upd G p o) (upd H p o) :=
  ⟨same_new h o, same_new (L2.Same.free s h) o, fun b u q => by
    by_cases e : b = p
    · subst e; rw [upd_same] at q ⊢; exact q
    · rw [upd_ne e] at q ⊢; exact s b u q, fun a h1 h2 => by
    by_cases e : a = p
    · subst e; exact absurd h h2
    · rw [upd_ne e]; exact h1⟩
/-- a new object that may still change -/
theorem Gr.tmp {G H : Hp} {p : Addr} (s : Same G H) (h : H p = none) (o : HO) : Gr G H G (upd H p o) :=
  ⟨same_new h o, Same.refl _, s.trans (same_new h o), fun _ x _ => x⟩
/-- what stands in the heap is frozen -/
theorem Gr.frz {G H : Hp} {p : Addr} {o : HO} (s : Same G H) (h : H p = some o) : ∀ {G0 H0 : Hp}, Gr G0 H0 G H → H0 p = none → Gr G0 H0 (upd G p o) H := fun {G0 H0} g h0 =>
  ⟨g.hh, g.gg.trans fun b u q => by
    by_cases e : b = p
    · subst e; rw [s b u q] at h; rw [h, upd_same]
    · rw [upd_ne e]; exact q, fun b u q => by
    by_cases e : b = p
    · subst e; rw [upd_same] at q; cases q; exact h
    · rw [upd_ne e] at q; exact s b u q, fun a h1 h2 => by
    by_cases e : a = p
    · subst e; exact absurd h0 h2
    · rw [upd_ne e]; exact g.nw a h1 h2⟩
theorem Gr.isNone {G H G' H' : Hp} (g : Gr G H G' H') {p : Addr} (h : H' p = none) : H p = none := g.hh.free h
theorem rep_new_list {K : Frag} {G : Hp} {p : Addr} {ds : List D} {vs : List V} (hn : G p = none) (z : ds.length ≤ sizeLine) (h : RepL K G ds vs) : Rep K (upd G p (.lst vs)) (.list ds) (.ref p) := by
  unfold Rep
  exact ⟨z, p, vs, rfl, .inl (.inl upd_same), RepL.mono (same_new hn _) _ _ h⟩
theorem rep_new_tup {K : Frag} {G : Hp} {p : Addr} {ds : List D} {vs : List V} (hn : G p = none) (z : ds.length ≤ sizeLine) (h : RepL K G ds vs) : Rep K (upd G p (.tup vs)) (.tuple ds) (.ref p) := by
  unfold Rep
  exact ⟨z, p, vs, rfl, .inl (.inl upd_same), RepL.mono (same_new hn _) _ _ h⟩

/-! ### environments -/
/-- a mutable object's content -/
inductive Ob where
  | l (ds : List D)
  | d (es : List (Key × D))
def Ob.data : Ob → D
  | .l ds => .list ds
  | .d es => .dict (es.map fun p => (keyD p.1, p.2))
inductive Ent where
  /-- nothing is known -/
  | un
  /-- data that never changes -/
  | fr (d : D)
  /-- an object of this def's own -/
  | ow (o : Ob)
  /-- an object that the caller handed in to be changed -/
  | pm (o : Ob)
  /-- the exception that an except suite holds -/
  | xc (a : Addr)
abbrev Env := List Ent
abbrev Sl := L2.St
def RepKD (K : Frag) (G : Hp) (es : List (Key × D)) (kvs : List (Key × V)) : Prop := RepK K G (es.map fun p => (keyD p.1, p.2)) kvs ∧ es.map (·.1) = kvs.map (·.1)
def ObIs (K : Frag) (G : Hp) : Ob → HO → Prop
  | .l ds, ho => ds.length ≤ sizeLine ∧ ∃ vs, ho = .lst vs ∧ RepL K G ds vs
  | .d es, ho => ∃ kvs, ho = .dK kvs ∧ RepKD K G es kvs
theorem ObIs.mono {K : Frag} {G G' : Hp} (e : Same G G') : ∀ {o : Ob} {ho : HO}, ObIs K G o ho → ObIs K G' o ho
  | .l _, _, ⟨z, vs, h, r⟩ => ⟨z, vs, h, RepL.mono e _ _ r⟩
  | .d _, _, ⟨vs, h, r, r'⟩ => ⟨vs, h, RepK.mono e _ _ r, r'⟩
/-- the object at p is o, and it isn't frozen -/
def Own (K : Frag) (G H : Hp) (o : Ob) (p : Addr) : Prop := G p = none ∧ ∃ ho, H p = some ho ∧ ObIs K G o ho
theorem Own.grow {K : Frag} {G H G' H' : Hp} (g : Gr G H G' H') {o : Ob} {p : Addr} (h : Own K G H o p) : Own K G' H' o p := by
  obtain ⟨h1, ho, h2, h3⟩ := h
  exact ⟨g.nw p h1 (by rw [h2]; simp), ho, g.hh _ _ h2, h3.mono g.gg⟩
def EntOk (K : Frag) (G H : Hp) (e : Ent) (sv : Option (Option V)) : Prop := match e with
  | .un => True
  | .fr d => ∃ v, sv = some (some v) ∧ Rep K G d v
  | .ow o => ∃ p, sv = some (some (.ref p)) ∧ Own K G H o p
  | .pm o => ∃ p, sv = some (some (.ref p)) ∧ Own K G H o p
  | .xc a => sv = some (some (.ref a))
def Ent.owned : Ent → Bool
  | .ow _ => true
  | .pm _ => true
  | _ => false
/-- how the heap stood at the def's entry -/
structure Bs where
  H0 : Hp
  G0 : Hp
  pin : List (Nat × Addr)
/-- what stood at the entry stands as it was, but for what was handed in to be changed -/
def Kp (B : Bs) (H : Hp) : Prop := ∀ b o, (∀ i, (i, b) ∉ B.pin) → B.H0 b = some o → H b = some o
theorem Kp.grow {B : Bs} {H H' : Hp} (k : Kp B H) (e : Same H H') : Kp B H' := fun b o h1 h2 => e _ _ (k b o h1 h2)
structure DInv (K : Frag) (B : Bs) (ρ : Env) (σ : Sl) (G H : Hp) : Prop where
  len : σ.length = ρ.length
  ent : ∀ (i : Nat) (e : Ent), ρ[i]? = some e → EntOk K G H e σ[i]?
  dis : ∀ (i j : Nat) (e e' : Ent) (p : Addr), ρ[i]? = some e → ρ[j]? = some e' → e.owned = true → e'.owned = true → σ[i]? = some (some (.ref p)) → σ[j]? = some (some (.ref p)) → i = j
  pin : ∀ (i : Nat) (o : Ob), ρ[i]? = some (.pm o) → ∃ p, (i, p) ∈ B.pin ∧ σ[i]? = some (some (.ref p))
  own : ∀ (i : Nat) (o : Ob) (p : Addr), ρ[i]? = some (.ow o) → σ[i]? = some (some (.ref p)) → B.H0 p = none
  kp : Kp B H
  gg : Same B.G0 G
  gh : Same G H
  nw : ∀ a, B.G0 a = none → B.H0 a ≠ none → G a = none
  trk : ∀ b, B.H0 b ≠ none → H b ≠ none
section
variable {K : Frag} {B : Bs} {ρ : Env} {σ : Sl} {G H G' H' : Hp}
theorem Same.nn {H H' : Hp} (e : Same H H') {b : Addr} (h : H b ≠ none) : H' b ≠ none := fun q => h (e.free q)
theorem DInv.grow (I : DInv K B ρ σ G H) (g : Gr G H G' H') : DInv K B ρ σ G' H' where
  len := I.len
  ent := fun i e h => by
    have q := I.ent i e h
    cases e with
    | un => trivial
    | fr d => obtain ⟨v, h1, h2⟩ := q; exact ⟨v, h1, Rep.mono g.gg _ _ h2⟩
    | ow o => obtain ⟨p, h1, h2⟩ := q; exact ⟨p, h1, h2.grow g⟩
    | pm o => obtain ⟨p, h1, h2⟩ := q; exact ⟨p, h1, h2.grow g⟩
    | xc a => exact q
  dis := I.dis
  pin := I.pin
  own := I.own
  kp := I.kp.grow g.hh
  gg := I.gg.trans g.gg
  gh := g.gh
  nw := fun a h1 h2 => g.nw a (I.nw a h1 h2) (I.trk a h2)
  trk := fun b h => PD.Same.nn g.hh (I.trk b h)
theorem DInv.fresh (I : DInv K B ρ σ G H) {p : Addr} (h : H p = none) : B.H0 p = none := by
  cases q : B.H0 p with
  | none => rfl
  | some o => exact absurd h (I.trk p (by rw [q]; simp))
theorem DInv.gr (I : DInv K B ρ σ G H) : Gr G H G H := Gr.rfl' I.gh
end
end PD

set_option Elab.async false
set_option linter.all false
set_option maxRecDepth 100000
/-! The data layer, 2: what a reading computes: expressions. -/
namespace PD
open PySem PySem.Spec PyProof.Rows L2
inductive Res (α : Type) where
  | ok (a : α)
  | exc (c : Str)
  | stuck
def Res.bind {α β : Type} (r : Res α) (f : α → Res β) : Res β := match r with
  | .ok a => f a
  | .exc c => .exc c
  | .stuck => .stuck
def Res.of {α : Type} (o : Option α) : Res α := match o with
  | some a => .ok a
  | none => .stuck
/-- how a result of the heap stands for a plain one: the heap ahead, the frozen part and the heap behind -/
abbrev Rl (α β : Type) := Hp → Hp → Hp → α → β → Prop
def rlV (K : Frag) : Rl D V := fun _ G _ d v => Rep K G d v
def rlR (K : Frag) : Rl D V := fun _ G H d v => Rep K G d v ∨ ∃ p o, v = .ref p ∧ Own K G H o p ∧ d = o.data
def rlB : Rl Bool Bool := fun _ _ _ a b => b = a
def rlL (K : Frag) : Rl (List D) (List V) := fun _ G _ ds vs => RepL K G ds vs
/-- a list of what may be read -/
def ReadL (K : Frag) (G H : Hp) : List D → List V → Prop
  | [], vs => vs = []
  | d :: ds, vs => ∃ v r, vs = v :: r ∧ rlR K H G H d v ∧ ReadL K G H ds r
def rlLR (K : Frag) : Rl (List D) (List V) := fun _ G H ds vs => ReadL K G H ds vs
/-- a new object -/
def rlN (K : Frag) : Rl Ob V := fun Ha G H o v => ∃ p, v = .ref p ∧ Ha p = none ∧ Own K G H o p
section
variable {α β γ δ : Type} {K : Frag} {W : Str → Hp → Prop} {B : Bs} {ρ : Env} {σ : Sl} {G H G' H' : Hp}
/-- what must be wanted -/
def OkR (W : Str → Hp → Prop) (B : Bs) (rel : Rl α β) (G H : Hp) (r : Res α) (Q : β → Hp → Prop) : Prop := match r with
  | .ok a => ∀ b G' H', Gr G H G' H' → rel H G' H' a b → Q b H'
  | .exc c => ∀ H', Kp B H' → W c H'
  | .stuck => False
/-- a reading computes f -/
def J (K : Frag) (W : Str → Hp → Prop) (rel : Rl α β) (te : Sl → Hp → (β → Hp → Prop) → Prop) (f : Env → Res α) : Prop :=
  ∀ (B : Bs) (ρ : Env) (σ : Sl) (G H : Hp), DInv K B ρ σ G H → ∀ Q, OkR W B rel G H (f ρ) Q → te σ H Q
def Anti (rel : Rl α β) : Prop := ∀ H H1 G' H' a b, Same H H1 → rel H1 G' H' a b → rel H G' H' a b
theorem anti_V : Anti (rlV K) := fun _ _ _ _ _ _ _ h => h
theorem anti_R : Anti (rlR K) := fun _ _ _ _ _ _ _ h => h
theorem anti_B : Anti rlB := fun _ _ _ _ _ _ _ h => h
theorem anti_L : Anti (rlL K) := fun _ _ _ _ _ _ _ h => h
theorem anti_LR : Anti (rlLR K) := fun _ _ _ _ _ _ _ h => h
theorem anti_N : Anti (rlN K) := fun _ _ _ _ _ _ e ⟨p, h1, h2, h3⟩ => ⟨p, h1, e.free h2, h3⟩
theorem OkR.grow {rel : Rl α β} {r : Res α} {Q : β → Hp → Prop} (an : Anti rel) (h : OkR W B rel G H r Q) (g : Gr G H G' H') : OkR W B rel G' H' r Q := by
  cases r with
  | ok a => exact fun b G1 H1 g1 r1 => h b G1 H1 (g.trans g1) (an _ _ _ _ _ _ g.hh r1)
  | exc c => exact h
  | stuck => exact h
theorem OkR.bind {rel : Rl α β} {rel' : Rl γ δ} {r : Res α} {k : α → Res γ} {Q : δ → Hp → Prop} (an : Anti rel') (I : DInv K B ρ σ G H) (h : OkR W B rel' G H (r.bind k) Q) :
    OkR W B rel G H r (fun b H1 => ∃ a G1, Gr G H G1 H1 ∧ rel H G1 H1 a b ∧ DInv K B ρ σ G1 H1 ∧ OkR W B rel' G1 H1 (k a) Q) := by
  cases r with
  | ok a => exact fun b G1 H1 g1 r1 => ⟨a, G1, g1, r1, I.grow g1, OkR.grow an h g1⟩
  | exc c => exact h
  | stuck => exact h
/-- on data alone: an operation that may not be -/
def OkO (rel : Rl α β) (G H : Hp) (r : Option α) (Q : β → Hp → Prop) : Prop := match r with
  | some a => ∀ b G' H', Gr G H G' H' → rel H G' H' a b → Q b H'
  | none => False
theorem OkR.of {rel : Rl α β} {r : Option α} {Q : β → Hp → Prop} (h : OkR W B rel G H (Res.of r) Q) : OkO rel G H r Q := by
  cases r with
  | some a => exact h
  | none => exact h
theorem rlR.grow {Ha Hb : Hp} {d : D} {v : V} (g : Gr G H G' H') (h : rlR K Ha G H d v) : rlR K Hb G' H' d v := by
  rcases h with h | ⟨p, o, h1, h2, h3⟩
  · exact .inl (Rep.mono g.gg _ _ h)
  · exact .inr ⟨p, o, h1, h2.grow g, h3⟩
theorem ReadL.grow (g : Gr G H G' H') : ∀ {ds : List D} {vs : List V}, ReadL K G H ds vs → ReadL K G' H' ds vs
  | [], _, h => h
  | d :: ds, vs, h => by
    obtain ⟨v, r, e, h1, h2⟩ := h
    exact ⟨v, r, e, rlR.grow g h1, ReadL.grow g h2⟩
/-! what may be read, by kinds -/
theorem rd_int {Ha : Hp} {i : Int} {v : V} (h : rlR K Ha G H (.int i) v) : v = .int i := by
  rcases h with h | ⟨p, o, _, _, h3⟩
  · exact h
  · cases o <;> cases h3
theorem rd_bool {Ha : Hp} {i : Bool} {v : V} (h : rlR K Ha G H (.bool i) v) : v = .bl i := by
  rcases h with h | ⟨p, o, _, _, h3⟩
  · exact h
  · cases o <;> cases h3
theorem rd_str {Ha : Hp} {i : Str} {v : V} (h : rlR K Ha G H (.str i) v) : v = .str i := by
  rcases h with h | ⟨p, o, _, _, h3⟩
  · exact h
  · cases o <;> cases h3
theorem rd_none {Ha : Hp} {v : V} (h : rlR K Ha G H .none v) : v = .non := by
  rcases h with h | ⟨p, o, _, _, h3⟩
  · exact h
  · cases o <;> cases h3
theorem rd_tup {Ha : Hp} {ds : List D} {v : V} (s : Same G H) (h : rlR K Ha G H (.tuple ds) v) : ds.length ≤ sizeLine ∧ ∃ a xs, v = .ref a ∧ SqT K H a xs ∧ RepL K G ds xs := by
  rcases h with h | ⟨p, o, _, _, h3⟩
  · unfold Rep at h
    obtain ⟨z, a, xs, h1, h2, h3⟩ := h
    exact ⟨z, a, xs, h1, Same.sqt s h2, h3⟩
  · cases o <;> cases h3
theorem rd_list {Ha : Hp} {ds : List D} {v : V} (s : Same G H) (h : rlR K Ha G H (.list ds) v) : ds.length ≤ sizeLine ∧ ∃ a xs, v = .ref a ∧ SqL K H a xs ∧ RepL K G ds xs := by
  rcases h with h | ⟨p, o, h1, ⟨_, ho, h4, h5⟩, h3⟩
  · unfold Rep at h
    obtain ⟨z, a, xs, h1, h2, h3⟩ := h
    exact ⟨z, a, xs, h1, s.seq h2, h3⟩
  · cases o with
    | l es =>
      obtain ⟨z, vs, e1, e2⟩ := h5
      cases h3
      subst e1
      exact ⟨z, p, vs, h1, .inl (.inl h4), e2⟩
    | d es => cases h3
theorem rep_int {i : Int} {v : V} (h : Rep K G (.int i) v) : v = .int i := h
theorem rep_bool {i : Bool} {v : V} (h : Rep K G (.bool i) v) : v = .bl i := h
theorem mk_int {i : Int} : Rep K G (.int i) (.int i) := by unfold Rep; rfl
theorem mk_bool {i : Bool} : Rep K G (.bool i) (.bl i) := by unfold Rep; rfl
theorem mk_str {i : Str} : Rep K G (.str i) (.str i) := by unfold Rep; rfl
theorem mk_none : Rep K G .none .non := by unfold Rep; rfl
end

/-! ### judgements by kinds -/
section
variable {K : Frag} {W : Str → Hp → Prop}
abbrev ET (K : Frag) (W : Str → Hp → Prop) (te : TE) (f : Env → Res D) : Prop := J K W (rlV K) te f
abbrev ER (K : Frag) (W : Str → Hp → Prop) (te : TE) (f : Env → Res D) : Prop := J K W (rlR K) te f
abbrev EN (K : Frag) (W : Str → Hp → Prop) (te : TE) (f : Env → Res Ob) : Prop := J K W (rlN K) te f
abbrev EB (K : Frag) (W : Str → Hp → Prop) (tt : TT) (f : Env → Res Bool) : Prop := J K W rlB tt f
abbrev EA (K : Frag) (W : Str → Hp → Prop) (ta : TA) (f : Env → Res (List D)) : Prop := J K W (rlL K) ta f
abbrev EAR (K : Frag) (W : Str → Hp → Prop) (ta : TA) (f : Env → Res (List D)) : Prop := J K W (rlLR K) ta f
theorem ET.r {te : TE} {f : Env → Res D} (h : ET K W te f) : ER K W te f := fun B ρ σ G H I Q hQ => by
  refine h B ρ σ G H I Q ?_
  cases e : f ρ with
  | ok a => rw [e] at hQ; exact fun b G' H' g r => hQ b G' H' g (.inl r)
  | exc c => rw [e] at hQ; exact hQ
  | stuck => rw [e] at hQ; exact hQ
def dOb (f : Env → Res Ob) : Env → Res D := fun ρ => (f ρ).bind fun o => .ok o.data
theorem own_frz {K : Frag} {G H : Hp} {o : Ob} {p : Addr} (h : Own K G H o p) : ∃ ho, H p = some ho ∧ Rep K (upd G p ho) o.data (.ref p) := by
  obtain ⟨h1, ho, h2, h3⟩ := h
  refine ⟨ho, h2, ?_⟩
  cases o with
  | l ds =>
    obtain ⟨z, vs, rfl, r⟩ := h3
    exact rep_new_list h1 z r
  | d es =>
    obtain ⟨kvs, rfl, r, _⟩ := h3
    unfold Ob.data Rep
    exact ⟨p, kvs, rfl, .inl upd_same, RepK.mono (same_new h1 _) _ _ r⟩
/-- a new object as data -/
theorem EN.t {te : TE} {f : Env → Res Ob} (h : EN K W te f) : ET K W te (dOb f) := fun B ρ σ G H I Q hQ => by
  refine h B ρ σ G H I Q ?_
  unfold dOb at hQ
  cases e : f ρ with
  | ok o =>
    rw [e] at hQ
    rintro b G' H' g ⟨p, rfl, hp, hO⟩
    obtain ⟨ho, h2, h3⟩ := own_frz hO
    exact hQ _ _ _ (Gr.frz g.gh h2 g hp) h3
  | exc c => rw [e] at hQ; exact hQ
  | stuck => rw [e] at hQ; exact hQ

/-! ### names and constants -/
def dC (d : D) : Env → Res D := fun _ => .ok d
def dV (i : Nat) : Env → Res D := fun ρ => match ρ[i]? with
  | some (.fr d) => .ok d
  | _ => .stuck
/-- a name that is read alone -/
def dVr (i : Nat) : Env → Res D := fun ρ => match ρ[i]? with
  | some (.fr d) => .ok d
  | some (.ow o) => .ok o.data
  | some (.pm o) => .ok o.data
  | _ => .stuck
theorem et_c {d : D} {v : V} (h : ∀ G, Rep K G d v) : ET K W (tC v) (dC d) := fun B ρ σ G H I Q hQ => hQ v G H I.gr (h G)
theorem et_int {i : Int} : ET K W (tC (.int i)) (dC (.int i)) := et_c fun _ => mk_int
theorem et_bl {i : Bool} : ET K W (tC (.bl i)) (dC (.bool i)) := et_c fun _ => mk_bool
theorem et_str {i : Str} : ET K W (tC (.str i)) (dC (.str i)) := et_c fun _ => mk_str
theorem et_non : ET K W (tC .non) (dC .none) := et_c fun _ => mk_none
theorem et_v {i : Nat} : ET K W (tVar i) (dV i) := fun B ρ σ G H I Q hQ => by
  unfold dV at hQ
  split at hQ
  · rename_i d e
    obtain ⟨v, h1, h2⟩ := I.ent _ _ e
    exact ⟨v, h1, hQ v G H I.gr h2⟩
  · exact hQ.elim
theorem er_v {i : Nat} : ER K W (tVar i) (dVr i) := fun B ρ σ G H I Q hQ => by
  unfold dVr at hQ
  split at hQ
  · rename_i d e
    obtain ⟨v, h1, h2⟩ := I.ent _ _ e
    exact ⟨v, h1, hQ v G H I.gr (.inl h2)⟩
  · rename_i o e
    obtain ⟨p, h1, h2⟩ := I.ent _ _ e
    exact ⟨.ref p, h1, hQ _ G H I.gr (.inr ⟨p, o, rfl, h2, rfl⟩)⟩
  · rename_i o e
    obtain ⟨p, h1, h2⟩ := I.ent _ _ e
    exact ⟨.ref p, h1, hQ _ G H I.gr (.inr ⟨p, o, rfl, h2, rfl⟩)⟩
  · exact hQ.elim

/-! ### operations on two values, on one, calls of what is built in -/
/-- on values of the heap r does what g does on data -/
def DR2 {α : Type} (K : Frag) (rel : Rl α V) (r : R2) (g : D → D → Option α) : Prop :=
  ∀ G H x y d e, Same G H → rlR K H G H d x → rlR K H G H e y → ∀ Q, OkO rel G H (g d e) Q → r x y H Q
def DR1 {α : Type} (K : Frag) (rel : Rl α V) (r : V → Hp → VK → Prop) (g : D → Option α) : Prop :=
  ∀ G H x d, Same G H → rlR K H G H d x → ∀ Q, OkO rel G H (g d) Q → r x H Q
def DRC {α : Type} (K : Frag) (rel : Rl α V) (r : List V → Hp → VK → Prop) (g : List D → Option α) : Prop :=
  ∀ G H xs ds, Same G H → ReadL K G H ds xs → ∀ Q, OkO rel G H (g ds) Q → r xs H Q
def dOp {α : Type} (g : D → D → Option α) (fa fb : Env → Res D) : Env → Res α := fun ρ => (fa ρ).bind fun d => (fb ρ).bind fun e => Res.of (g d e)
def dUn {α : Type} (g : D → Option α) (fa : Env → Res D) : Env → Res α := fun ρ => (fa ρ).bind fun d => Res.of (g d)
def dCB {α : Type} (g : List D → Option α) (fa : Env → Res (List D)) : Env → Res α := fun ρ => (fa ρ).bind fun d => Res.of (g d)
section
variable {α : Type} {rel : Rl α V} {r : R2} {g : D → D → Option α} {ta tb : TE} {fa fb : Env → Res D}
theorem j_bind {α β γ δ : Type} {rel : Rl α β} {rel' : Rl γ δ} {ta : Sl → Hp → (β → Hp → Prop) → Prop} {fa : Env → Res α} {k : α → Res γ} {B : Bs} {ρ : Env} {σ : Sl} {G H : Hp} {Q : δ → Hp → Prop} {P : β → Hp → Prop} (an : Anti rel') (ha : J K W rel ta fa) (I : DInv K B ρ σ G H)
    (hQ : OkR W B rel' G H ((fa ρ).bind k) Q) (next : ∀ b a G1 H1, Gr G H G1 H1 → rel H G1 H1 a b → DInv K B ρ σ G1 H1 → OkR W B rel' G1 H1 (k a) Q → P b H1) : ta σ H P := by
  refine ha B ρ σ G H I P ?_
  have q := OkR.bind (rel := rel) an I hQ
  cases e : fa ρ with
  | ok a =>
    rw [e] at q
    intro b G1 H1 g1 r1
    obtain ⟨d, G1', g1', r1', I1, q1⟩ := q b G1 H1 g1 r1
    exact next b d G1' H1 g1' r1' I1 q1
  | exc c => rw [e] at q; exact q
  | stuck => rw [e] at q; exact q
theorem j_op (an : Anti rel) (ha : ER K W ta fa) (hb : ER K W tb fb) (hr : DR2 K rel r g) : J K W rel (tOp r ta tb) (dOp g fa fb) := fun B ρ σ G H I Q hQ =>
  j_bind (ta := ta) an ha I hQ fun x d G1 H1 g1 r1 I1 q1 => j_bind (ta := tb) an hb I1 q1 fun y e G2 H2 g2 r2 I2 q2 => hr G2 H2 x y d e I2.gh (rlR.grow g2 r1) (rlR.grow I2.gr r2) Q q2.of
theorem j_un {r : V → Hp → VK → Prop} {g : D → Option α} (an : Anti rel) (ha : ER K W ta fa) (hr : DR1 K rel r g) : J K W rel (tUn r ta) (dUn g fa) := fun B ρ σ G H I Q hQ =>
  j_bind (ta := ta) an ha I hQ fun x d G1 H1 g1 r1 I1 q1 => hr G1 H1 x d I1.gh (rlR.grow I1.gr r1) Q q1.of
theorem j_cb {r : List V → Hp → VK → Prop} {g : List D → Option α} {t : TA} {f : Env → Res (List D)} (an : Anti rel) (ha : EAR K W t f) (hr : DRC K rel r g) : J K W rel (tCB r t) (dCB g f) := fun B ρ σ G H I Q hQ =>
  j_bind (ta := t) an ha I hQ fun x d G1 H1 g1 r1 I1 q1 => hr G1 H1 x d I1.gh r1 Q q1.of
end
/-! ### argument lists, displays -/
def dNil : Env → Res (List D) := fun _ => .ok []
def dCons (f : Env → Res D) (fs : Env → Res (List D)) : Env → Res (List D) := fun ρ => (f ρ).bind fun d => (fs ρ).bind fun ds => .ok (d :: ds)
theorem ea_nil : EA K W tNil dNil := fun B ρ σ G H I Q hQ => hQ [] G H I.gr RepL.nil
theorem ea_cons {te : TE} {tr : TA} {f : Env → Res D} {fs : Env → Res (List D)} (h : ET K W te f) (t : EA K W tr fs) : EA K W (tCons te tr) (dCons f fs) := fun B ρ σ G H I Q hQ =>
  j_bind (ta := te) anti_L h I hQ fun x d G1 H1 g1 r1 I1 q1 => j_bind (ta := tr) anti_L t I1 q1 fun xs ds G2 H2 g2 r2 I2 q2 => q2 (x :: xs) G2 H2 I2.gr (RepL.cons (Rep.mono g2.gg _ _ r1) r2)
theorem ear_nil : EAR K W tNil dNil := fun B ρ σ G H I Q hQ => hQ [] G H I.gr rfl
theorem ear_cons {te : TE} {tr : TA} {f : Env → Res D} {fs : Env → Res (List D)} (h : ER K W te f) (t : EAR K W tr fs) : EAR K W (tCons te tr) (dCons f fs) := fun B ρ σ G H I Q hQ =>
  j_bind (ta := te) anti_LR h I hQ fun x d G1 H1 g1 r1 I1 q1 => j_bind (ta := tr) anti_LR t I1 q1 fun xs ds G2 H2 g2 r2 I2 q2 => q2 (x :: xs) G2 H2 I2.gr ⟨x, xs, rfl, rlR.grow g2 r1, r2⟩
def dTup (fs : Env → Res (List D)) : Env → Res D := fun ρ => (fs ρ).bind fun ds => if ds.length ≤ sizeLine then .ok (.tuple ds) else .stuck
def dLst (fs : Env → Res (List D)) : Env → Res Ob := fun ρ => (fs ρ).bind fun ds => if ds.length ≤ sizeLine then .ok (.l ds) else .stuck
theorem et_tup {t : TA} {fs : Env → Res (List D)} (h : EA K W t fs) : ET K W (tTup t) (dTup fs) := fun B ρ σ G H I Q hQ =>
  j_bind (ta := t) anti_V h I hQ fun xs ds G1 H1 g1 r1 I1 q1 => by
    by_cases hl : ds.length ≤ sizeLine
    · rw [if_pos hl] at q1
      exact ⟨by rw [← r1.len]; exact hl, fun p hp => q1 _ _ _ (Gr.new I1.gh hp _) (rep_new_tup (L2.Same.free I1.gh hp) hl r1)⟩
    · rw [if_neg hl] at q1
      exact q1.elim
theorem own_new {K : Frag} {G H : Hp} {p : Addr} {ds : List D} {vs : List V} (s : Same G H) (hp : H p = none) (z : ds.length ≤ sizeLine) (h : RepL K G ds vs) : Own K G (upd H p (.lst vs)) (.l ds) p :=
  ⟨L2.Same.free s hp, .lst vs, upd_same, z, vs, rfl, h⟩
theorem en_lst {t : TA} {fs : Env → Res (List D)} (h : EA K W t fs) : EN K W (tLst t) (dLst fs) := fun B ρ σ G H I Q hQ =>
  j_bind (ta := t) anti_N h I hQ fun xs ds G1 H1 g1 r1 I1 q1 => by
    by_cases hl : ds.length ≤ sizeLine
    · rw [if_pos hl] at q1
      exact ⟨by rw [← r1.len]; exact hl, fun p hp => q1 _ _ _ (Gr.tmp I1.gh hp _) ⟨p, rfl, hp, own_new I1.gh hp hl r1⟩⟩
    · rw [if_neg hl] at q1
      exact q1.elim
/-! ### tests -/
def dTest (f : Env → Res D) : Env → Res Bool := fun ρ => (f ρ).bind fun d => match d with
  | .bool b => .ok b
  | _ => .stuck
theorem eb_test {te : TE} {f : Env → Res D} (h : ER K W te f) : EB K W (tTest te) (dTest f) := fun B ρ σ G H I Q hQ =>
  j_bind (ta := te) anti_B h I hQ fun x d G1 H1 g1 r1 I1 q1 => by
    cases d with
    | bool b =>
      obtain rfl := rd_bool r1
      exact ⟨b, rfl, q1 b G1 H1 I1.gr rfl⟩
    | _ => exact q1.elim
theorem eb_B {te : TE} {f : Env → Res D} (h : ER K W te f) : EB K W (tB te) (dTest f) := eb_test h
def dAnd (f g : Env → Res Bool) : Env → Res Bool := fun ρ => (f ρ).bind fun b => if b = true then g ρ else .ok false
def dOr (f g : Env → Res Bool) : Env → Res Bool := fun ρ => (f ρ).bind fun b => if b = true then .ok true else g ρ
def dNot (f : Env → Res Bool) : Env → Res Bool := fun ρ => (f ρ).bind fun b => .ok (!b)
theorem eb_and {t u : TT} {f g : Env → Res Bool} (h : EB K W t f) (h' : EB K W u g) : EB K W (tAnd t u) (dAnd f g) := fun B ρ σ G H I Q hQ =>
  j_bind (ta := t) anti_B h I hQ fun x d G1 H1 g1 r1 I1 q1 => by
    cases (show x = d from r1)
    cases x with
    | true => exact h' B ρ σ G1 H1 I1 Q q1
    | false => exact q1 false G1 H1 I1.gr rfl
theorem eb_or {t u : TT} {f g : Env → Res Bool} (h : EB K W t f) (h' : EB K W u g) : EB K W (tOr t u) (dOr f g) := fun B ρ σ G H I Q hQ =>
  j_bind (ta := t) anti_B h I hQ fun x d G1 H1 g1 r1 I1 q1 => by
    cases (show x = d from r1)
    cases x with
    | true => exact q1 true G1 H1 I1.gr rfl
    | false => exact h' B ρ σ G1 H1 I1 Q q1
theorem eb_not {t : TT} {f : Env → Res Bool} (h : EB K W t f) : EB K W (tNot t) (dNot f) := fun B ρ σ G H I Q hQ =>
  j_bind (ta := t) anti_B h I hQ fun x d G1 H1 g1 r1 I1 q1 => by
    cases (show x = d from r1)
    exact q1 (!x) G1 H1 I1.gr rfl
/-- and, or, not as values (all but the last True or False) -/
def dAndV (f g : Env → Res D) : Env → Res D := fun ρ => (f ρ).bind fun b => match b with
  | .bool true => g ρ
  | .bool false => .ok (.bool false)
  | _ => .stuck
def dOrV (f g : Env → Res D) : Env → Res D := fun ρ => (f ρ).bind fun b => match b with
  | .bool true => .ok (.bool true)
  | .bool false => g ρ
  | _ => .stuck
def dNotV (f : Env → Res D) : Env → Res D := fun ρ => (f ρ).bind fun b => match b with
  | .bool c => .ok (.bool !c)
  | _ => .stuck
theorem et_andV {t u : TE} {f g : Env → Res D} (h : ER K W t f) (h' : ET K W u g) : ET K W (tAndV t u) (dAndV f g) := fun B ρ σ G H I Q hQ =>
  j_bind (ta := t) anti_V h I hQ fun x d G1 H1 g1 r1 I1 q1 => by
    cases d with
    | bool b =>
      obtain rfl := rd_bool r1
      refine ⟨b, rfl, ?_⟩
      cases b with
      | true => exact h' B ρ σ G1 H1 I1 Q q1
      | false => exact q1 _ G1 H1 I1.gr mk_bool
    | _ => exact q1.elim
theorem et_orV {t u : TE} {f g : Env → Res D} (h : ER K W t f) (h' : ET K W u g) : ET K W (tOrV t u) (dOrV f g) := fun B ρ σ G H I Q hQ =>
  j_bind (ta := t) anti_V h I hQ fun x d G1 H1 g1 r1 I1 q1 => by
    cases d with
    | bool b =>
      obtain rfl := rd_bool r1
      refine ⟨b, rfl, ?_⟩
      cases b with
      | true => exact q1 _ G1 H1 I1.gr mk_bool
      | false => exact h' B ρ σ G1 H1 I1 Q q1
    | _ => exact q1.elim
theorem et_notV {t : TE} {f : Env → Res D} (h : ER K W t f) : ET K W (tNotV t) (dNotV f) := fun B ρ σ G H I Q hQ =>
  j_bind (ta := t) anti_V h I hQ fun x d G1 H1 g1 r1 I1 q1 => by
    cases d with
    | bool b =>
      obtain rfl := rd_bool r1
      exact ⟨b, rfl, q1 _ G1 H1 I1.gr mk_bool⟩
    | _ => exact q1.elim
def dIf {α : Type} (c : Env → Res Bool) (f g : Env → Res α) : Env → Res α := fun ρ => (c ρ).bind fun b => if b = true then f ρ else g ρ
theorem j_if {α : Type} {rel : Rl α V} {c : TT} {t u : TE} {fc : Env → Res Bool} {f g : Env → Res α} (an : Anti rel) (hc : EB K W c fc) (h : J K W rel t f) (h' : J K W rel u g) : J K W rel (tIf c t u) (dIf fc f g) := fun B ρ σ G H I Q hQ =>
  j_bind (ta := c) an hc I hQ fun x d G1 H1 g1 r1 I1 q1 => by
    cases (show x = d from r1)
    cases x with
    | true => exact h B ρ σ G1 H1 I1 Q q1
    | false => exact h' B ρ σ G1 H1 I1 Q q1
/-- a op b op' c -/
def dChain (g g' : D → D → Option D) (fa fb fc : Env → Res D) : Env → Res D := fun ρ => (fa ρ).bind fun d => (fb ρ).bind fun e => (Res.of (g d e)).bind fun z => match z with
  | .bool true => (fc ρ).bind fun f => Res.of (g' e f)
  | .bool false => .ok (.bool false)
  | _ => .stuck
theorem OkR.toO {α β : Type} {B : Bs} {G H : Hp} {rel : Rl α β} {o : Option α} {Q P : β → Hp → Prop} (h : OkR W B rel G H (Res.of o) Q) (n : ∀ b a G' H', Gr G H G' H' → rel H G' H' a b → Q b H' → P b H') : OkO rel G H o P := by
  cases o with
  | some a => exact fun b G' H' g r => n b a G' H' g r (h b G' H' g r)
  | none => exact h.elim
theorem et_chain {r r' : R2} {g g' : D → D → Option D} {ta tb tc : TE} {fa fb fc : Env → Res D} (hr : DR2 K (rlV K) r g) (hr' : DR2 K (rlV K) r' g') (ha : ER K W ta fa) (hb : ER K W tb fb) (hc : ER K W tc fc) :
    ET K W (tChain r r' ta tb tc) (dChain g g' fa fb fc) := fun B ρ σ G H I Q hQ =>
  j_bind (ta := ta) anti_V ha I hQ fun x d G1 H1 g1 r1 I1 q1 => j_bind (ta := tb) anti_V hb I1 q1 fun y e G2 H2 g2 r2 I2 q2 => by
    refine hr G2 H2 x y d e I2.gh (rlR.grow g2 r1) (rlR.grow I2.gr r2) _ ?_
    cases hg : g d e with
    | none => rw [hg] at q2; exact q2.elim
    | some z =>
      rw [hg] at q2
      intro b G3 H3 g3 r3
      have q3 := OkR.grow anti_V q2 g3
      have I3 := I2.grow g3
      cases z with
      | bool k =>
        obtain rfl := rep_bool r3
        refine ⟨k, rfl, ?_⟩
        cases k with
        | true => exact j_bind (ta := tc) anti_V hc I3 q3 fun w f G4 H4 g4 r4 I4 q4 => hr' G4 H4 y w e f I4.gh (rlR.grow g4 (rlR.grow (Hb := H3) g3 r2)) (rlR.grow I4.gr r4) Q q4.of
        | false => exact q3 _ G3 H3 I3.gr mk_bool
      | _ => exact q3.elim
/-! ### slices -/
def dNo : Env → Res (Option Int) := fun _ => .ok none
def dPart (f : Env → Res D) : Env → Res (Option Int) := fun ρ => (f ρ).bind fun d => match d with
  | .int i => .ok (some i)
  | _ => .stuck
def rlO : Rl (Option Int) (Option Int) := fun _ _ _ a b => b = a
theorem anti_O : Anti rlO := fun _ _ _ _ _ _ _ h => h
theorem eo_no : J K W rlO tNoPart dNo := fun B ρ σ G H I Q hQ => hQ none G H I.gr rfl
theorem eo_part {t : TE} {f : Env → Res D} (h : ER K W t f) : J K W rlO (tPart t) (dPart f) := fun B ρ σ G H I Q hQ =>
  j_bind (ta := t) anti_O h I hQ fun x d G1 H1 g1 r1 I1 q1 => by
    cases d with
    | int i =>
      obtain rfl := rd_int r1
      exact ⟨i, rfl, q1 _ G1 H1 I1.gr rfl⟩
    | _ => exact q1.elim
def DRS {α : Type} (K : Frag) (rel : Rl α V) (r : V → Option Int → Option Int → Hp → VK → Prop) (g : D → Option Int → Option Int → Option α) : Prop :=
  ∀ G H x d lo hi, Same G H → rlR K H G H d x → ∀ Q, OkO rel G H (g d lo hi) Q → r x lo hi H Q
def dSl {α : Type} (g : D → Option Int → Option Int → Option α) (f : Env → Res D) (fl fh : Env → Res (Option Int)) : Env → Res α := fun ρ => (f ρ).bind fun d => (fl ρ).bind fun lo => (fh ρ).bind fun hi => Res.of (g d lo hi)
theorem j_sl {α : Type} {rel : Rl α V} {r : V → Option Int → Option Int → Hp → VK → Prop} {g : D → Option Int → Option Int → Option α} {t : TE} {tl th : TO} {f : Env → Res D} {fl fh : Env → Res (Option Int)} (an : Anti rel) (hr : DRS K rel r g) (h : ER K W t f)
    (hl : J K W rlO tl fl) (hh : J K W rlO th fh) : J K W rel (tSl r t tl th) (dSl g f fl fh) := fun B ρ σ G H I Q hQ =>
  j_bind (ta := t) an h I hQ fun x d G1 H1 g1 r1 I1 q1 => j_bind (ta := tl) an hl I1 q1 fun lo lo' G2 H2 g2 r2 I2 q2 => j_bind (ta := th) an hh I2 q2 fun hi hi' G3 H3 g3 r3 I3 q3 => by
    cases (show lo = lo' from r2)
    cases (show hi = hi' from r3)
    exact hr G3 H3 x d lo hi I3.gh (rlR.grow (Hb := H3) g3 (rlR.grow (Hb := H2) g2 r1)) Q q3.of
/-! ### a call of a def of the program -/
/-- what may leave a body: exceptions by their classes' names -/
def EE (cl : Str → Addr) (W : Str → Hp → Prop) : XK := fun cls d H => ∃ c, cls = .ref (cl c) ∧ d = none ∧ W c H
/-- what a def promises: from arguments that are data it computes f -/
def spG {α : Type} (K : Frag) (rel : Rl α V) (cl : Str → Addr) (n : Nat) (f : List D → Res α) : Sp := fun vs H Q E => ∃ G ds, Same G H ∧ RepL K G ds vs ∧ ds.length = n ∧ match f ds with
  | .ok a => ∀ v G' H', Gr G H G' H' → rel H G' H' a v → Q v H'
  | .exc c => ∀ H', Same H H' → E (.ref (cl c)) none H'
  | .stuck => False
def dCall {α : Type} (f : List D → Res α) (fs : Env → Res (List D)) : Env → Res α := fun ρ => (fs ρ).bind f
theorem j_call {α : Type} {rel : Rl α V} {cl : Str → Addr} {n : Nat} {f : List D → Res α} {t : TA} {fs : Env → Res (List D)} (an : Anti rel) (h : EA K W t fs) (hn : ∀ ds, f ds ≠ .stuck → ds.length = n) : J K W rel (tCall (spG K rel cl n f) [] (EE cl W) t) (dCall f fs) := fun B ρ σ G H I Q hQ =>
  j_bind (ta := t) an h I hQ fun xs ds G1 H1 g1 r1 I1 q1 => by
    refine ⟨G1, ds, I1.gh, by rw [List.append_nil]; exact r1, hn ds (fun e => by rw [e] at q1; exact q1), ?_⟩
    cases e : f ds with
    | ok a => rw [e] at q1; exact fun v G' H' g r => q1 v G' H' g r
    | exc c => rw [e] at q1; exact fun H' s => ⟨c, rfl, rfl, q1 H' (I1.kp.grow s)⟩
    | stuck => rw [e] at q1; exact q1
end
end PD

set_option Elab.async false
set_option linter.all false
set_option maxRecDepth 100000
/-! The data layer, 3: statements. -/
namespace PD
open PySem PySem.Spec PyProof.Rows L2
inductive Out where
  | nx (ρ : Env)
  | rt (d : D) (ρ : Env)
  /-- an object of the def's own is handed back -/
  | rn (o : Ob) (ρ : Env)
  | bk (ρ : Env)
  | ct (ρ : Env)
  | exc (c : Str)
  | stuck
def OkS (K : Frag) (W : Str → Hp → Prop) (B : Bs) (G : Hp) (o : Out) (Dn : Ends) : Prop := match o with
  | .nx ρ => ∀ σ' G' H', DInv K B ρ σ' G' H' → Same G G' → Dn.nx σ' H'
  | .bk ρ => ∀ σ' G' H', DInv K B ρ σ' G' H' → Same G G' → Dn.bk σ' H'
  | .ct ρ => ∀ σ' G' H', DInv K B ρ σ' G' H' → Same G G' → Dn.ct σ' H'
  | .rt d ρ => ∀ v σ' G' H', DInv K B ρ σ' G' H' → Same G G' → Rep K G' d v → Dn.rt v H'
  | .rn o ρ => ∀ p σ' G' H', DInv K B ρ σ' G' H' → Same G G' → Own K G' H' o p → B.H0 p = none → Dn.rt (.ref p) H'
  | .exc c => ∀ H', Kp B H' → W c H'
  | .stuck => False
def ST (K : Frag) (W : Str → Hp → Prop) (ts : TS) (F : Env → Out) : Prop :=
  ∀ (B : Bs) (ρ : Env) (σ : Sl) (G H : Hp), DInv K B ρ σ G H → ∀ Dn, OkS K W B G (F ρ) Dn → ts Dn σ H
section
variable {K : Frag} {W : Str → Hp → Prop} {B : Bs} {ρ : Env} {σ : Sl} {G H G' H' : Hp}
theorem OkS.mono {o : Out} {Dn : Ends} (h : OkS K W B G o Dn) (e : Same G G') : OkS K W B G' o Dn := by
  cases o with
  | nx ρ => exact fun σ' G1 H1 I s => h σ' G1 H1 I (e.trans s)
  | bk ρ => exact fun σ' G1 H1 I s => h σ' G1 H1 I (e.trans s)
  | ct ρ => exact fun σ' G1 H1 I s => h σ' G1 H1 I (e.trans s)
  | rt d ρ => exact fun v σ' G1 H1 I s => h v σ' G1 H1 I (e.trans s)
  | rn o ρ => exact fun v σ' G1 H1 I s => h v σ' G1 H1 I (e.trans s)
  | exc c => exact h
  | stuck => exact h
def Res.bindS {α : Type} (r : Res α) (f : α → Out) : Out := match r with
  | .ok a => f a
  | .exc c => .exc c
  | .stuck => .stuck
def Out.seq (o : Out) (f : Env → Out) : Out := match o with
  | .nx ρ => f ρ
  | o => o
theorem s_bind {α β : Type} {rel : Rl α β} {ta : Sl → Hp → (β → Hp → Prop) → Prop} {fa : Env → Res α} {k : α → Out} {Dn : Ends} {P : β → Hp → Prop} (ha : J K W rel ta fa) (I : DInv K B ρ σ G H)
    (hQ : OkS K W B G ((fa ρ).bindS k) Dn) (next : ∀ b a G1 H1, Gr G H G1 H1 → rel H G1 H1 a b → DInv K B ρ σ G1 H1 → OkS K W B G1 (k a) Dn → P b H1) : ta σ H P := by
  refine ha B ρ σ G H I P ?_
  cases e : fa ρ with
  | ok a =>
    rw [e] at hQ
    intro b G1 H1 g1 r1
    exact next b a G1 H1 g1 r1 (I.grow g1) (OkS.mono hQ g1.gg)
  | exc c => rw [e] at hQ; exact hQ
  | stuck => rw [e] at hQ; exact hQ

/-! ### the slots are set -/
theorem get_set {α : Type} {l : List α} {i j : Nat} {a b : α} (h : (l.set i a)[j]? = some b) : (j = i ∧ i < l.length ∧ b = a) ∨ (j ≠ i ∧ l[j]? = some b) := by
  by_cases e : i = j
  · subst e
    by_cases hl : i < l.length
    · rw [List.getElem?_set_self hl] at h
      cases h
      exact .inl ⟨rfl, hl, rfl⟩
    · rw [List.getElem?_eq_none (by simpa using hl)] at h; cases h
  · rw [List.getElem?_set_ne e] at h
    exact .inr ⟨Ne.symm e, h⟩
theorem lt_of_get {α : Type} {l : List α} {i : Nat} {a : α} (h : l[i]? = some a) : i < l.length := by
  rcases Nat.lt_or_ge i l.length with q | q
  · exact q
  · rw [List.getElem?_eq_none q] at h; cases h
/-- a slot gets what isn't owned -/
theorem DInv.setE (I : DInv K B ρ σ G H) {i : Nat} {e : Ent} {sv : Option V} (he : e.owned = false) (hp : ∀ o, ρ[i]? ≠ some (.pm o)) (hk : i < ρ.length → EntOk K G H e (some sv)) : DInv K B (ρ.set i e) (σ.set i sv) G H where
  len := by simp [I.len]
  ent := fun j e' h => by
    rcases get_set h with ⟨rfl, hl, rfl⟩ | ⟨hj, h⟩
    · rw [List.getElem?_set_self (by rw [I.len]; exact hl)]
      exact hk hl
    · rw [List.getElem?_set_ne (Ne.symm hj)]
      exact I.ent j e' h
  dis := fun j k e1 e2 p h1 h2 o1 o2 q1 q2 => by
    rcases get_set h1 with ⟨rfl, _, rfl⟩ | ⟨hj, h1⟩
    · rw [he] at o1; cases o1
    · rcases get_set h2 with ⟨rfl, _, rfl⟩ | ⟨hk', h2⟩
      · rw [he] at o2; cases o2
      · rw [List.getElem?_set_ne (Ne.symm hj)] at q1
        rw [List.getElem?_set_ne (Ne.symm hk')] at q2
        exact I.dis j k e1 e2 p h1 h2 o1 o2 q1 q2
  pin := fun j o h => by
    rcases get_set h with ⟨rfl, _, rfl⟩ | ⟨hj, h⟩
    · cases he
    · rw [List.getElem?_set_ne (Ne.symm hj)]
      exact I.pin j o h
  own := fun j o p h q => by
    rcases get_set h with ⟨rfl, _, rfl⟩ | ⟨hj, h⟩
    · cases he
    · rw [List.getElem?_set_ne (Ne.symm hj)] at q
      exact I.own j o p h q
  kp := I.kp
  gg := I.gg
  gh := I.gh
  nw := I.nw
  trk := I.trk
/-- a slot is forgotten, its value may be anything -/
theorem DInv.forget (I : DInv K B ρ σ G H) (i : Nat) : DInv K B (ρ.set i .un) σ G H where
  len := by simp [I.len]
  ent := fun j e' h => by
    rcases get_set h with ⟨rfl, hl, rfl⟩ | ⟨hj, h⟩
    · trivial
    · exact I.ent j e' h
  dis := fun j k e1 e2 p h1 h2 o1 o2 q1 q2 => by
    rcases get_set h1 with ⟨rfl, _, rfl⟩ | ⟨hj, h1⟩
    · cases o1
    · rcases get_set h2 with ⟨rfl, _, rfl⟩ | ⟨hk', h2⟩
      · cases o2
      · exact I.dis j k e1 e2 p h1 h2 o1 o2 q1 q2
  pin := fun j o h => by
    rcases get_set h with ⟨rfl, _, h⟩ | ⟨hj, h⟩
    · cases h
    · exact I.pin j o h
  own := fun j o p h q => by
    rcases get_set h with ⟨rfl, _, h⟩ | ⟨hj, h⟩
    · cases h
    · exact I.own j o p h q
  kp := I.kp
  gg := I.gg
  gh := I.gh
  nw := I.nw
  trk := I.trk
theorem own_at (I : DInv K B ρ σ G H) {i : Nat} {e : Ent} (h : ρ[i]? = some e) (ho : e.owned = true) : ∃ p o, σ[i]? = some (some (.ref p)) ∧ Own K G H o p ∧ (e = .ow o ∨ e = .pm o) := by
  have q := I.ent i e h
  cases e with
  | un => cases ho
  | fr d => cases ho
  | ow o => obtain ⟨p, h1, h2⟩ := q; exact ⟨p, o, h1, h2, .inl rfl⟩
  | pm o => obtain ⟨p, h1, h2⟩ := q; exact ⟨p, o, h1, h2, .inr rfl⟩
  | xc a => cases ho
/-- a slot gets a new object -/
theorem DInv.setN (I : DInv K B ρ σ G H) {i : Nat} {o : Ob} {p : Addr} (g : Gr G H G' H') (hp : ∀ o, ρ[i]? ≠ some (.pm o)) (hn : H p = none) (ho : Own K G' H' o p) : DInv K B (ρ.set i (.ow o)) (σ.set i (some (.ref p))) G' H' := by
  have I' := I.grow g
  have far : ∀ (j : Nat) (e : Ent), ρ[j]? = some e → e.owned = true → σ[j]? = some (some (.ref p)) → False := fun j e h1 h2 h3 => by
    obtain ⟨p', o', q1, ⟨_, ho', q2, _⟩, _⟩ := own_at I h1 h2
    rw [h3] at q1
    cases q1
    rw [hn] at q2; cases q2
  exact {
    len := by simp [I.len]
    ent := fun j e' h => by
      rcases get_set h with ⟨rfl, hl, rfl⟩ | ⟨hj, h⟩
      · rw [List.getElem?_set_self (by rw [I.len]; exact hl)]
        exact ⟨p, rfl, ho⟩
      · rw [List.getElem?_set_ne (Ne.symm hj)]
        exact I'.ent j e' h
    dis := fun j k e1 e2 p' h1 h2 o1 o2 q1 q2 => by
      rcases get_set h1 with ⟨rfl, hl1, rfl⟩ | ⟨hj, h1⟩
      · rcases get_set h2 with ⟨rfl, _, rfl⟩ | ⟨hk', h2⟩
        · rfl
        · rw [List.getElem?_set_self (by rw [I.len]; exact hl1)] at q1
          rw [List.getElem?_set_ne (Ne.symm hk')] at q2
          cases q1
          exact (far k e2 h2 o2 q2).elim
      · rcases get_set h2 with ⟨rfl, hl2, rfl⟩ | ⟨hk', h2⟩
        · rename ρ[j]? = some e1 => h1'
          rw [List.getElem?_set_ne (Ne.symm hj)] at q1
          rw [List.getElem?_set_self (by rw [I.len]; exact hl2)] at q2
          cases q2
          exact (far j e1 h1' o1 q1).elim
        · rw [List.getElem?_set_ne (Ne.symm hj)] at q1
          rw [List.getElem?_set_ne (Ne.symm hk')] at q2
          exact I.dis j k e1 e2 p' h1 h2 o1 o2 q1 q2
    pin := fun j o h => by
      rcases get_set h with ⟨rfl, _, h⟩ | ⟨hj, h⟩
      · cases h
      · rw [List.getElem?_set_ne (Ne.symm hj)]
        exact I.pin j o h
    own := fun j o p' h q => by
      rcases get_set h with ⟨rfl, hl, h⟩ | ⟨hj, h⟩
      · rw [List.getElem?_set_self (by rw [I.len]; exact hl)] at q
        cases q
        exact I.fresh hn
      · rw [List.getElem?_set_ne (Ne.symm hj)] at q
        exact I.own j o p' h q
    kp := I'.kp
    gg := I'.gg
    gh := I'.gh
    nw := I'.nw
    trk := I'.trk }
/-- the same entry with another content -/
def Ent.put : Ent → Ob → Ent
  | .ow _, o => .ow o
  | .pm _, o => .pm o
  | e, _ => e
/-- an owned object is changed -/
theorem DInv.mut (I : DInv K B ρ σ G H) {i : Nat} {e : Ent} {o' : Ob} {p : Addr} {ho' : HO} (h : ρ[i]? = some e) (ow : e.owned = true) (hσ : σ[i]? = some (some (.ref p))) (hi : ObIs K G o' ho') :
    DInv K B (ρ.set i (e.put o')) σ G (upd H p ho') := by
  obtain ⟨p', o, q1, ⟨gp, ho, hp, _⟩, ee⟩ := own_at I h ow
  rw [hσ] at q1
  cases q1
  have ow' : (e.put o').owned = true := by rcases ee with rfl | rfl <;> rfl
  have hnp : ∀ (j : Nat) (e2 : Ent), j ≠ i → ρ[j]? = some e2 → e2.owned = true → ∀ p2 : Addr, σ[j]? = some (some (.ref p2)) → p2 ≠ p := fun j e2 hj h1 h2 p2 h3 z => by
    subst z
    exact hj (I.dis j i e2 e p2 h1 h h2 ow h3 hσ)
  exact {
    len := by simp [I.len]
    ent := fun j e' h' => by
      rcases get_set h' with ⟨rfl, hl, rfl⟩ | ⟨hj, h'⟩
      · rcases ee with rfl | rfl <;> exact ⟨p, hσ, gp, ho', upd_same, hi⟩
      · have q := I.ent j e' h'
        cases e' with
        | un => trivial
        | fr d => exact q
        | ow o2 =>
          obtain ⟨p2, h1, h2, ho2, h3, h4⟩ := q
          exact ⟨p2, h1, h2, ho2, by rw [upd_ne (hnp j _ hj h' rfl p2 h1)]; exact h3, h4⟩
        | pm o2 =>
          obtain ⟨p2, h1, h2, ho2, h3, h4⟩ := q
          exact ⟨p2, h1, h2, ho2, by rw [upd_ne (hnp j _ hj h' rfl p2 h1)]; exact h3, h4⟩
        | xc a => exact q
    dis := fun j k e1 e2 p2 h1 h2 o1 o2 q1 q2 => by
      have back : ∀ (j : Nat) (e1 : Ent), (ρ.set i (e.put o'))[j]? = some e1 → e1.owned = true → ∃ e2 : Ent, ρ[j]? = some e2 ∧ e2.owned = true := fun j e1 h1 o1 => by
        rcases get_set h1 with ⟨rfl, _, rfl⟩ | ⟨_, h1⟩
        · exact ⟨e, h, ow⟩
        · exact ⟨e1, h1, o1⟩
      obtain ⟨e1', a1, b1⟩ := back j e1 h1 o1
      obtain ⟨e2', a2, b2⟩ := back k e2 h2 o2
      exact I.dis j k e1' e2' p2 a1 a2 b1 b2 q1 q2
    pin := fun j o2 h' => by
      rcases get_set h' with ⟨rfl, _, e2⟩ | ⟨hj, h'⟩
      · rcases ee with rfl | rfl
        · cases e2
        · exact I.pin j o h
      · exact I.pin j o2 h'
    own := fun j o2 p2 h' q => by
      rcases get_set h' with ⟨rfl, _, e2⟩ | ⟨hj, h'⟩
      · rcases ee with rfl | rfl
        · exact I.own j o p2 h q
        · cases e2
      · exact I.own j o2 p2 h' q
    kp := fun b u h1 h2 => by
      have hb : b ≠ p := fun z => by
        subst z
        rcases ee with rfl | rfl
        · rw [I.own i o b h hσ] at h2; cases h2
        · obtain ⟨p3, h3, h4⟩ := I.pin i o h
          rw [hσ] at h4
          cases h4
          exact h1 i h3
      rw [upd_ne hb]
      exact I.kp b u h1 h2
    gg := I.gg
    gh := fun b u q => by
      have hb : b ≠ p := fun z => by subst z; rw [gp] at q; cases q
      rw [upd_ne hb]
      exact I.gh b u q
    nw := I.nw
    trk := fun b q => by
      by_cases hb : b = p
      · subst hb; rw [upd_same]; simp
      · rw [upd_ne hb]; exact I.trk b q }
/-- an owned object is frozen: from now on it is data -/
theorem DInv.frz (I : DInv K B ρ σ G H) {i : Nat} {o : Ob} (h : ρ[i]? = some (.ow o)) : ∃ G', DInv K B (ρ.set i (.fr o.data)) σ G' H ∧ Same G G' := by
  obtain ⟨p, h1, hO⟩ := I.ent i _ h
  obtain ⟨ho, h2, h3⟩ := own_frz hO
  have s : Same G (upd G p ho) := same_new hO.1 ho
  have h0 : B.H0 p = none := I.own i o p h h1
  refine ⟨upd G p ho, ?_, s⟩
  exact {
    len := by simp [I.len]
    ent := fun j e' h' => by
      rcases get_set h' with ⟨rfl, hl, rfl⟩ | ⟨hj, h'⟩
      · exact ⟨.ref p, h1, h3⟩
      · have q := I.ent j e' h'
        have far : ∀ p2 : Addr, e'.owned = true → σ[j]? = some (some (.ref p2)) → p2 ≠ p := fun p2 ho2 z e => by
          subst e
          exact hj (I.dis j i e' _ p2 h' h ho2 rfl z h1)
        cases e' with
        | un => trivial
        | fr d => obtain ⟨v, a, b⟩ := q; exact ⟨v, a, Rep.mono s _ _ b⟩
        | ow o2 =>
          obtain ⟨p2, q1, q2, ho2, q3, q4⟩ := q
          exact ⟨p2, q1, by rw [upd_ne (far p2 rfl q1)]; exact q2, ho2, q3, q4.mono s⟩
        | pm o2 =>
          obtain ⟨p2, q1, q2, ho2, q3, q4⟩ := q
          exact ⟨p2, q1, by rw [upd_ne (far p2 rfl q1)]; exact q2, ho2, q3, q4.mono s⟩
        | xc a => exact q
    dis := fun j k e1 e2 p2 h1 h2 o1 o2 q1 q2 => by
      rcases get_set h1 with ⟨rfl, _, rfl⟩ | ⟨_, h1⟩
      · cases o1
      · rcases get_set h2 with ⟨rfl, _, rfl⟩ | ⟨_, h2⟩
        · cases o2
        · exact I.dis j k e1 e2 p2 h1 h2 o1 o2 q1 q2
    pin := fun j o2 h' => by
      rcases get_set h' with ⟨rfl, _, e2⟩ | ⟨hj, h'⟩
      · cases e2
      · exact I.pin j o2 h'
    own := fun j o2 p2 h' q => by
      rcases get_set h' with ⟨rfl, _, e2⟩ | ⟨hj, h'⟩
      · cases e2
      · exact I.own j o2 p2 h' q
    kp := I.kp
    gg := I.gg.trans s
    gh := fun b u q => by
      by_cases hb : b = p
      · subst hb; rw [upd_same] at q; cases q; exact h2
      · rw [upd_ne hb] at q; exact I.gh b u q
    nw := fun a a1 a2 => by
      by_cases hb : a = p
      · subst hb; exact absurd h0 a2
      · rw [upd_ne hb]; exact I.nw a a1 a2
    trk := I.trk }

/-! ### targets -/
/-- only the slots js differ -/
def Agree (js : List Nat) (σ' σ : Sl) : Prop := σ'.length = σ.length ∧ ∀ j, j ∉ js → σ'[j]? = σ[j]?
/-- what an assignment to a target does, by data; only the slots js change -/
def GJ (K : Frag) (js : List Nat) (g : TG) (h : D → Env → Option Env) : Prop :=
  ∀ (B : Bs) (ρ : Env) (σ : Sl) (G H : Hp) (d : D) (v : V), DInv K B ρ σ G H → Rep K G d v → ∀ Q : Sl → Hp → Prop, (match h d ρ with
    | some ρ' => ∀ σ', DInv K B ρ' σ' G H → Agree js σ' σ → Q σ' H
    | none => False) → g v σ H Q
def GsJ (K : Frag) (js : List Nat) (g : TGs) (h : List D → Env → Option Env) : Prop :=
  ∀ (B : Bs) (ρ : Env) (σ : Sl) (G H : Hp) (d : List D) (v : List V), DInv K B ρ σ G H → RepL K G d v → ∀ Q : Sl → Hp → Prop, (match h d ρ with
    | some ρ' => ∀ σ', DInv K B ρ' σ' G H → Agree js σ' σ → Q σ' H
    | none => False) → g v σ H Q
def hSet (i : Nat) (d : D) (ρ : Env) : Option Env := match ρ[i]? with
  | some (.pm _) => none
  | _ => some (ρ.set i (.fr d))
theorem gj_name (i : Nat) : GJ K [i] (gName i) (hSet i) := fun B ρ σ G H d v I r Q hQ => by
  unfold hSet at hQ
  split at hQ
  · rename_i ρ' e
    split at e
    · cases e
    · rename_i hne
      cases e
      exact hQ _ (I.setE rfl (fun o h => hne o h) fun _ => ⟨v, rfl, r⟩) ⟨by simp, fun j hj => List.getElem?_set_ne (fun z => hj (by simp [z]))⟩
  · exact hQ.elim
def hNil : List D → Env → Option Env := fun ds ρ => match ds with
  | [] => some ρ
  | _ => none
def hCons (h : D → Env → Option Env) (t : List D → Env → Option Env) : List D → Env → Option Env := fun ds ρ => match ds with
  | d :: ds => (h d ρ).bind (t ds)
  | [] => none
def hTup (n : Nat) (t : List D → Env → Option Env) : D → Env → Option Env := fun d ρ => match d with
  | .tuple ds => if ds.length = n then t ds ρ else none
  | _ => none
theorem gjs_nil : GsJ K [] gNil hNil := fun B ρ σ G H d v I r Q hQ => by
  cases d with
  | nil => exact ⟨repL_nil.mp r, hQ σ I ⟨rfl, fun _ _ => rfl⟩⟩
  | cons _ _ => exact hQ.elim
theorem gjs_cons {js js' : List Nat} {g : TG} {t : TGs} {h : D → Env → Option Env} {ht : List D → Env → Option Env} (a : GJ K js g h) (b : GsJ K js' t ht) : GsJ K (js ++ js') (gCons g t) (hCons h ht) := fun B ρ σ G H d v I r Q hQ => by
  cases d with
  | nil => exact hQ.elim
  | cons d ds =>
    unfold RepL at r
    obtain ⟨x, rs, rfl, r1, r2⟩ := r
    refine ⟨x, rs, rfl, ?_⟩
    refine a B ρ σ G H d x I r1 _ ?_
    change (match (h d ρ).bind (ht ds) with | some ρ' => _ | none => _) at hQ
    cases e : h d ρ with
    | none => rw [e] at hQ; exact hQ.elim
    | some ρ1 =>
      rw [e] at hQ
      intro σ1 I1 n1
      refine b B ρ1 σ1 G H ds rs I1 r2 _ ?_
      cases e2 : ht ds ρ1 with
      | none => simp only [Option.bind_some, e2] at hQ
      | some ρ2 =>
        simp only [Option.bind_some, e2] at hQ
        intro σ2 I2 n2
        exact hQ σ2 I2 ⟨n2.1.trans n1.1, fun j hj => (n2.2 j fun z => hj (List.mem_append_right _ z)).trans (n1.2 j fun z => hj (List.mem_append_left _ z))⟩
theorem gj_tup {js : List Nat} {n : Nat} {t : TGs} {ht : List D → Env → Option Env} (a : GsJ K js t ht) : GJ K js (gTup K n t) (hTup n ht) := fun B ρ σ G H d v I r Q hQ => by
  unfold hTup at hQ
  cases d with
  | tuple ds =>
    unfold Rep at r
    obtain ⟨_, p, xs, rfl, h1, h2⟩ := r
    by_cases hn : ds.length = n
    · simp only [hn, if_true] at hQ
      exact ⟨p, xs, rfl, Same.sqt I.gh h1, by rw [← h2.len]; exact hn, a B ρ σ G H ds xs I h2 Q hQ⟩
    · simp only [hn, if_false] at hQ
  | _ => exact hQ.elim

/-! ### statements -/
def dNext : Env → Out := fun ρ => .nx ρ
def dSeq (f g : Env → Out) : Env → Out := fun ρ => (f ρ).seq g
theorem st_next : ST K W tNext dNext := fun B ρ σ G H I Dn h => h σ G H I (L2.Same.refl _)
theorem st_seq {t u : TS} {f g : Env → Out} (a : ST K W t f) (b : ST K W u g) : ST K W (tSeq t u) (dSeq f g) := fun B ρ σ G H I Dn h => by
  refine a B ρ σ G H I _ ?_
  unfold dSeq at h
  cases e : f ρ with
  | nx ρ1 =>
    rw [e] at h
    exact fun σ' G' H' I' s => b B ρ1 σ' G' H' I' Dn (OkS.mono h s)
  | rt d ρ1 => rw [e] at h; exact h
  | rn d ρ1 => rw [e] at h; exact h
  | bk ρ1 => rw [e] at h; exact h
  | ct ρ1 => rw [e] at h; exact h
  | exc c => rw [e] at h; exact h
  | stuck => rw [e] at h; exact h
def dBk : Env → Out := fun ρ => .bk ρ
def dCt : Env → Out := fun ρ => .ct ρ
theorem st_bk : ST K W tBreak dBk := fun B ρ σ G H I Dn h => h σ G H I (L2.Same.refl _)
theorem st_ct : ST K W tCont dCt := fun B ρ σ G H I Dn h => h σ G H I (L2.Same.refl _)
def dDrop (f : Env → Res D) : Env → Out := fun ρ => (f ρ).bindS fun _ => .nx ρ
theorem st_drop {te : TE} {f : Env → Res D} (h : ET K W te f) : ST K W (tDrop te) (dDrop f) := fun B ρ σ G H I Dn hQ =>
  s_bind (ta := te) h I hQ fun x d G1 H1 g1 r1 I1 q1 => q1 σ G1 H1 I1 (L2.Same.refl _)
def dRet (f : Env → Res D) : Env → Out := fun ρ => (f ρ).bindS fun d => .rt d ρ
theorem st_ret {te : TE} {f : Env → Res D} (h : ET K W te f) : ST K W (tRet te) (dRet f) := fun B ρ σ G H I Dn hQ =>
  s_bind (ta := te) h I hQ fun x d G1 H1 g1 r1 I1 q1 => q1 x σ G1 H1 I1 (L2.Same.refl _) r1
/-- return of a new object -/
def dRetN (f : Env → Res Ob) : Env → Out := fun ρ => (f ρ).bindS fun d => .rn d ρ
theorem st_retN {te : TE} {f : Env → Res Ob} (h : EN K W te f) : ST K W (tRet te) (dRetN f) := fun B ρ σ G H I Dn hQ =>
  s_bind (ta := te) h I hQ fun x d G1 H1 g1 r1 I1 q1 => by
    obtain ⟨p, rfl, h1, h2⟩ := r1
    exact q1 p σ G1 H1 I1 (L2.Same.refl _) h2 (I.fresh h1)
/-- return of an object of the def's own -/
def dRetV (i : Nat) : Env → Out := fun ρ => match ρ[i]? with
  | some (.ow o) => .rn o ρ
  | some (.fr d) => .rt d ρ
  | _ => .stuck
theorem st_retV {i : Nat} : ST K W (tRet (tVar i)) (dRetV i) := fun B ρ σ G H I Dn hQ => by
  unfold dRetV at hQ
  split at hQ
  · rename_i o e
    obtain ⟨p, h1, h2⟩ := I.ent _ _ e
    exact ⟨.ref p, h1, hQ p σ G H I (L2.Same.refl _) h2 (I.own i o p e h1)⟩
  · rename_i d e
    obtain ⟨v, h1, h2⟩ := I.ent _ _ e
    exact ⟨v, h1, hQ v σ G H I (L2.Same.refl _) h2⟩
  · exact hQ.elim
def dRet0 : Env → Out := fun ρ => .rt .none ρ
theorem st_ret0 : ST K W tRetN dRet0 := fun B ρ σ G H I Dn hQ => hQ .non σ G H I (L2.Same.refl _) mk_none
def dIfS (c : Env → Res Bool) (f g : Env → Out) : Env → Out := fun ρ => (c ρ).bindS fun b => if b = true then f ρ else g ρ
theorem st_if {c : TT} {t u : TS} {fc : Env → Res Bool} {f g : Env → Out} (hc : EB K W c fc) (a : ST K W t f) (b : ST K W u g) : ST K W (tIfS c t u) (dIfS fc f g) := fun B ρ σ G H I Dn hQ =>
  s_bind (ta := c) hc I hQ fun x d G1 H1 g1 r1 I1 q1 => by
    cases (show x = d from r1)
    cases x with
    | true => exact a B ρ σ G1 H1 I1 Dn q1
    | false => exact b B ρ σ G1 H1 I1 Dn q1
def outO (o : Option Env) : Out := match o with
  | some ρ => .nx ρ
  | none => .stuck
def dAsg (f : Env → Res D) (h : D → Env → Option Env) : Env → Out := fun ρ => (f ρ).bindS fun d => outO (h d ρ)
theorem st_asg {te : TE} {g : TG} {js : List Nat} {f : Env → Res D} {h : D → Env → Option Env} (a : ET K W te f) (b : GJ K js g h) : ST K W (tAsg te g) (dAsg f h) := fun B ρ σ G H I Dn hQ =>
  s_bind (ta := te) a I hQ fun x d G1 H1 g1 r1 I1 q1 => by
    refine b B ρ σ G1 H1 d x I1 r1 _ ?_
    cases e : h d ρ with
    | none => rw [e] at q1; exact q1
    | some ρ' => rw [e] at q1; exact fun σ' I' _ => q1 σ' G1 H1 I' (L2.Same.refl _)
/-- a name gets a new object -/
def dNew (i : Nat) (f : Env → Res Ob) : Env → Out := fun ρ => (f ρ).bindS fun o => match ρ[i]? with
  | some (.pm _) => .stuck
  | _ => .nx (ρ.set i (.ow o))
theorem st_new {te : TE} {i : Nat} {f : Env → Res Ob} (a : EN K W te f) : ST K W (tAsg te (gName i)) (dNew i f) := fun B ρ σ G H I Dn hQ =>
  s_bind (ta := te) a I hQ fun x o G1 H1 g1 r1 I1 q1 => by
    obtain ⟨p, rfl, h1, h2⟩ := r1
    split at q1
    · exact q1.elim
    · rename_i hne
      exact q1 _ G1 H1 (I.setN g1 (fun o h => hne o h) h1 h2) (L2.Same.refl _)
/-- ghosts: an object is frozen, slots are forgotten, ahead of a statement -/
def frzE (i : Nat) (ρ : Env) : Env := match ρ[i]? with
  | some (.ow o) => ρ.set i (.fr o.data)
  | _ => ρ
def dFrz (i : Nat) (f : Env → Out) : Env → Out := fun ρ => f (frzE i ρ)
theorem st_frz {i : Nat} {t : TS} {f : Env → Out} (h : ST K W t f) : ST K W t (dFrz i f) := fun B ρ σ G H I Dn hQ => by
  unfold dFrz frzE at hQ
  split at hQ
  · rename_i o e
    obtain ⟨G', I', s⟩ := I.frz e
    exact h B _ σ G' H I' Dn (OkS.mono hQ s)
  · exact h B ρ σ G H I Dn hQ
def forgetE : List Nat → Env → Env
  | [], ρ => ρ
  | i :: js, ρ => forgetE js (ρ.set i .un)
theorem DInv.forgets : ∀ (js : List Nat) {ρ : Env}, DInv K B ρ σ G H → DInv K B (forgetE js ρ) σ G H
  | [], _, I => I
  | i :: js, _, I => DInv.forgets js (I.forget i)
/-- behind a statement -/
def dForget (js : List Nat) (f : Env → Out) : Env → Out := fun ρ => match f ρ with
  | .nx ρ => .nx (forgetE js ρ)
  | .bk ρ => .bk (forgetE js ρ)
  | .ct ρ => .ct (forgetE js ρ)
  | o => o
theorem st_forget {js : List Nat} {t : TS} {f : Env → Out} (h : ST K W t f) : ST K W t (dForget js f) := fun B ρ σ G H I Dn hQ => by
  refine h B ρ σ G H I Dn ?_
  unfold dForget at hQ
  cases e : f ρ with
  | nx ρ1 => rw [e] at hQ; exact fun σ' G' H' I' s => hQ σ' G' H' (I'.forgets js) s
  | bk ρ1 => rw [e] at hQ; exact fun σ' G' H' I' s => hQ σ' G' H' (I'.forgets js) s
  | ct ρ1 => rw [e] at hQ; exact fun σ' G' H' I' s => hQ σ' G' H' (I'.forgets js) s
  | rt d ρ1 => rw [e] at hQ; exact hQ
  | rn d ρ1 => rw [e] at hQ; exact hQ
  | exc c => rw [e] at hQ; exact hQ
  | stuck => rw [e] at hQ; exact hQ
/-- ahead of a statement -/
def dAhead (js : List Nat) (f : Env → Out) : Env → Out := fun ρ => f (forgetE js ρ)
theorem st_ahead {js : List Nat} {t : TS} {f : Env → Out} (h : ST K W t f) : ST K W t (dAhead js f) := fun B ρ σ G H I Dn hQ => h B _ σ G H (I.forgets js) Dn hQ
/-! ### methods that change an owned list -/
/-- the content of an owned slot, and the slot with another content -/
def owL (ρ : Env) (i : Nat) : Option (List D) := match ρ[i]? with
  | some (.ow (.l ds)) => some ds
  | some (.pm (.l ds)) => some ds
  | _ => none
def putL (ρ : Env) (i : Nat) (ds : List D) : Env := match ρ[i]? with
  | some (.ow _) => ρ.set i (.ow (.l ds))
  | some (.pm _) => ρ.set i (.pm (.l ds))
  | _ => ρ
theorem owL_at (I : DInv K B ρ σ G H) {i : Nat} {ds : List D} (h : owL ρ i = some ds) : ds.length ≤ sizeLine ∧ ∃ p vs, σ[i]? = some (some (.ref p)) ∧ H p = some (.lst vs) ∧ RepL K G ds vs ∧
    ∀ ds' vs', ds'.length ≤ sizeLine → RepL K G ds' vs' → DInv K B (putL ρ i ds') σ G (upd H p (.lst vs')) := by
  unfold owL at h
  split at h
  · rename_i ds0 e
    cases h
    obtain ⟨p, h1, h2, ho, h3, z, vs, rfl, h4⟩ := I.ent i _ e
    refine ⟨z, p, vs, h1, h3, h4, fun ds' vs' z' r => ?_⟩
    have q := I.mut (o' := .l ds') (ho' := .lst vs') e rfl h1 ⟨z', vs', rfl, r⟩
    unfold putL
    rw [e]
    exact q
  · rename_i ds0 e
    cases h
    obtain ⟨p, h1, h2, ho, h3, z, vs, rfl, h4⟩ := I.ent i _ e
    refine ⟨z, p, vs, h1, h3, h4, fun ds' vs' z' r => ?_⟩
    have q := I.mut (o' := .l ds') (ho' := .lst vs') e rfl h1 ⟨z', vs', rfl, r⟩
    unfold putL
    rw [e]
    exact q
  · cases h
def dApp (i : Nat) (f : Env → Res D) : Env → Out := fun ρ => match owL ρ i with
  | some ds => (f ρ).bindS fun d => if ds.length < sizeLine then .nx (putL ρ i (ds ++ [d])) else .stuck
  | none => .stuck
theorem ty_list {p : Addr} {vs : List V} (h : H p = some (.lst vs)) : tyV K "list" (.ref p) H := .inl ⟨rfl, vs, .inl (.inl h)⟩
/-- xs.append(e) -/
theorem st_app {te : TE} {i : Nat} {f : Env → Res D} (a : ET K W te f) : ST K W (tDrop (tBM K "list" rAppend (tVar i) (tCons te tNil))) (dApp i f) := fun B ρ σ G H I Dn hQ => by
  unfold dApp at hQ
  cases e : owL ρ i with
  | none => rw [e] at hQ; exact hQ.elim
  | some ds =>
    obtain ⟨z, p, vs, h1, h2, h3, h4⟩ := owL_at I e
    rw [e] at hQ
    refine ⟨.ref p, h1, ty_list h2, ?_⟩
    refine s_bind (ta := te) a I hQ fun x d G1 H1 g1 r1 I1 q1 => ?_
    obtain ⟨z, p', vs', h1', h2', h3', h4'⟩ := owL_at I1 e
    rw [h1] at h1'
    cases h1'
    by_cases hl : ds.length < sizeLine
    · simp only [hl, if_true] at q1
      refine ⟨p, vs', x, rfl, rfl, h2', by rw [← h3'.len]; exact hl, ?_⟩
      exact q1 σ G1 _ (h4' (ds ++ [d]) (vs' ++ [x]) (by rw [List.length_append]; exact hl) (h3'.append (RepL.one r1))) (L2.Same.refl _)
    · simp only [hl, if_false] at q1
      exact q1.elim
end
end PD

set_option Elab.async false
set_option linter.all false
set_option maxRecDepth 100000
/-! The data layer, 4: loops, comprehensions, methods that change, bodies of defs. -/
namespace PD
open PySem PySem.Spec PyProof.Rows L2
section
variable {K : Frag} {W : Str → Hp → Prop} {B : Bs} {ρ : Env} {σ : Sl} {G H G' H' : Hp}
/-- xs.extend(e) -/
def seqOf : D → Option (List D)
  | .list es => some es
  | .tuple es => some es
  | _ => none
def dExt (i : Nat) (f : Env → Res D) : Env → Out := fun ρ => match owL ρ i with
  | some ds => (f ρ).bindS fun d => match seqOf d with
    | some es => if ds.length + es.length ≤ sizeLine then .nx (putL ρ i (ds ++ es)) else .stuck
    | none => .stuck
  | none => .stuck
theorem rd_seq {Ha : Hp} {d : D} {es : List D} {v : V} (s : Same G H) (h : rlR K Ha G H d v) (e : seqOf d = some es) : es.length ≤ sizeLine ∧ ∃ a xs, v = .ref a ∧ (SqL K H a xs ∨ SqT K H a xs) ∧ RepL K G es xs := by
  cases d with
  | list ds =>
    cases e
    obtain ⟨z, a, xs, h1, h2, h3⟩ := rd_list s h
    exact ⟨z, a, xs, h1, .inl h2, h3⟩
  | tuple ds =>
    cases e
    obtain ⟨z, a, xs, h1, h2, h3⟩ := rd_tup s h
    exact ⟨z, a, xs, h1, .inr h2, h3⟩
  | _ => cases e
theorem st_ext {te : TE} {i : Nat} {f : Env → Res D} (a : ER K W te f) : ST K W (tDrop (tBM K "list" (rExtG K) (tVar i) (tCons te tNil))) (dExt i f) := fun B ρ σ G H I Dn hQ => by
  unfold dExt at hQ
  cases e : owL ρ i with
  | none => rw [e] at hQ; exact hQ.elim
  | some ds =>
    obtain ⟨z, p, vs, h1, h2, h3, h4⟩ := owL_at I e
    rw [e] at hQ
    refine ⟨.ref p, h1, ty_list h2, ?_⟩
    refine s_bind (ta := te) a I hQ fun x d G1 H1 g1 r1 I1 q1 => ?_
    obtain ⟨z, p', vs', h1', h2', h3', h4'⟩ := owL_at I1 e
    rw [h1] at h1'
    cases h1'
    cases e2 : seqOf d with
    | none => simp only [e2] at q1; exact q1.elim
    | some es =>
      simp only [e2] at q1
      by_cases hl : ds.length + es.length ≤ sizeLine
      · simp only [hl, if_true] at q1
        obtain ⟨_, b, zs, rfl, hb, hr⟩ := rd_seq I1.gh r1 e2
        refine ⟨p, b, vs', zs, rfl, rfl, h2', hb, by rw [← h3'.len, ← hr.len]; exact hl, ?_⟩
        exact q1 σ G1 _ (h4' (ds ++ es) (vs' ++ zs) (by rw [List.length_append]; exact hl) (h3'.append hr)) (L2.Same.refl _)
      · simp only [hl, if_false] at q1
        exact q1.elim
/-- tgt = xs.pop() -/
def dPop (i : Nat) (h : D → Env → Option Env) : Env → Out := fun ρ => match owL ρ i with
  | some ds => match ds.getLast? with
    | some d => outO (h d (putL ρ i ds.dropLast))
    | none => .stuck
  | none => .stuck
theorem last_rep {ds : List D} {vs : List V} {d : D} (r : RepL K G ds vs) (h : ds.getLast? = some d) : ∃ v, vs[vs.length - 1]? = some v ∧ Rep K G d v := by
  rw [List.getLast?_eq_getElem?] at h
  obtain ⟨v, h1, h2⟩ := r.at h
  exact ⟨v, by rw [← r.len]; exact h1, h2⟩
theorem st_pop {i : Nat} {g : TG} {js : List Nat} {h : D → Env → Option Env} (b : GJ K js g h) : ST K W (tAsg (tBM0 K "list" rPop (tVar i)) g) (dPop i h) := fun B ρ σ G H I Dn hQ => by
  unfold dPop at hQ
  cases e : owL ρ i with
  | none => rw [e] at hQ; exact hQ.elim
  | some ds =>
    obtain ⟨z, p, vs, h1, h2, h3, h4⟩ := owL_at I e
    simp only [e] at hQ
    cases e2 : ds.getLast? with
    | none => simp only [e2] at hQ; exact hQ.elim
    | some d =>
      simp only [e2] at hQ
      obtain ⟨v, hv, r⟩ := last_rep h3 e2
      have I' := h4 ds.dropLast vs.dropLast (by rw [List.length_dropLast]; omega) h3.dropLast
      refine ⟨.ref p, h1, ty_list h2, p, vs, v, rfl, rfl, h2, hv, ?_⟩
      refine b B _ σ G _ d v I' r _ ?_
      cases e3 : h d (putL ρ i ds.dropLast) with
      | none => rw [e3] at hQ; exact hQ
      | some ρ' => rw [e3] at hQ; exact fun σ' I2 _ => hQ σ' G _ I2 (L2.Same.refl _)
/-- xs.pop() -/
def dPopD (i : Nat) : Env → Out := fun ρ => match owL ρ i with
  | some ds => match ds.getLast? with
    | some _ => .nx (putL ρ i ds.dropLast)
    | none => .stuck
  | none => .stuck
theorem st_popD {i : Nat} : ST K W (tDrop (tBM0 K "list" rPop (tVar i))) (dPopD i) := fun B ρ σ G H I Dn hQ => by
  unfold dPopD at hQ
  cases e : owL ρ i with
  | none => rw [e] at hQ; exact hQ.elim
  | some ds =>
    obtain ⟨z, p, vs, h1, h2, h3, h4⟩ := owL_at I e
    simp only [e] at hQ
    cases e2 : ds.getLast? with
    | none => simp only [e2] at hQ; exact hQ.elim
    | some d =>
      simp only [e2] at hQ
      obtain ⟨v, hv, r⟩ := last_rep h3 e2
      have I' := h4 ds.dropLast vs.dropLast (by rw [List.length_dropLast]; omega) h3.dropLast
      exact ⟨.ref p, h1, ty_list h2, p, vs, v, rfl, rfl, h2, hv, hQ σ G _ I' (L2.Same.refl _)⟩
/-- -lo to hi, asked so that no kernel counts up to the bound -/
def inR (lo hi : Nat) : Int → Bool
  | .ofNat n => Nat.ble n hi
  | .negSucc n => Nat.ble (n + 1) lo
theorem inR_iff {lo hi : Nat} {j : Int} : inR lo hi j = true ↔ -(lo : Int) ≤ j ∧ j ≤ (hi : Int) := by
  cases j with
  | ofNat n =>
    show Nat.ble n hi = true ↔ _
    rw [Nat.ble_eq]
    constructor
    · intro h; exact ⟨by have : (0 : Int) ≤ Int.ofNat n := Int.natCast_nonneg n; omega, Int.ofNat_le.mpr h⟩
    · intro h; exact Int.ofNat_le.mp h.2
  | negSucc n =>
    show Nat.ble (n + 1) lo = true ↔ _
    rw [Nat.ble_eq, Int.negSucc_eq]
    omega
def ix63 (k : Int) : Bool := inR 9223372036854775808 9223372036854775807 k
theorem ix63_iff {k : Int} : ix63 k = true ↔ -(2 ^ 63) ≤ k ∧ k < 2 ^ 63 := by
  have e : (2 : Int) ^ 63 = 9223372036854775808 := by decide
  unfold ix63
  rw [inR_iff, e]
  omega
/-- ys.append(xs.pop(e)), ys and xs two -/
def dAppPop (i j : Nat) (f : Env → Res D) : Env → Out := fun ρ => match owL ρ i with
  | some ds => match owL ρ j with
    | some es => (f ρ).bindS fun d => match d with
      | .int k => if ix63 k = true then match seqIndex? k es.length with
        | some m => match es[m]? with
          | some x => match owL (putL ρ j (es.eraseIdx m)) i with
            | some ds' => if ds'.length < sizeLine then .nx (putL (putL ρ j (es.eraseIdx m)) i (ds' ++ [x])) else .stuck
            | none => .stuck
          | none => .stuck
        | none => .stuck
        else .stuck
      | _ => .stuck
    | none => .stuck
  | none => .stuck
theorem st_appPop {te : TE} {i j : Nat} {f : Env → Res D} (a : ER K W te f) : ST K W (tDrop (tBM K "list" rAppend (tVar i) (tCons (tBM K "list" rPopAt (tVar j) (tCons te tNil)) tNil))) (dAppPop i j f) := fun B ρ σ G H I Dn hQ => by
  unfold dAppPop at hQ
  cases ei : owL ρ i with
  | none => rw [ei] at hQ; exact hQ.elim
  | some ds =>
    cases ej : owL ρ j with
    | none => simp only [ei, ej] at hQ; exact hQ.elim
    | some es =>
      simp only [ei, ej] at hQ
      obtain ⟨zi, p, vs, h1, h2, h3, h4⟩ := owL_at I ei
      obtain ⟨zj, q, us, k1, k2, k3, k4⟩ := owL_at I ej
      refine ⟨.ref p, h1, ty_list h2, .ref q, k1, ty_list k2, ?_⟩
      refine s_bind (ta := te) a I hQ fun x d G1 H1 g1 r1 I1 q1 => ?_
      obtain ⟨_, p', vs', h1', h2', h3', h4'⟩ := owL_at I1 ei
      obtain ⟨_, q', us', k1', k2', k3', k4'⟩ := owL_at I1 ej
      rw [h1] at h1'; cases h1'
      rw [k1] at k1'; cases k1'
      cases d with
      | int k =>
        obtain rfl := rd_int r1
        by_cases hk : ix63 k = true
        · simp only [hk, if_true] at q1
          replace hk := ix63_iff.mp hk
          cases em : seqIndex? k es.length with
          | none => simp only [em] at q1; exact q1.elim
          | some m =>
            simp only [em] at q1
            cases ex : es[m]? with
            | none => simp only [ex] at q1; exact q1.elim
            | some y =>
              simp only [ex] at q1
              obtain ⟨v, hv, rv⟩ := k3'.at ex
              have I2 := k4' (es.eraseIdx m) (us'.eraseIdx m) (by have := List.length_eraseIdx_le es m; omega) (k3'.eraseIdx m)
              refine ⟨q, us', k, m, v, rfl, rfl, k2', hk.1, hk.2, by rw [← k3'.len]; exact em, hv, ?_⟩
              cases e3 : owL (putL ρ j (es.eraseIdx m)) i with
              | none => simp only [e3] at q1; exact q1.elim
              | some ds' =>
                simp only [e3] at q1
                by_cases hl : ds'.length < sizeLine
                · simp only [hl, if_true] at q1
                  obtain ⟨_, p2, vs2, m1, m2, m3, m4⟩ := owL_at I2 e3
                  rw [h1] at m1; cases m1
                  exact ⟨p, vs2, v, rfl, rfl, m2, by rw [← m3.len]; exact hl, q1 σ G1 _ (m4 (ds' ++ [y]) (vs2 ++ [v]) (by rw [List.length_append]; exact hl) (m3.append (RepL.one rv))) (L2.Same.refl _)⟩
                · simp only [hl, if_false] at q1; exact q1.elim
        · simp only [hk, if_false] at q1; exact q1.elim
      | _ => exact q1.elim
/-- xs[e] = e2 -/
def dPutAt (k : Nat) (fi fv : Env → Res D) : Env → Out := fun ρ => match owL ρ k with
  | some ds => (fv ρ).bindS fun d => (fi ρ).bindS fun i => match i with
    | .int n => match ixN ds.length n with
      | some j => .nx (putL ρ k (ds.set j d))
      | none => .stuck
    | _ => .stuck
  | none => .stuck
theorem st_putAt {tv ti : TE} {k : Nat} {fi fv : Env → Res D} (a : ET K W tv fv) (b : ER K W ti fi) : ST K W (tAsg tv (gSub (tVar k) ti rSetL)) (dPutAt k fi fv) := fun B ρ σ G H I Dn hQ => by
  unfold dPutAt at hQ
  cases e : owL ρ k with
  | none => rw [e] at hQ; exact hQ.elim
  | some ds =>
    rw [e] at hQ
    refine s_bind (ta := tv) a I hQ fun x d G1 H1 g1 r1 I1 q1 => ?_
    obtain ⟨z, p, vs, h1, h2, h3, h4⟩ := owL_at I1 e
    refine ⟨.ref p, h1, ?_⟩
    refine s_bind (ta := ti) b I1 q1 fun y i G2 H2 g2 r2 I2 q2 => ?_
    obtain ⟨z, p', vs', h1', h2', h3', h4'⟩ := owL_at I2 e
    rw [h1] at h1'; cases h1'
    cases i with
    | int n =>
      obtain rfl := rd_int r2
      cases e2 : ixN ds.length n with
      | none => simp only [e2] at q2; exact q2.elim
      | some j =>
        simp only [e2] at q2
        exact ⟨p, vs', n, j, rfl, rfl, h2', by rw [← h3'.len]; exact e2, q2 σ G2 _ (h4' (ds.set j d) (vs'.set j x) (by rw [List.length_set]; exact z) (h3'.set j (Rep.mono g2.gg _ _ r1))) (L2.Same.refl _)⟩
    | _ => exact q2.elim
/-- x += e, whole numbers -/
def dAug (f : Int → Int → Int) (i : Nat) (fe : Env → Res D) : Env → Out := fun ρ => match ρ[i]? with
  | some (.fr (.int n)) => (fe ρ).bindS fun d => match d with
    | .int m => .nx (ρ.set i (.fr (.int (f n m))))
    | _ => .stuck
  | _ => .stuck
theorem st_aug {f : Int → Int → Int} {i : Nat} {te : TE} {fe : Env → Res D} (a : ER K W te fe) : ST K W (tAug i te (ipI f)) (dAug f i fe) := fun B ρ σ G H I Dn hQ => by
  unfold dAug at hQ
  split at hQ
  · rename_i n e
    obtain ⟨v, h1, h2⟩ := I.ent i _ e
    refine ⟨v, h1, ?_⟩
    refine s_bind (ta := te) a I hQ fun x d G1 H1 g1 r1 I1 q1 => ?_
    cases d with
    | int m =>
      obtain rfl := rd_int r1
      exact ⟨n, m, rep_int h2, rfl, q1 _ G1 H1 (I1.setE rfl (fun o h => by rw [e] at h; cases h) fun _ => ⟨_, rfl, mk_int⟩) (L2.Same.refl _)⟩
    | _ => exact q1.elim
  · exact hQ.elim
/-! ### walks -/
/-- what a for or a comprehension goes over, by data -/
def OkI (K : Frag) (W : Str → Hp → Prop) (B : Bs) (G H : Hp) (r : Res (List D)) (R : It → Hp → Prop) : Prop := match r with
  | .ok ds => ∀ (J : It) (n : Nat) (P : Hp → Prop) (Y : Nat → Hp → V → Hp → Prop) (G1 H1 : Hp), Gr G H G1 H1 → Walk J n P Y → n = ds.length → n ≤ sizeLine → (∀ H2, Same G1 H2 → P H2) →
      (∀ i x G2 H2 H3, i < n → Same G1 G2 → Same G2 H2 → Y i H2 x H3 → ∃ d G3, ds[i]? = some d ∧ Gr G2 H2 G3 H3 ∧ Rep K G3 d x) → R J H1
  | .exc c => ∀ H', Kp B H' → W c H'
  | .stuck => False
def IJ (K : Frag) (W : Str → Hp → Prop) (wi : TI) (f : Env → Res (List D)) : Prop :=
  ∀ (B : Bs) (ρ : Env) (σ : Sl) (G H : Hp), DInv K B ρ σ G H → ∀ R, OkI K W B G H (f ρ) R → wi σ H R
theorem OkI.grow {r : Res (List D)} {R : It → Hp → Prop} (h : OkI K W B G H r R) (g : Gr G H G' H') : OkI K W B G' H' r R := by
  cases r with
  | ok ds => exact fun J n P Y G1 H1 g1 => h J n P Y G1 H1 (g.trans g1)
  | exc c => exact h
  | stuck => exact h
theorem i_bind {α β : Type} {rel : Rl α β} {ta : Sl → Hp → (β → Hp → Prop) → Prop} {fa : Env → Res α} {k : α → Res (List D)} {R : It → Hp → Prop} {P : β → Hp → Prop} (ha : J K W rel ta fa) (I : DInv K B ρ σ G H)
    (hQ : OkI K W B G H ((fa ρ).bind k) R) (next : ∀ b a G1 H1, Gr G H G1 H1 → rel H G1 H1 a b → DInv K B ρ σ G1 H1 → OkI K W B G1 H1 (k a) R → P b H1) : ta σ H P := by
  refine ha B ρ σ G H I P ?_
  cases e : fa ρ with
  | ok a =>
    rw [e] at hQ
    intro b G1 H1 g1 r1
    exact next b a G1 H1 g1 r1 (I.grow g1) (OkI.grow hQ g1)
  | exc c => rw [e] at hQ; exact hQ
  | stuck => rw [e] at hQ; exact hQ
/-- over a list that is data -/
def dItL (f : Env → Res D) : Env → Res (List D) := fun ρ => (f ρ).bind fun d => match d with
  | .list es => .ok es
  | _ => .stuck
theorem ij_list {te : TE} {f : Env → Res D} (a : ET K W te f) : IJ K W (iList K te) (dItL f) := fun B ρ σ G H I R hQ =>
  i_bind (ta := te) a I hQ fun x d G1 H1 g1 r1 I1 q1 => by
    cases d with
    | list es =>
      unfold rlV Rep at r1
      obtain ⟨z, p, xs, rfl, h1, h2⟩ := r1
      have hs : SqL K G1 p xs := h1
      refine ⟨p, rfl, ⟨xs, I1.gh.seq hs⟩, ?_⟩
      refine q1 (Itl K p) xs.length _ _ G1 H1 I1.gr walk_list h2.len.symm (by rw [← h2.len]; exact z) (fun H2 s => s.seq hs) fun i x G2 H2 H3 hi s1 s2 y => ?_
      obtain ⟨rfl, hx⟩ := y
      obtain ⟨d, hd, hr⟩ := h2.atV hx
      exact ⟨d, G2, hd, Gr.rfl' s2, Rep.mono s1 _ _ hr⟩
    | _ => exact q1.elim
/-- over a tuple -/
def dItT (f : Env → Res D) : Env → Res (List D) := fun ρ => (f ρ).bind fun d => match d with
  | .tuple es => .ok es
  | _ => .stuck
theorem ij_tup {te : TE} {f : Env → Res D} (a : ET K W te f) : IJ K W (iTup K te) (dItT f) := fun B ρ σ G H I R hQ =>
  i_bind (ta := te) a I hQ fun x d G1 H1 g1 r1 I1 q1 => by
    cases d with
    | tuple es =>
      unfold rlV Rep at r1
      obtain ⟨z, p, xs, rfl, hs, h2⟩ := r1
      refine ⟨p, rfl, ⟨xs, Same.sqt I1.gh hs⟩, ?_⟩
      refine q1 (Itt K p) xs.length _ _ G1 H1 I1.gr walk_tup h2.len.symm (by rw [← h2.len]; exact z) (fun H2 s => Same.sqt s hs) fun i x G2 H2 H3 hi s1 s2 y => ?_
      obtain ⟨rfl, hx⟩ := y
      obtain ⟨d, hd, hr⟩ := h2.atV hx
      exact ⟨d, G2, hd, Gr.rfl' s2, Rep.mono s1 _ _ hr⟩
    | _ => exact q1.elim
/-- the whole numbers from lo on, n of them -/
def rgD (lo : Int) (n : Nat) : List D := (List.range n).map fun (i : Nat) => .int (lo + (i : Int))
theorem rgD_len {lo : Int} {n : Nat} : (rgD lo n).length = n := by unfold rgD; simp
theorem rgD_at {lo : Int} {n i : Nat} (h : i < n) : (rgD lo n)[i]? = some (.int (lo + (i : Int))) := by
  unfold rgD
  rw [List.getElem?_map, List.getElem?_range h]
  rfl
/-- the ends of a range that is served -/
def rgOk (j : Int) : Bool := inR 8000000 8000000 j
theorem rgOk_iff {j : Int} : rgOk j = true ↔ -8000000 ≤ j ∧ j ≤ 8000000 := by unfold rgOk; rw [inR_iff]; omega
def dRng1 (fs : Env → Res (List D)) : Env → Res (List D) := fun ρ => (fs ρ).bind fun ds => match ds with
  | [.int j] => if rgOk j = true then .ok (rgD 0 j.toNat) else .stuck
  | _ => .stuck
def dRng2 (fs : Env → Res (List D)) : Env → Res (List D) := fun ρ => (fs ρ).bind fun ds => match ds with
  | [.int i, .int j] => if rgOk i = true ∧ rgOk j = true then .ok (rgD i (j - i).toNat) else .stuck
  | _ => .stuck
theorem rlLR_int1 {i : Int} {xs : List V} (h : ReadL K G H [.int i] xs) : xs = [.int i] := by
  obtain ⟨v, r, rfl, h1, h2⟩ := h
  obtain rfl := rd_int h1
  cases h2
  rfl
theorem rlLR_int2 {i j : Int} {xs : List V} (h : ReadL K G H [.int i, .int j] xs) : xs = [.int i, .int j] := by
  obtain ⟨v, r, rfl, h1, h2⟩ := h
  obtain rfl := rd_int h1
  rw [rlLR_int1 h2]
theorem it_range {lo : Int} {n : Nat} {R : It → Hp → Prop} (hz : n ≤ sizeLine) (s : Same G H) (h : OkI K W B G H (.ok (rgD lo n)) R) : R (Itr lo n) H := by
  refine h (Itr lo n) n _ _ G H (Gr.rfl' s) walk_range rgD_len.symm hz (fun _ _ => trivial) fun i x G2 H2 H3 hi s1 s2 y => ?_
  obtain ⟨rfl, rfl⟩ := y
  exact ⟨_, G2, rgD_at hi, Gr.rfl' s2, mk_int⟩
theorem ij_range1 {t : TA} {fs : Env → Res (List D)} (a : EAR K W t fs) : IJ K W (iRng1 t) (dRng1 fs) := fun B ρ σ G H I R hQ =>
  i_bind (ta := t) a I hQ fun x d G1 H1 g1 r1 I1 q1 => by
    split at q1
    · rename_i j
      by_cases hj : rgOk j = true
      · rw [if_pos hj] at q1
        have h1 := rgOk_iff.mp hj
        exact ⟨j, rlLR_int1 r1, by omega, by omega, it_range (by rw [sizeLine_eq]; omega) I1.gh q1⟩
      · rw [if_neg hj] at q1; exact q1.elim
    · exact q1.elim
theorem ij_range2 {t : TA} {fs : Env → Res (List D)} (a : EAR K W t fs) : IJ K W (iRng2 t) (dRng2 fs) := fun B ρ σ G H I R hQ =>
  i_bind (ta := t) a I hQ fun x d G1 H1 g1 r1 I1 q1 => by
    split at q1
    · rename_i i j
      by_cases hj : rgOk i = true ∧ rgOk j = true
      · rw [if_pos hj] at q1
        have h1 := rgOk_iff.mp hj.1
        have h2 := rgOk_iff.mp hj.2
        exact ⟨i, j, rlLR_int2 r1, ⟨by omega, by omega, by omega, by omega⟩, it_range (by rw [sizeLine_eq]; omega) I1.gh q1⟩
      · rw [if_neg hj] at q1; exact q1.elim
    · exact q1.elim
/-! ### for -/
def forF (h : D → Env → Option Env) (fb : Env → Out) : List D → Env → Out
  | [], ρ => .nx ρ
  | d :: ds, ρ => match h d ρ with
    | none => .stuck
    | some ρ1 => match fb ρ1 with
      | .nx ρ2 => forF h fb ds ρ2
      | .ct ρ2 => forF h fb ds ρ2
      | .bk ρ2 => .nx ρ2
      | o => o
def dFor (src : Env → Res (List D)) (h : D → Env → Option Env) (fb : Env → Out) : Env → Out := fun ρ => (src ρ).bindS fun ds => forF h fb ds ρ
theorem st_for {wi : TI} {g : TG} {tb : TS} {src : Env → Res (List D)} {js : List Nat} {h : D → Env → Option Env} {fb : Env → Out} (hi : IJ K W wi src) (hg : GJ K js g h) (hb : ST K W tb fb) : ST K W (tFor wi g tb) (dFor src h fb) := fun B ρ σ G H I Dn hQ => by
  refine hi B ρ σ G H I _ ?_
  unfold dFor at hQ
  cases e : src ρ with
  | exc c => rw [e] at hQ; exact hQ
  | stuck => rw [e] at hQ; exact hQ
  | ok ds =>
    rw [e] at hQ
    intro J n P Y G1 H1 g1 w hn hz hP hY
    subst hn
    have hQ1 : OkS K W B G1 (forF h fb ds ρ) Dn := OkS.mono hQ g1.gg
    refine for_it w (fun i σ H => ∃ ρ' G', DInv K B ρ' σ G' H ∧ Same G1 G' ∧ OkS K W B G' (forF h fb (ds.drop i) ρ') Dn) ⟨ρ, G1, I.grow g1, L2.Same.refl _, hQ1⟩ (fun i σ H _ ⟨ρ', G', I', s, _⟩ => hP H (s.trans I'.gh)) ?_ ?_
    · rintro i x σ2 H2 H3 hi ⟨ρ2, G2, I2, s2, q2⟩ y
      obtain ⟨d, G3, hd, g3, r3⟩ := hY i x G2 H2 H3 hi s2 I2.gh y
      have I3 := I2.grow g3
      have hdrop : ds.drop i = d :: ds.drop (i + 1) := by
        have hi' : i < ds.length := hi
        rw [List.drop_eq_getElem_cons hi']
        rw [List.getElem?_eq_getElem hi'] at hd
        cases hd
        rfl
      rw [hdrop] at q2
      refine hg B ρ2 σ2 G3 H3 d x I3 r3 _ ?_
      unfold forF at q2
      cases e1 : h d ρ2 with
      | none => rw [e1] at q2; exact q2
      | some ρ3 =>
        simp only [e1] at q2
        intro σ3 I4 _
        refine hb B ρ3 σ3 G3 H3 I4 _ ?_
        have more : ∀ ρ4, OkS K W B G2 (forF h fb (ds.drop (i + 1)) ρ4) Dn → ∀ σ' G' H', DInv K B ρ4 σ' G' H' → Same G3 G' → ∃ ρ' G'', DInv K B ρ' σ' G'' H' ∧ Same G1 G'' ∧ OkS K W B G'' (forF h fb (ds.drop (i + 1)) ρ') Dn :=
          fun ρ4 q σ' G' H' I' s => ⟨ρ4, G', I', s2.trans (g3.gg.trans s), OkS.mono q (g3.gg.trans s)⟩
        cases e2 : fb ρ3 with
        | nx ρ4 => simp only [e2] at q2; exact more ρ4 q2
        | ct ρ4 => simp only [e2] at q2; exact more ρ4 q2
        | bk ρ4 => simp only [e2] at q2; exact fun σ' G' H' I' s => q2 σ' G' H' I' (g3.gg.trans s)
        | rt d' ρ4 => simp only [e2] at q2; exact fun v σ' G' H' I' s => q2 v σ' G' H' I' (g3.gg.trans s)
        | rn d' ρ4 => simp only [e2] at q2; exact fun v σ' G' H' I' s => q2 v σ' G' H' I' (g3.gg.trans s)
        | exc c => simp only [e2] at q2; exact q2
        | stuck => simp only [e2] at q2; exact q2
    · rintro σ2 H2 ⟨ρ2, G2, I2, s2, q2⟩
      rw [List.drop_length] at q2
      exact q2 σ2 G2 H2 I2 (L2.Same.refl _)
/-! ### while -/
def whileN (c : Env → Res Bool) (b : Env → Out) : Nat → Env → Out
  | 0, _ => .stuck
  | n + 1, ρ => (c ρ).bindS fun k => if k = true then match b ρ with
      | .nx ρ2 => whileN c b n ρ2
      | .ct ρ2 => whileN c b n ρ2
      | .bk ρ2 => .nx ρ2
      | o => o
    else .nx ρ
open Classical in
noncomputable def dWhile (c : Env → Res Bool) (b : Env → Out) : Env → Out := fun ρ => if h : ∃ n, whileN c b n ρ ≠ .stuck then whileN c b (Classical.choose h) ρ else .stuck
theorem whileN_more {c : Env → Res Bool} {b : Env → Out} : ∀ (n : Nat) (ρ : Env), whileN c b n ρ ≠ .stuck → whileN c b (n + 1) ρ = whileN c b n ρ
  | 0, ρ, h => absurd rfl h
  | n + 1, ρ, h => by
    have e1 : whileN c b (n + 1) ρ = (c ρ).bindS fun k => if k = true then match b ρ with
      | .nx ρ2 => whileN c b n ρ2
      | .ct ρ2 => whileN c b n ρ2
      | .bk ρ2 => .nx ρ2
      | o => o
    else .nx ρ := rfl
    have e2 : whileN c b (n + 2) ρ = (c ρ).bindS fun k => if k = true then match b ρ with
      | .nx ρ2 => whileN c b (n + 1) ρ2
      | .ct ρ2 => whileN c b (n + 1) ρ2
      | .bk ρ2 => .nx ρ2
      | o => o
    else .nx ρ := rfl
    rw [e1] at h
    rw [e1, e2]
    cases hc : c ρ with
    | exc x => rfl
    | stuck => rfl
    | ok k =>
      rw [hc] at h
      cases k with
      | false => rfl
      | true =>
        simp only [Res.bindS, if_true] at h ⊢
        cases hb : b ρ with
        | nx ρ2 => simp only [hb] at h ⊢; exact whileN_more n ρ2 h
        | ct ρ2 => simp only [hb] at h ⊢; exact whileN_more n ρ2 h
        | bk ρ2 => rfl
        | rt d ρ2 => rfl
        | rn d ρ2 => rfl
        | exc x => rfl
        | stuck => rfl
theorem whileN_le {c : Env → Res Bool} {b : Env → Out} {n m : Nat} {ρ : Env} (h : whileN c b n ρ ≠ .stuck) (hl : n ≤ m) : whileN c b m ρ = whileN c b n ρ := by
  induction m with
  | zero =>
    have : n = 0 := by omega
    subst this; rfl
  | succ m ih =>
    by_cases e : n = m + 1
    · subst e; rfl
    · have q := ih (by omega)
      rw [whileN_more m ρ (by rw [q]; exact h), q]
theorem dWhile_eq {c : Env → Res Bool} {b : Env → Out} {n : Nat} {ρ : Env} (h : whileN c b n ρ ≠ .stuck) : dWhile c b ρ = whileN c b n ρ := by
  have hx : ∃ n, whileN c b n ρ ≠ .stuck := ⟨n, h⟩
  unfold dWhile
  rw [dif_pos hx]
  have h2 := Classical.choose_spec hx
  rcases Nat.le_total n (Classical.choose hx) with q | q
  · exact whileN_le h q
  · exact (whileN_le h2 q).symm
/-- one turn -/
theorem dWhile_step {c : Env → Res Bool} {b : Env → Out} {ρ : Env} : dWhile c b ρ = (c ρ).bindS fun k => if k = true then match b ρ with
      | .nx ρ2 => dWhile c b ρ2
      | .ct ρ2 => dWhile c b ρ2
      | .bk ρ2 => .nx ρ2
      | o => o
    else .nx ρ := by
  have go : ∀ ρ2, (whileN c b · ρ) = (fun n => match n with | 0 => .stuck | n + 1 => whileN c b n ρ2) → dWhile c b ρ = dWhile c b ρ2 := fun ρ2 hf => by
    by_cases hx : ∃ n, whileN c b n ρ2 ≠ .stuck
    · obtain ⟨n, hn⟩ := hx
      have q := congrFun hf (n + 1)
      rw [dWhile_eq hn, dWhile_eq (n := n + 1) (by rw [q]; exact hn), q]
    · have hy : ¬ ∃ n, whileN c b n ρ ≠ .stuck := fun ⟨n, hn⟩ => by
        cases n with
        | zero => exact hn rfl
        | succ n =>
          have q := congrFun hf (n + 1)
          rw [q] at hn
          exact hx ⟨n, hn⟩
      unfold dWhile
      rw [dif_neg hx, dif_neg hy]
  have one : ∀ o : Out, (∀ n, whileN c b (n + 1) ρ = o) → dWhile c b ρ = o := fun o ho => by
    by_cases hs : o = .stuck
    · subst hs
      have hy : ¬ ∃ n, whileN c b n ρ ≠ .stuck := fun ⟨n, hn⟩ => by
        cases n with
        | zero => exact hn rfl
        | succ n => exact hn (ho n)
      unfold dWhile
      rw [dif_neg hy]
    · rw [dWhile_eq (n := 1) (by rw [ho 0]; exact hs), ho 0]
  cases hc : c ρ with
  | exc x => exact one _ fun n => by unfold whileN; rw [hc]; rfl
  | stuck => exact one _ fun n => by unfold whileN; rw [hc]; rfl
  | ok k =>
    cases k with
    | false => exact one _ fun n => by unfold whileN; rw [hc]; rfl
    | true =>
      simp only [Res.bindS, if_true]
      cases hb : b ρ with
      | nx ρ2 => exact go ρ2 (funext fun n => by cases n with | zero => rfl | succ n => simp only [whileN, hc, Res.bindS, if_true, hb])
      | ct ρ2 => exact go ρ2 (funext fun n => by cases n with | zero => rfl | succ n => simp only [whileN, hc, Res.bindS, if_true, hb])
      | bk ρ2 => exact one _ fun n => by simp only [whileN, hc, Res.bindS, if_true, hb]
      | rt d ρ2 => exact one _ fun n => by simp only [whileN, hc, Res.bindS, if_true, hb]
      | rn d ρ2 => exact one _ fun n => by simp only [whileN, hc, Res.bindS, if_true, hb]
      | exc x => exact one _ fun n => by simp only [whileN, hc, Res.bindS, if_true, hb]
      | stuck => exact one _ fun n => by simp only [whileN, hc, Res.bindS, if_true, hb]
theorem st_while {c : TT} {tb : TS} {fc : Env → Res Bool} {fb : Env → Out} (hc : EB K W c fc) (hb : ST K W tb fb) : ST K W (tWhile c tb) (dWhile fc fb) := fun B ρ σ G H I Dn hQ => by
  have hx : ∃ n, whileN fc fb n ρ ≠ .stuck := by
    refine Classical.byContradiction fun hn => ?_
    unfold dWhile at hQ
    rw [dif_neg hn] at hQ
    exact hQ
  obtain ⟨n, hn⟩ := hx
  rw [dWhile_eq hn] at hQ
  refine ⟨fun m σ H => ∃ ρ' G', DInv K B ρ' σ G' H ∧ OkS K W B G' (whileN fc fb m ρ') Dn, ⟨n, ρ, G, I, hQ⟩, ?_⟩
  rintro m σ1 H1 ⟨ρ1, G1, I1, q1⟩
  cases m with
  | zero => exact q1.elim
  | succ m =>
    unfold whileN at q1
    refine s_bind (ta := c) hc I1 q1 fun x d G2 H2 g2 r2 I2 q2 => ?_
    cases (show x = d from r2)
    cases x with
    | false => exact q2 σ1 G2 H2 I2 (L2.Same.refl _)
    | true =>
      simp only [if_true] at q2 ⊢
      refine ⟨fun σ' H' => ∃ ρ' G', DInv K B ρ' σ' G' H' ∧ OkS K W B G' (whileN fc fb m ρ') Dn, fun σ' H' h => ⟨m, Nat.lt_succ_self m, h⟩, ?_⟩
      refine hb B ρ1 σ1 G2 H2 I2 _ ?_
      cases e2 : fb ρ1 with
      | nx ρ4 => simp only [e2] at q2; exact fun σ' G' H' I' s => ⟨ρ4, G', I', OkS.mono q2 s⟩
      | ct ρ4 => simp only [e2] at q2; exact fun σ' G' H' I' s => ⟨ρ4, G', I', OkS.mono q2 s⟩
      | bk ρ4 => simp only [e2] at q2; exact q2
      | rt d' ρ4 => simp only [e2] at q2; exact q2
      | rn d' ρ4 => simp only [e2] at q2; exact q2
      | exc c => simp only [e2] at q2; exact q2
      | stuck => simp only [e2] at q2; exact q2
end
end PD

set_option Elab.async false
set_option linter.all false
set_option maxRecDepth 100000
/-! The data layer, 5: comprehensions, bodies of defs, what is raised. -/
namespace PD
open PySem PySem.Spec PyProof.Rows L2
section
variable {K : Frag} {W : Str → Hp → Prop} {B : Bs} {ρ : Env} {σ : Sl} {G H G' H' : Hp}
abbrev W0 : Str → Hp → Prop := fun _ _ => False
def wipeE : List Nat → Env → Env
  | [], ρ => ρ
  | v :: vs, ρ => (wipeE vs ρ).set v .un
def noPm (ρ : Env) : List Nat → Bool
  | [] => true
  | v :: vs => (match ρ[v]? with | some (.pm _) => false | _ => true) && noPm ρ vs
theorem wipeE_pm {v : Nat} {o : Ob} : ∀ {vs : List Nat}, (wipeE vs ρ)[v]? = some (.pm o) → ρ[v]? = some (.pm o)
  | [], h => h
  | w :: vs, h => by
    unfold wipeE at h
    rcases get_set h with ⟨_, _, e⟩ | ⟨_, h⟩
    · cases e
    · exact wipeE_pm h
theorem DInv.wipe (I : DInv K B ρ σ G H) : ∀ {vs : List Nat}, noPm ρ vs = true → DInv K B (wipeE vs ρ) (L2.wipe σ vs) G H
  | [], _ => I
  | v :: vs, h => by
    unfold noPm at h
    rw [Bool.and_eq_true] at h
    unfold wipeE L2.wipe
    refine (DInv.wipe I h.2).setE rfl (fun o e => ?_) fun _ => trivial
    have q := wipeE_pm e
    rw [q] at h
    exact absurd h.1 (by simp)
theorem get_wipe {j : Nat} : ∀ {vs : List Nat}, (L2.wipe σ vs)[j]? = if j ∈ vs ∧ j < σ.length then some none else σ[j]?
  | [] => by
    unfold L2.wipe
    simp
  | v :: vs => by
    unfold L2.wipe
    by_cases hv : v = j
    · subst hv
      by_cases hl : v < σ.length
      · rw [List.getElem?_set_self (by rw [L2.wipe_length]; exact hl)]
        simp [hl]
      · rw [List.getElem?_eq_none (by simp [L2.wipe_length]; omega), if_neg (by omega), List.getElem?_eq_none (by omega)]
    · rw [List.getElem?_set_ne hv, get_wipe (vs := vs)]
      have e : (j ∈ v :: vs) ↔ (j ∈ vs) := by simp [Ne.symm hv]
      simp only [e]
theorem wipe_eq {σ2 : Sl} {vs js : List Nat} (hl : σ2.length = σ.length) (hj : ∀ j ∈ js, j ∈ vs) (h : ∀ j, j ∉ js → σ2[j]? = (L2.wipe σ vs)[j]?) : L2.wipe σ2 vs = L2.wipe σ vs := by
  apply List.ext_getElem?
  intro j
  rw [get_wipe, get_wipe, hl]
  by_cases hv : j ∈ vs ∧ j < σ.length
  · rw [if_pos hv, if_pos hv]
  · rw [if_neg hv, if_neg hv]
    by_cases hk : j ∈ vs
    · have q : σ.length ≤ j := Nat.le_of_not_lt fun z => hv ⟨hk, z⟩
      rw [List.getElem?_eq_none (by omega), List.getElem?_eq_none q]
    · have q := h j fun z => hk (hj j z)
      rw [get_wipe, if_neg hv] at q
      exact q
/-! ### [e for t in .. if ..] -/
def lcF (h : D → Env → Option Env) (ft : Env → Res Bool) (fe : Env → Res D) (ρ0 : Env) : List D → Option (List D)
  | [] => some []
  | d :: ds => match h d ρ0 with
    | none => none
    | some ρ1 => match ft ρ1 with
      | .ok true => match fe ρ1 with
        | .ok y => (lcF h ft fe ρ0 ds).map (y :: ·)
        | _ => none
      | .ok false => lcF h ft fe ρ0 ds
      | _ => none
def dLc (src : Env → Res (List D)) (h : D → Env → Option Env) (ft : Env → Res Bool) (fe : Env → Res D) (vs : List Nat) : Env → Res Ob := fun ρ => (src ρ).bind fun ds =>
  if noPm ρ vs = true then (Res.of (lcF h ft fe (wipeE vs ρ) ds)).bind fun ys => .ok (.l ys) else .stuck
def dYes : Env → Res Bool := fun _ => .ok true
theorem eb_yes : EB K W tYes dYes := fun B ρ σ G H I Q hQ => hQ true G H I.gr rfl
theorem en_lc {wi : TI} {g : TG} {tt : TT} {te : TE} {vs js : List Nat} {src : Env → Res (List D)} {h : D → Env → Option Env} {ft : Env → Res Bool} {fe : Env → Res D} (hi : IJ K W wi src) (hg : GJ K js g h) (ht : EB K W0 tt ft) (he : ET K W0 te fe)
    (hjs : ∀ j ∈ js, j ∈ vs) : EN K W (tLc wi g tt te vs) (dLc src h ft fe vs) := fun B ρ σ G H I Q hQ => by
  refine hi B ρ σ G H I _ ?_
  unfold dLc at hQ
  cases e : src ρ with
  | exc c => rw [e] at hQ; exact hQ
  | stuck => rw [e] at hQ; exact hQ
  | ok ds =>
    rw [e] at hQ
    intro J n P Y G1 H1 g1 w hn hz hP hY Da hD
    subst hn
    by_cases hpm : noPm ρ vs = true
    · simp only [Res.bind, hpm, if_true] at hQ
      cases hall : lcF h ft fe (wipeE vs ρ) ds with
      | none => rw [hall] at hQ; exact hQ.elim
      | some all =>
        rw [hall] at hQ
        have g1D := L2.Same.free g1.gh hD
        refine lc_it w (fun i H2 => ∃ G2 acc ys rest, Gr G1 H1 G2 H2 ∧ H2 Da = some (.lst acc) ∧ G2 Da = none ∧ RepL K G2 ys acc ∧ ys.length ≤ i ∧ lcF h ft fe (wipeE vs ρ) (ds.drop i) = some rest ∧ all = ys ++ rest)
          ⟨G1, [], [], all, Gr.tmp g1.gh hD _, upd_same, g1D, RepL.nil, Nat.le_refl _, hall, rfl⟩ (fun i H2 _ ⟨G2, acc, ys, rest, g2, _⟩ => hP H2 (g2.gg.trans g2.gh)) ?_ ?_
        · rintro i x H2 H3 hi ⟨G2, acc, ys, rest, g2, hacc, hG2, hr, hlen, hrest, happ⟩ y
          obtain ⟨d, G3, hd, g3, r3⟩ := hY i x G2 H2 H3 hi g2.gg g2.gh y
          have I3 := ((I.grow g1).grow g2).grow g3
          have hdrop : ds.drop i = d :: ds.drop (i + 1) := by
            have hi' : i < ds.length := hi
            rw [List.drop_eq_getElem_cons hi']
            rw [List.getElem?_eq_getElem hi'] at hd
            cases hd
            rfl
          rw [hdrop] at hrest
          unfold lcF at hrest
          refine hg B (wipeE vs ρ) (L2.wipe σ vs) G3 H3 d x (I3.wipe hpm) r3 _ ?_
          cases e1 : h d (wipeE vs ρ) with
          | none => rw [e1] at hrest; cases hrest
          | some ρ1 =>
            simp only [e1] at hrest
            intro σ2 I4 n4
            refine ⟨wipe_eq (by rw [n4.1, L2.wipe_length]) hjs n4.2, ?_⟩
            · refine ht B ρ1 σ2 G3 H3 I4 _ ?_
              cases e2 : ft ρ1 with
              | exc c => rw [e2] at hrest; cases hrest
              | stuck => rw [e2] at hrest; cases hrest
              | ok b =>
                rw [e2] at hrest
                rintro b' G4 H4 g4 rfl
                cases b' with
                | false =>
                  simp only at hrest
                  show if false = true then _ else _
                  rw [if_neg Bool.false_ne_true]
                  have gg := (g3.trans g4)
                  exact ⟨G4, acc, ys, rest, g2.trans gg, gg.hh _ _ hacc, gg.nw Da hG2 (by rw [hacc]; simp), RepL.mono gg.gg _ _ hr, by omega, hrest, happ⟩
                | true =>
                  simp only at hrest
                  show if true = true then _ else _
                  rw [if_pos rfl]
                  refine he B ρ1 σ2 G4 H4 (I4.grow g4) _ ?_
                  cases e3 : fe ρ1 with
                  | exc c => rw [e3] at hrest; cases hrest
                  | stuck => rw [e3] at hrest; cases hrest
                  | ok yd =>
                    rw [e3] at hrest
                    simp only [Option.map_eq_some_iff] at hrest
                    obtain ⟨rest', hr', rfl⟩ := hrest
                    intro v G5 H5 g5 rv
                    have gg := (g3.trans g4).trans g5
                    have hn5 : G5 Da = none := gg.nw Da hG2 (by rw [hacc]; simp)
                    have hr5 := RepL.mono gg.gg _ _ hr
                    have g15 := g2.trans gg
                    refine ⟨acc, gg.hh _ _ hacc, by rw [← hr.len]; exact Nat.lt_of_lt_of_le (Nat.lt_of_le_of_lt hlen hi) hz, ?_⟩
                    refine ⟨G5, acc ++ [v], ys ++ [yd], rest', ⟨fun b u q => by rw [upd_ne (ne_of_none q hD)]; exact g15.hh b u q, g15.gg, fun b u q => by rw [upd_ne (ne_of_none q hn5)]; exact g15.gh b u q, g15.nw⟩, upd_same, hn5, hr5.append (RepL.one rv), by rw [List.length_append]; exact Nat.succ_le_succ hlen, hr', by rw [happ]; simp⟩
        · rintro H2 ⟨G2, acc, ys, rest, g2, hacc, hG2, hr, hlen, hrest, happ⟩
          rw [List.drop_length] at hrest
          cases hrest
          rw [List.append_nil] at happ
          subst happ
          exact hQ (.ref Da) G2 H2 (g1.trans g2) ⟨Da, rfl, g1.isNone hD, hG2, .lst acc, hacc, Nat.le_trans hlen hz, acc, rfl, hr⟩
    · simp only [Res.bind, hpm, if_false] at hQ
      exact hQ.elim
end
end PD

set_option Elab.async false
set_option linter.all false
set_option maxRecDepth 100000
/-! The data layer, 6: bodies of defs; syntax and data together. -/
namespace PD
open PySem PySem.Spec PyProof.Rows L2
section
variable {K : Frag} {W : Str → Hp → Prop} {cl : Str → Addr}
/-- the wish about exceptions, in the layer's form -/
def TW (cl : Str → Addr) (W : Str → Hp → Prop) : WX := fun cls d _ H => ∃ c, cls = .ref (cl c) ∧ d = none ∧ W c H
theorem tk0 {X : Cx} : Takes X (TW cl W0) := takes0.imp fun _ _ _ _ ⟨_, _, _, z⟩ => z.elim
theorem ps_tk {X : Cx} (tk : Takes X (TW cl W)) : Passes (L2.CX X.prog X.w) X (EE cl W) := passes_call tk fun _ _ _ _ h => h
/-! ### a body -/
def initE (ds : List D) (N : Nat) : Env := ds.map Ent.fr ++ List.replicate (N - ds.length) .un
def funT (n N : Nat) (F : Env → Out) (ds : List D) : Res D := if ds.length = n then match F (initE ds N) with
  | .rt d _ => .ok d
  | .rn o _ => .ok o.data
  | .nx _ => .ok .none
  | .exc c => .exc c
  | _ => .stuck
  else .stuck
def funN (n N : Nat) (F : Env → Out) (ds : List D) : Res Ob := if ds.length = n then match F (initE ds N) with
  | .rn o _ => .ok o
  | .exc c => .exc c
  | _ => .stuck
  else .stuck
theorem funT_len {n N : Nat} {F : Env → Out} (ds : List D) (h : funT n N F ds ≠ .stuck) : ds.length = n := by
  unfold funT at h
  by_cases e : ds.length = n
  · exact e
  · rw [if_neg e] at h; exact absurd rfl h
theorem funN_len {n N : Nat} {F : Env → Out} (ds : List D) (h : funN n N F ds ≠ .stuck) : ds.length = n := by
  unfold funN at h
  by_cases e : ds.length = n
  · exact e
  · rw [if_neg e] at h; exact absurd rfl h
theorem dinv_start {G H : Hp} {N : List Str} {ds : List D} {vs : List V} (s : Same G H) (r : RepL K G ds vs) : DInv K ⟨H, G, []⟩ (initE ds N.length) (L2.start N vs) G H where
  len := by unfold initE L2.start; simp [r.len]
  ent := fun i e h => by
    unfold initE at h
    by_cases hi : i < ds.length
    · rw [List.getElem?_append_left (by simpa using hi), List.getElem?_map] at h
      cases q : ds[i]? with
      | none => rw [q] at h; cases h
      | some d =>
        rw [q] at h
        cases h
        obtain ⟨v, h1, h2⟩ := r.at q
        refine ⟨v, ?_, h2⟩
        unfold L2.start
        rw [List.getElem?_append_left (by simpa [← r.len] using hi), List.getElem?_map, h1]
        rfl
    · rw [List.getElem?_append_right (by simpa using Nat.le_of_not_lt hi), List.getElem?_replicate] at h
      split at h
      · cases h; trivial
      · cases h
  dis := fun i j e e' p h _ ho => by
    unfold initE at h
    have : e.owned = false := by
      by_cases hi : i < ds.length
      · rw [List.getElem?_append_left (by simpa using hi), List.getElem?_map] at h
        cases q : ds[i]? with
        | none => rw [q] at h; cases h
        | some d => rw [q] at h; cases h; rfl
      · rw [List.getElem?_append_right (by simpa using Nat.le_of_not_lt hi), List.getElem?_replicate] at h
        split at h
        · cases h; rfl
        · cases h
    rw [this] at ho; cases ho
  pin := fun i o h => by
    unfold initE at h
    by_cases hi : i < ds.length
    · rw [List.getElem?_append_left (by simpa using hi), List.getElem?_map] at h
      cases q : ds[i]? with
      | none => rw [q] at h; cases h
      | some d => rw [q] at h; cases h
    · rw [List.getElem?_append_right (by simpa using Nat.le_of_not_lt hi), List.getElem?_replicate] at h
      split at h <;> cases h
  own := fun i o p h => by
    unfold initE at h
    by_cases hi : i < ds.length
    · rw [List.getElem?_append_left (by simpa using hi), List.getElem?_map] at h
      cases q : ds[i]? with
      | none => rw [q] at h; cases h
      | some d => rw [q] at h; cases h
    · rw [List.getElem?_append_right (by simpa using Nat.le_of_not_lt hi), List.getElem?_replicate] at h
      split at h <;> cases h
  kp := fun b o _ h => h
  gg := L2.Same.refl _
  gh := s
  nw := fun a h _ => h
  trk := fun b h => h
variable {P : Program} {w : World} {mg : Str → Option Value} {base : Heap} {x qual : Str} {st : Stmt} {f : Addr} {fd : FuncData} {N ps : List Str} {k n : Nat} {F : Env → Out}
/-- the context of a def's body -/
abbrev cxB (P : Program) (w : World) (K : Frag) (mg : Str → Option Value) (base : Heap) (N : List Str) (qual : Str) (sc : Scope) (f : Addr) (cdv : Value) (A : Around) (outer : List PySem.Env) (s : Shared) (H : Hp) (E : XK) : Cx := cxOf (L2.CX P w) P w K mg base N qual sc f cdv A outer s H E
abbrev wE (cl : Str → Addr) (E : XK) : Str → Hp → Prop := fun c H => E (.ref (cl c)) none H
theorem tk_body {sc : Scope} {cdv : Value} {A : Around} {outer : List PySem.Env} {s : Shared} {H : Hp} {E : XK} : Takes (cxB P w K mg base N qual sc f cdv A outer s H E) (TW cl (wE cl E)) :=
  (takes_of rfl rfl rfl rfl).imp fun _ _ _ _ ⟨_, h1, h2, h⟩ => by rw [h1, h2]; exact h
theorem po_body {sc : Scope} {cdv : Value} {A : Around} {outer : List PySem.Env} {s : Shared} {H : Hp} {E : XK} : PassesOwn (model P w) (cxB P w K mg base N qual sc f cdv A outer s H E).A (cxB P w K mg base N qual sc f cdv A outer s H E).env (cxB P w K mg base N qual sc f cdv A outer s H E).xe :=
  passes_of (X := cxB P w K mg base N qual sc f cdv A outer s H E) rfl
def Body (P : Program) (w : World) (K : Frag) (mg : Str → Option Value) (base : Heap) (cl : Str → Addr) (k : Nat) (N : List Str) (qual : Str) (st : Stmt) (f : Addr) (F : Env → Out) : Prop :=
  ∀ (cdv : Value) (A : Around) (outer : List PySem.Env) (s : Shared) (H : Hp) (E : XK), Room k (A.deeper (envOfC qual (defScope st) s.heap.objs.size f cdv)) →
    ∃ ts, PSs (cxB P w K mg base N qual (defScope st) f cdv A outer s H E) (defBody st) ts ∧ ST K (wE cl E) ts F
theorem fn_T (Fn : Fun K x qual st f fd) (S : FnScope N ps (defScope st)) (hn : ps.length = n) (h : Body P w K mg base cl k N qual st f F) : FnOk P w K mg base (L2.CX P w) (k + 1) f fd ps (spG K (rlV K) cl n (funT n N.length F)) := by
  refine Fn.okX S (fun vs H Q E hs => ?_) (fun cdv A outer s H vs Q E hr hs => ?_)
  · obtain ⟨G, ds, _, r, hl, _⟩ := hs
    rw [← r.len, hl, hn]
  · obtain ⟨G, ds, s1, r, hl, q⟩ := hs
    obtain ⟨ts, h1, h2⟩ := h cdv A outer s H E hr
    refine ⟨ts, h1, h2 ⟨H, G, []⟩ (initE ds N.length) (L2.start N vs) G H (dinv_start s1 r) _ ?_⟩
    unfold funT at q
    rw [if_pos hl] at q
    cases e : F (initE ds N.length) with
    | nx ρ => simp only [e] at q; exact fun σ' G' H' I s2 => q .non G' H' ⟨fun b o hb => I.kp b o (fun _ z => by cases z) hb, I.gg, I.gh, I.nw⟩ mk_none
    | bk ρ => simp only [e] at q
    | ct ρ => simp only [e] at q
    | rt d ρ => simp only [e] at q; exact fun v σ' G' H' I s2 rv => q v G' H' ⟨fun b o hb => I.kp b o (fun _ z => by cases z) hb, I.gg, I.gh, I.nw⟩ rv
    | rn o ρ =>
      simp only [e] at q
      intro p σ' G' H' I s2 ho h0
      obtain ⟨u, hu, hrep⟩ := own_frz ho
      refine q (.ref p) (upd G' p u) H' (Gr.frz I.gh hu ⟨fun b o hb => I.kp b o (fun _ z => by cases z) hb, I.gg, I.gh, I.nw⟩ h0) hrep
    | exc c => simp only [e] at q; exact fun H' kp => q H' fun b o hb => kp b o (fun _ z => by cases z) hb
    | stuck => simp only [e] at q
theorem fn_N (Fn : Fun K x qual st f fd) (S : FnScope N ps (defScope st)) (hn : ps.length = n) (h : Body P w K mg base cl k N qual st f F) : FnOk P w K mg base (L2.CX P w) (k + 1) f fd ps (spG K (rlN K) cl n (funN n N.length F)) := by
  refine Fn.okX S (fun vs H Q E hs => ?_) (fun cdv A outer s H vs Q E hr hs => ?_)
  · obtain ⟨G, ds, _, r, hl, _⟩ := hs
    rw [← r.len, hl, hn]
  · obtain ⟨G, ds, s1, r, hl, q⟩ := hs
    obtain ⟨ts, h1, h2⟩ := h cdv A outer s H E hr
    refine ⟨ts, h1, h2 ⟨H, G, []⟩ (initE ds N.length) (L2.start N vs) G H (dinv_start s1 r) _ ?_⟩
    unfold funN at q
    rw [if_pos hl] at q
    cases e : F (initE ds N.length) with
    | nx ρ => simp only [e] at q
    | bk ρ => simp only [e] at q
    | ct ρ => simp only [e] at q
    | rt d ρ => simp only [e] at q
    | rn o ρ =>
      simp only [e] at q
      exact fun p σ' G' H' I s2 ho h0 => q (.ref p) G' H' ⟨fun b o hb => I.kp b o (fun _ z => by cases z) hb, I.gg, I.gh, I.nw⟩ ⟨p, rfl, h0, ho⟩
    | exc c => simp only [e] at q; exact fun H' kp => q H' fun b o hb => kp b o (fun _ z => by cases z) hb
    | stuck => simp only [e] at q
end

/-! ### syntax and data together -/
section
structure X1 {α : Type} (rel : Rl α V) (X : Cx) (W : Str → Hp → Prop) (e : Expr) (te : TE) (f : Env → Res α) : Prop where
  pe : PE X e te
  j : J X.K W rel te f
abbrev XV (X : Cx) (W : Str → Hp → Prop) (e : Expr) (te : TE) (f : Env → Res D) : Prop := X1 (rlV X.K) X W e te f
abbrev XR (X : Cx) (W : Str → Hp → Prop) (e : Expr) (te : TE) (f : Env → Res D) : Prop := X1 (rlR X.K) X W e te f
abbrev XN (X : Cx) (W : Str → Hp → Prop) (e : Expr) (te : TE) (f : Env → Res Ob) : Prop := X1 (rlN X.K) X W e te f
structure XT (X : Cx) (W : Str → Hp → Prop) (e : Expr) (tt : TT) (f : Env → Res Bool) : Prop where
  pe : PT X e tt
  j : EB X.K W tt f
structure XW (X : Cx) (W : Str → Hp → Prop) (e : Expr) (tt : TT) (f : Env → Res Bool) : Prop where
  pe : PW X e tt
  j : EB X.K W tt f
structure XA (X : Cx) (W : Str → Hp → Prop) (es : List Expr) (ta : TA) (f : Env → Res (List D)) : Prop where
  pe : PA X es ta
  j : EA X.K W ta f
structure XAR (X : Cx) (W : Str → Hp → Prop) (es : List Expr) (ta : TA) (f : Env → Res (List D)) : Prop where
  pe : PA X es ta
  j : EAR X.K W ta f
structure XS (X : Cx) (W : Str → Hp → Prop) (s : Stmt) (ts : TS) (F : Env → Out) : Prop where
  ps : PS X s ts
  j : ST X.K W ts F
structure XSs (X : Cx) (W : Str → Hp → Prop) (s : List Stmt) (ts : TS) (F : Env → Out) : Prop where
  ps : PSs X s ts
  j : ST X.K W ts F
structure XG (X : Cx) (js : List Nat) (e : Expr) (g : TG) (h : D → Env → Option Env) : Prop where
  pg : PG X e g
  j : GJ X.K js g h
structure XGs (X : Cx) (js : List Nat) (e : List Expr) (g : TGs) (h : List D → Env → Option Env) : Prop where
  pg : PGs X e g
  j : GsJ X.K js g h
structure XI (X : Cx) (W : Str → Hp → Prop) (tg e : Expr) (wi : TI) (f : Env → Res (List D)) : Prop where
  pi : PI X tg e wi
  j : IJ X.K W wi f
structure XO (X : Cx) (W : Str → Hp → Prop) (e : Option Expr) (t : TO) (f : Env → Res (Option Int)) : Prop where
  po : PO X e t
  j : J X.K W rlO t f
variable {X : Cx} {W : Str → Hp → Prop} {e a b c : Expr} {es : List Expr} {te ta tb tc : TE} {tt tu : TT} {tA : TA} {f fa fb fc : Env → Res D} {ft fu : Env → Res Bool} {fs : Env → Res (List D)} {pos p2 : Pos}
theorem XV.r (h : XV X W e te f) : XR X W e te f := ⟨h.pe, ET.r h.j⟩
theorem XN.v {fo : Env → Res Ob} (h : XN X W e te fo) : XV X W e te (dOb fo) := ⟨h.pe, EN.t h.j⟩
theorem XN.r {fo : Env → Res Ob} (h : XN X W e te fo) : XR X W e te (dOb fo) := ⟨h.pe, ET.r (EN.t h.j)⟩
theorem xV (i : Nat) {x : Str} (hN : X.N[i]? = some x := by rfl) (hv : Vis X.env.scope x := by first | exact Or.inl rfl | exact Or.inr (Or.inl rfl) | exact Or.inr (Or.inr rfl)) (hd : (x == ("__debug__" : Str)) = false := by decide)
    (hcd : (x == ("__classdict__" : Str)) = false := by decide) : XV X W (.Name x pos) (tVar i) (dV i) := ⟨pe_var hN hv hd hcd, et_v⟩
theorem xR (i : Nat) {x : Str} (hN : X.N[i]? = some x := by rfl) (hv : Vis X.env.scope x := by first | exact Or.inl rfl | exact Or.inr (Or.inl rfl) | exact Or.inr (Or.inr rfl)) (hd : (x == ("__debug__" : Str)) = false := by decide)
    (hcd : (x == ("__classdict__" : Str)) = false := by decide) : XR X W (.Name x pos) (tVar i) (dVr i) := ⟨pe_var hN hv hd hcd, er_v⟩
theorem xInt {i : Int} {j : Nat} : XV X W (.Constant (.int i) j pos) (tC (.int i)) (dC (.int i)) := ⟨pe_int, et_int⟩
theorem xStr {i : Str} {j : Nat} : XV X W (.Constant (.str i) j pos) (tC (.str i)) (dC (.str i)) := ⟨pe_str, et_str⟩
theorem xBl {i : Bool} {j : Nat} : XV X W (.Constant (.bool i) j pos) (tC (.bl i)) (dC (.bool i)) := ⟨pe_bl, et_bl⟩
theorem xNon {j : Nat} : XV X W (.Constant .none j pos) (tC .non) (dC .none) := ⟨pe_non, et_non⟩
/-- a constant of the module -/
theorem xGlob {x : Str} {d : D} {v : V} {u : Value} (hg : Gl X x) (hm : X.mg x = some u) (r : RelV v u) (hr : ∀ G, Rep X.K G d v) (hd : (x == ("__debug__" : Str)) = false := by decide) : XV X W (.Name x pos) (tC v) (dC d) := ⟨pe_glob hg hm r hd, et_c hr⟩
theorem xOp {α : Type} {rel : Rl α V} {op : Operator} {r : R2} {g : D → D → Option α} (ho : OpR X (binaryOp op) r) (an : Anti rel) (hr : DR2 X.K rel r g) (ha : XR X W a ta fa) (hb : XR X W b tb fb) : X1 rel X W (.BinOp a op b pos) (tOp r ta tb) (dOp g fa fb) := ⟨pe_op ho ha.pe hb.pe, j_op an ha.j hb.j hr⟩
theorem xCmp {op : CmpOp} {r : R2} {g : D → D → Option D} (ho : OpR X (compareOp op) r) (hr : DR2 X.K (rlV X.K) r g) (ha : XR X W a ta fa) (hb : XR X W b tb fb) (hm : behindInMarks op b = false) : XV X W (.Compare a [op] [b] pos) (tOp r ta tb) (dOp g fa fb) := ⟨pe_cmpR ho ha.pe hb.pe hm, j_op anti_V ha.j hb.j hr⟩
theorem tCmp {op : CmpOp} {r : R2} {g : D → D → Option D} (ho : OpR X (compareOp op) r) (hr : DR2 X.K (rlV X.K) r g) (ha : XR X W a ta fa) (hb : XR X W b tb fb) (hm : behindInMarks op b = false) : XT X W (.Compare a [op] [b] pos) (tTest (tOp r ta tb)) (dTest (dOp g fa fb)) := ⟨pt_cmpR ho ha.pe hb.pe hm, eb_test (ET.r (j_op anti_V ha.j hb.j hr))⟩
theorem xChain {op op' : CmpOp} {r r' : R2} {g g' : D → D → Option D} (ho : OpR X (compareOp op) r) (ho' : OpR X (compareOp op') r') (hr : DR2 X.K (rlV X.K) r g) (hr' : DR2 X.K (rlV X.K) r' g') (ha : XR X W a ta fa) (hb : XR X W b tb fb) (hc : XR X W c tc fc)
    (hm : lastMarks [op, op'] [b, c] = false := by with_unfolding_all rfl) : XV X W (.Compare a [op, op'] [b, c] pos) (tChain r r' ta tb tc) (dChain g g' fa fb fc) := ⟨pe_chain ho ho' ha.pe hb.pe hc.pe hm, et_chain hr hr' ha.j hb.j hc.j⟩
theorem tChain' {op op' : CmpOp} {r r' : R2} {g g' : D → D → Option D} (ho : OpR X (compareOp op) r) (ho' : OpR X (compareOp op') r') (hr : DR2 X.K (rlV X.K) r g) (hr' : DR2 X.K (rlV X.K) r' g') (ha : XR X W a ta fa) (hb : XR X W b tb fb) (hc : XR X W c tc fc)
    (hm : lastMarks [op, op'] [b, c] = false := by with_unfolding_all rfl) : XT X W (.Compare a [op, op'] [b, c] pos) (tTest (tChain r r' ta tb tc)) (dTest (dChain g g' fa fb fc)) := ⟨pt_chain ho ho' ha.pe hb.pe hc.pe hm, eb_test (ET.r (et_chain hr hr' ha.j hb.j hc.j))⟩
theorem tVal (h : XR X W e te f) (he : ∀ whole, isTrue e X.env whole = (do let v ← whole; standAt e.pos; holding [v] (truthy v)) := by intro _; rfl) : XT X W e (tB te) (dTest f) := ⟨pt_val h.pe he, eb_B h.j⟩
theorem XW.t (h : XW X W e tt ft) : XT X W e tt ft := ⟨h.pe.pt, h.j⟩
theorem wAnd1 (h : XT X W e tt ft) : XW X W (.BoolOp .And [e] pos) tt ft := ⟨pw_and1 h.pe, h.j⟩
theorem wOr1 (h : XT X W e tt ft) : XW X W (.BoolOp .Or [e] pos) tt ft := ⟨pw_or1 h.pe, h.j⟩
theorem wAnd (h : XT X W e tt ft) (t : XW X W (.BoolOp .And (b :: es) pos) tu fu) : XW X W (.BoolOp .And (e :: b :: es) pos) (tAnd tt tu) (dAnd ft fu) := ⟨pw_and h.pe t.pe, eb_and h.j t.j⟩
theorem wOr (h : XT X W e tt ft) (t : XW X W (.BoolOp .Or (b :: es) pos) tu fu) : XW X W (.BoolOp .Or (e :: b :: es) pos) (tOr tt tu) (dOr ft fu) := ⟨pw_or h.pe t.pe, eb_or h.j t.j⟩
theorem tNot' (h : XT X W e tt ft) : XT X W (.UnaryOp .Not e pos) (tNot tt) (dNot ft) := ⟨pt_not h.pe, eb_not h.j⟩
theorem xAnd1 (h : XV X W e te f) : XV X W (.BoolOp .And [e] pos) te f := ⟨pe_one h.pe, h.j⟩
theorem xOr1 (h : XV X W e te f) : XV X W (.BoolOp .Or [e] pos) te f := ⟨pe_one h.pe, h.j⟩
theorem xAnd (h : XR X W a ta fa) (t : XV X W (.BoolOp .And (b :: es) pos) tb fb) : XV X W (.BoolOp .And (a :: b :: es) pos) (tAndV ta tb) (dAndV fa fb) := ⟨pe_and h.pe t.pe, et_andV h.j t.j⟩
theorem xOr (h : XR X W a ta fa) (t : XV X W (.BoolOp .Or (b :: es) pos) tb fb) : XV X W (.BoolOp .Or (a :: b :: es) pos) (tOrV ta tb) (dOrV fa fb) := ⟨pe_or h.pe t.pe, et_orV h.j t.j⟩
theorem xNot (h : XR X W a ta fa) : XV X W (.UnaryOp .Not a pos) (tNotV ta) (dNotV fa) := ⟨pe_not h.pe, et_notV h.j⟩
theorem xIf {α : Type} {rel : Rl α V} {g g' : Env → Res α} (an : Anti rel) (hc : XT X W c tt ft) (ha : X1 rel X W a ta g) (hb : X1 rel X W b tb g') : X1 rel X W (.IfExp c a b pos) (tIf tt ta tb) (dIf ft g g') := ⟨pe_ifExp hc.pe ha.pe hb.pe, j_if an hc.j ha.j hb.j⟩
theorem aNil : XA X W [] tNil dNil := ⟨pa_nil, ea_nil⟩
theorem aCons (h : XV X W e te f) (t : XA X W es tA fs) (hs : starEach (e :: es) X.env = (false, eval e X.env) :: starEach es X.env := by rfl) : XA X W (e :: es) (tCons te tA) (dCons f fs) := ⟨pa_cons h.pe t.pe hs, ea_cons h.j t.j⟩
theorem rNil : XAR X W [] tNil dNil := ⟨pa_nil, ear_nil⟩
theorem rCons (h : XR X W e te f) (t : XAR X W es tA fs) (hs : starEach (e :: es) X.env = (false, eval e X.env) :: starEach es X.env := by rfl) : XAR X W (e :: es) (tCons te tA) (dCons f fs) := ⟨pa_cons h.pe t.pe hs, ear_cons h.j t.j⟩
theorem xTup {x1} (h : XA X W es tA fs) : XV X W (.Tuple es x1 pos) (tTup tA) (dTup fs) := ⟨pe_tup h.pe, et_tup h.j⟩
theorem xLst (h : XA X W es tA fs) : XN X W (.List es pos) (tLst tA) (dLst fs) := ⟨pe_lst h.pe, en_lst h.j⟩
theorem xIx {r : R2} {g : D → D → Option D} (ho : IxR X r) (hr : DR2 X.K (rlV X.K) r g) (ha : XR X W a ta fa) (hb : XR X W b tb fb) (hs : PlainIx b) : XV X W (.Subscript a b pos) (tOp r ta tb) (dOp g fa fb) := ⟨pe_ix ho ha.pe hb.pe hs, j_op anti_V ha.j hb.j hr⟩
theorem oNo : XO X W none tNoPart dNo := ⟨po_none, eo_no⟩
theorem oSo (h : XR X W e te f) : XO X W (some e) (tPart te) (dPart f) := ⟨po_some h.pe, eo_part h.j⟩
theorem xSl {α : Type} {rel : Rl α V} {r : V → Option Int → Option Int → Hp → VK → Prop} {g : D → Option Int → Option Int → Option α} {lo hi : Option Expr} {tl th : TO} {fl fh : Env → Res (Option Int)} (hr : SlR X r) (an : Anti rel) (hd : DRS X.K rel r g) (h : XR X W e te f) (hl : XO X W lo tl fl) (hh : XO X W hi th fh) :
    X1 rel X W (.Subscript e (.Slice lo hi none p2) pos) (tSl r te tl th) (dSl g f fl fh) := ⟨pe_slice hr h.pe hl.po hh.po, j_sl an hd h.j hl.j hh.j⟩
theorem xCB {α : Type} {rel : Rl α V} {id : String} {x : Str} {p : Pos} {r : List V → Hp → VK → Prop} {g : List D → Option α} (hc : CallR X (.builtin id) r) (an : Anti rel) (hd : DRC X.K rel r g) (hm : X.mg x = none) (hv : bootBuiltins x = some (.builtin id)) (ha : XAR X W (e :: es) tA fs) (hg : Gl X x := by rfl) (hn : x ≠ "__name__" := by decide) (hdb : (x == ("__debug__" : Str)) = false := by decide)
    (he : starEach (e :: es) X.env = (false, eval e X.env) :: starEach es X.env := by rfl) (hpl : (backTo pos (starEach es X.env)).any (·.1) = false := by rfl) : X1 rel X W (.Call (.Name x p) (e :: es) [] pos) (tCB r tA) (dCB g fs) := ⟨pe_callB hc hg hm hv ha.pe hn hdb he hpl, j_cb an ha.j hd⟩
theorem xCT {α : Type} {rel : Rl α V} {T : String} {x : Str} {p : Pos} {r : List V → Hp → VK → Prop} {g : List D → Option α} (hc : CallR X (.type T) r) (an : Anti rel) (hd : DRC X.K rel r g) (hm : X.mg x = none) (hv : bootBuiltins x = some (.type T)) (ha : XAR X W (e :: es) tA fs) (hg : Gl X x := by rfl) (hn : x ≠ "__name__" := by decide) (hdb : (x == ("__debug__" : Str)) = false := by decide)
    (he : starEach (e :: es) X.env = (false, eval e X.env) :: starEach es X.env := by rfl) (hpl : (backTo pos (starEach es X.env)).any (·.1) = false := by rfl) : X1 rel X W (.Call (.Name x p) (e :: es) [] pos) (tCB r tA) (dCB g fs) := ⟨pe_callTy hc hg hm hv ha.pe hn hdb he hpl, j_cb an ha.j hd⟩
/-- a call of a def of the program -/
theorem xCall {α : Type} {rel : Rl α V} {cl : Str → Addr} {k n : Nat} {fA : Addr} {fd : FuncData} {ps : List Str} {g : List D → Res α} {x : Str} {p : Pos} (an : Anti rel) (F : FnOk X.prog X.w X.K X.mg X.base (L2.CX X.prog X.w) k fA fd ps (spG X.K rel cl n g)) (hl : ∀ ds, g ds ≠ .stuck → ds.length = n) (hr : Room k X.A) (tk : Takes X (TW cl W)) (hg : Gl X x) (hm : X.mg x = some (.ref fA)) (hk : PySem.W.keepIn X.K (.ref fA) = true) (hb : Binds X.K fd ps [])
    (ha : XA X W (e :: es) tA fs) (hdb : (x == ("__debug__" : Str)) = false := by decide) (he : starEach (e :: es) X.env = (false, eval e X.env) :: starEach es X.env := by rfl) (hpl : (backTo pos (starEach es X.env)).any (·.1) = false := by rfl) :
    X1 rel X W (.Call (.Name x p) (e :: es) [] pos) (tCall (spG X.K rel cl n g) [] (EE cl W) tA) (dCall g fs) := ⟨pe_call F hr hg hm hk hb .nil (ps_tk tk) ha.pe hdb he hpl, j_call an ha.j hl⟩
/-! comprehensions -/
theorem xLc {elt tg iter : Expr} {ifs : List Expr} {scope : Scope} {own : List (Str × Nat)} {wi : TI} {g : TG} {js : List Nat} {h : D → Env → Option Env} {src : Env → Res (List D)} (hc : X.calm = true) (hN : X.N.Nodup) (hi : XI X W tg iter wi src) (ok : BlkOk X.N X.env.scope scope own)
    (hg : ∀ (s : Shared) (H : Hp) (C : Addr) (cl : List (Str × Addr)) (fp : List Addr), XG (X.blk s H scope (compEnvC scope cl C X.env) fp) js tg g h)
    (ht : ∀ (s : Shared) (H : Hp) (C : Addr) (cl : List (Str × Addr)) (fp : List Addr), PTs (X.blk s H scope (compEnvC scope cl C X.env) fp) ifs tt ∧ EB X.K W0 tt ft)
    (he : ∀ (s : Shared) (H : Hp) (C : Addr) (cl : List (Str × Addr)) (fp : List Addr), XV (X.blk s H scope (compEnvC scope cl C X.env) fp) W0 elt te f) (hjs : ∀ j ∈ js, j ∈ own.map (·.2)) (hs : ∀ x, foldedSetIterable iter X.env x = pure x := by intro _; rfl) :
    XN X W (.ListComp elt [⟨tg, iter, ifs, 0⟩] scope pos) (tLc wi g tt te (own.map (·.2))) (dLc src h ft f (own.map (·.2))) :=
  ⟨pe_lc hc hN hi.pi ok (fun s H C cl fp => (hg s H C cl fp).pg) (fun s H C cl fp => (ht s H C cl fp).1) (fun s H C cl fp => (he s H C cl fp).pe) hs,
   en_lc hi.j (hg X.s_0 X.H_0 0 [] []).j (ht X.s_0 X.H_0 0 [] []).2 (he X.s_0 X.H_0 0 [] []).j hjs⟩
theorem cYes : PTs X [] tYes ∧ EB X.K W0 tYes dYes := ⟨pts_nil, eb_yes⟩
theorem cIf (h : XT X W0 c tt ft) : PTs X [c] tt ∧ EB X.K W0 tt ft := ⟨pts_one h.pe, h.j⟩
end
end PD

set_option Elab.async false
set_option linter.all false
set_option maxRecDepth 100000
/-! The data layer, 7: statements with their syntax; operations on data. -/
namespace PD
open PySem PySem.Spec PyProof.Rows L2
section
variable {X : Cx} {W : Str → Hp → Prop} {e a b c : Expr} {es : List Expr} {s : Stmt} {ss s2 : List Stmt} {te ta tb tc : TE} {tt tu : TT} {tA : TA} {ts us : TS} {f fa fb fc : Env → Res D} {fo : Env → Res Ob} {ft fu : Env → Res Bool} {fs : Env → Res (List D)} {F F2 : Env → Out} {pos p2 p3 : Pos}
theorem sNil : XSs X W [] tNext dNext := ⟨pss_nil, st_next⟩
theorem sOne (h : XS X W s ts F) : XSs X W [s] ts F := ⟨pss_one h.ps, h.j⟩
theorem sCons (h : XS X W s ts F) (t : XSs X W ss us F2) : XSs X W (s :: ss) (tSeq ts us) (dSeq F F2) := ⟨pss_cons h.ps t.ps, st_seq h.j t.j⟩
theorem gName' (i : Nat) {x : Str} (hN : X.N.Nodup) (hi : X.N[i]? = some x := by rfl) (hx : Loc X.env.scope x := by first | exact Or.inl rfl | exact Or.inr rfl) (hf : X.fn x = true ∨ X.env.scope.names.lookup x = some .local := by first | exact .inl rfl | exact .inr rfl) : XG X [i] (.Name x pos) (gName i) (hSet i) := ⟨pg_name hN hi hx hf, gj_name i⟩
theorem gsNil : XGs X [] [] gNil hNil := ⟨pgs_nil, gjs_nil⟩
theorem gsCons {js js' : List Nat} {g : TG} {t : TGs} {h : D → Env → Option Env} {ht : List D → Env → Option Env} (a : XG X js e g h) (b : XGs X js' es t ht) (hs : (assignEach (e :: es) X.env).map (·.2) = assign e X.env :: (assignEach es X.env).map (·.2) := by rfl) : XGs X (js ++ js') (e :: es) (gCons g t) (hCons h ht) := ⟨pgs_cons a.pg b.pg hs, gjs_cons a.j b.j⟩
theorem gTup' {js : List Nat} {k n : Nat} {t : TGs} {ht : List D → Env → Option Env} (hc : X.calm = true) (h : XGs X js es t ht) (hn : (assignEach es X.env).length = n := by rfl) (hst : (assignEach es X.env).findIdx? (·.1) = none := by rfl) : XG X js (.Tuple es k pos) (gTup X.K n t) (hTup n ht) := ⟨pg_tup hc h.pg hn hst, gj_tup h.j⟩
theorem sSet {js : List Nat} {g : TG} {h : D → Env → Option Env} {tg : Expr} (he : XV X W e te f) (hg : XG X js tg g h) (hs : swapsWithSole [tg] e pos.line X.env = pure false := by rfl) (hw : swappedStores [tg] e X.env = pure none := by rfl)
    (h1 : (assignEach [tg] X.env).map (·.2) = [assign tg X.env] := by rfl) : XS X W (.Assign [tg] e pos) (tAsg te g) (dAsg f h) := ⟨ps_asg he.pe hg.pg hs hw h1, st_asg he.j hg.j⟩
theorem sNew (i : Nat) {x : Str} (he : XN X W e te fo) (hN : X.N.Nodup) (hi : X.N[i]? = some x := by rfl) (hx : Loc X.env.scope x := by first | exact Or.inl rfl | exact Or.inr rfl) (hs : swapsWith e (some (.Name x p2)) pos.line X.env = pure false := by rfl) (hf : X.fn x = true ∨ X.env.scope.names.lookup x = some .local := by first | exact .inl rfl | exact .inr rfl) :
    XS X W (.Assign [.Name x p2] e pos) (tAsg te (gName i)) (dNew i fo) := ⟨ps_set hN hi hx he.pe hs hf, st_new he.j⟩
theorem sExpr (h : XV X W e te f) (hs : swapsWith e none pos.line X.env = pure false := by rfl) : XS X W (.Expr e pos) (tDrop te) (dDrop f) := ⟨ps_expr h.pe hs, st_drop h.j⟩
theorem sRet (h : XV X W e te f) : XS X W (.Return (some e) pos) (tRet te) (dRet f) := ⟨ps_ret h.pe, st_ret h.j⟩
theorem sRetN (h : XN X W e te fo) : XS X W (.Return (some e) pos) (tRet te) (dRetN fo) := ⟨ps_ret h.pe, st_retN h.j⟩
theorem sRetV (i : Nat) {x : Str} (hN : X.N[i]? = some x := by rfl) (hv : Vis X.env.scope x := by first | exact Or.inl rfl | exact Or.inr (Or.inl rfl) | exact Or.inr (Or.inr rfl)) (hd : (x == ("__debug__" : Str)) = false := by decide)
    (hcd : (x == ("__classdict__" : Str)) = false := by decide) : XS X W (.Return (some (.Name x p2)) pos) (tRet (tVar i)) (dRetV i) := ⟨ps_ret (pe_var hN hv hd hcd), st_retV⟩
theorem sRet0 : XS X W (.Return none pos) tRetN dRet0 := ⟨ps_retN, st_ret0⟩
theorem sIf (h : XT X W c tt ft) (a : XSs X W ss ts F) (b : XSs X W s2 us F2) : XS X W (.If c ss s2 pos) (tIfS tt ts us) (dIfS ft F F2) := ⟨ps_if h.pe a.ps b.ps, st_if h.j a.j b.j⟩
theorem sBk : XS X W (.Break pos) tBreak dBk := ⟨ps_break, st_bk⟩
theorem sCt : XS X W (.Continue pos) tCont dCt := ⟨ps_continue, st_ct⟩
theorem sPass : XS X W (.Pass pos) tNext dNext := ⟨ps_pass, st_next⟩
theorem sDoc {x : Str} {j : Nat} : XS X W (.Expr (.Constant (.str x) j p2) pos) tNext dNext := ⟨ps_doc, st_next⟩
theorem sWhile (hp : PassesOwn (model X.prog X.w) X.A X.env X.xe) (h : XT X W c tt ft) (a : XSs X W ss ts F) : XS X W (.While c ss [] pos) (tWhile tt ts) (dWhile ft F) := ⟨ps_while hp h.pe a.ps, st_while h.j a.j⟩
theorem sFor {wi : TI} {g : TG} {js : List Nat} {h : D → Env → Option Env} {src : Env → Res (List D)} {tg iter : Expr} (hp : PassesOwn (model X.prog X.w) X.A X.env X.xe) (hc : X.calm = true) (hi : XI X W tg iter wi src) (hg : XG X js tg g h) (hb : XSs X W ss ts F)
    (hs : ∀ x, foldedSetIterable iter X.env x = pure x := by intro _; rfl) : XS X W (.For tg iter ss [] pos) (tFor wi g ts) (dFor src h F) := ⟨ps_for hp hc hi.pi hg.pg hb.ps hs, st_for hi.j hg.j hb.j⟩
/-! ghosts -/
theorem sFrz (i : Nat) (h : XS X W s ts F) : XS X W s ts (dFrz i F) := ⟨h.ps, st_frz h.j⟩
theorem sForget (js : List Nat) (h : XS X W s ts F) : XS X W s ts (dForget js F) := ⟨h.ps, st_forget h.j⟩
theorem sAhead (js : List Nat) (h : XS X W s ts F) : XS X W s ts (dAhead js F) := ⟨h.ps, st_ahead h.j⟩
/-! methods that change -/
theorem sApp (i : Nat) {x : Str} {apos cpos : Pos} (he : XV X W e te f) (hN : X.N[i]? = some x := by rfl) (hv : Vis X.env.scope x := by first | exact Or.inl rfl | exact Or.inr (Or.inl rfl) | exact Or.inr (Or.inr rfl)) (hd : (x == ("__debug__" : Str)) = false := by decide)
    (hcd : (x == ("__classdict__" : Str)) = false := by decide) (hbase : attributeBase (.Name x p2) "append" X.env (eval (.Name x p2) X.env) = eval (.Name x p2) X.env := by rfl)
    (hfew : ((backTo cpos (starEach (e :: []) X.env)).all (fun x => !x.1) && (backToKw cpos (keywordEach [] X.env)).all (fun x => x.1.isSome)
      && decide ((e :: []).length + ([] : List Keyword).length + (if ([] : List Keyword).isEmpty then 0 else 1) < 30)) = true := by rfl)
    (hline : (apos.endLine == cpos.line) = true := by rfl) (hs : starEach (e :: []) X.env = (false, eval e X.env) :: starEach [] X.env := by rfl) (hplain : (backTo cpos (starEach [] X.env)).any (·.1) = false := by rfl)
    (hsw : swapsWith (.Call (.Attribute (.Name x p2) "append" apos) [e] [] cpos) none pos.line X.env = pure false := by rfl) :
    XS X W (.Expr (.Call (.Attribute (.Name x p2) "append" apos) [e] [] cpos) pos) (tDrop (tBM X.K "list" rAppend (tVar i) (tCons te tNil))) (dApp i f) :=
  ⟨ps_expr (pe_bm PySem.F.plainAttrs_list PySem.F.slot_list_append PySem.F.type_list_append mt_append (pe_var hN hv hd hcd) (pa_cons he.pe pa_nil hs) hbase hfew hline hs hplain) hsw, st_app he.j⟩
theorem sExt (i : Nat) {x : Str} {apos cpos : Pos} (he : XR X W e te f) (hN : X.N[i]? = some x := by rfl) (hv : Vis X.env.scope x := by first | exact Or.inl rfl | exact Or.inr (Or.inl rfl) | exact Or.inr (Or.inr rfl)) (hd : (x == ("__debug__" : Str)) = false := by decide)
    (hcd : (x == ("__classdict__" : Str)) = false := by decide) (hbase : attributeBase (.Name x p2) "extend" X.env (eval (.Name x p2) X.env) = eval (.Name x p2) X.env := by rfl)
    (hfew : ((backTo cpos (starEach (e :: []) X.env)).all (fun x => !x.1) && (backToKw cpos (keywordEach [] X.env)).all (fun x => x.1.isSome)
      && decide ((e :: []).length + ([] : List Keyword).length + (if ([] : List Keyword).isEmpty then 0 else 1) < 30)) = true := by rfl)
    (hline : (apos.endLine == cpos.line) = true := by rfl) (hs : starEach (e :: []) X.env = (false, eval e X.env) :: starEach [] X.env := by rfl) (hplain : (backTo cpos (starEach [] X.env)).any (·.1) = false := by rfl)
    (hsw : swapsWith (.Call (.Attribute (.Name x p2) "extend" apos) [e] [] cpos) none pos.line X.env = pure false := by rfl) :
    XS X W (.Expr (.Call (.Attribute (.Name x p2) "extend" apos) [e] [] cpos) pos) (tDrop (tBM X.K "list" (rExtG X.K) (tVar i) (tCons te tNil))) (dExt i f) :=
  ⟨ps_expr (pe_bm PySem.F.plainAttrs_list PySem.F.slot_list_extend PySem.F.type_list_extend mt_extG (pe_var hN hv hd hcd) (pa_cons he.pe pa_nil hs) hbase hfew hline hs hplain) hsw, st_ext he.j⟩
theorem sPop (i : Nat) {x : Str} {apos cpos : Pos} {js : List Nat} {g : TG} {h : D → Env → Option Env} {tg : Expr} (hg : XG X js tg g h) (hN : X.N[i]? = some x := by rfl) (hv : Vis X.env.scope x := by first | exact Or.inl rfl | exact Or.inr (Or.inl rfl) | exact Or.inr (Or.inr rfl)) (hd : (x == ("__debug__" : Str)) = false := by decide)
    (hcd : (x == ("__classdict__" : Str)) = false := by decide) (hbase : attributeBase (.Name x p2) "pop" X.env (eval (.Name x p2) X.env) = eval (.Name x p2) X.env := by rfl) (hline : (apos.endLine == cpos.line) = true := by rfl)
    (hs : swapsWithSole [tg] (.Call (.Attribute (.Name x p2) "pop" apos) [] [] cpos) pos.line X.env = pure false := by rfl) (hw : swappedStores [tg] (.Call (.Attribute (.Name x p2) "pop" apos) [] [] cpos) X.env = pure none := by rfl)
    (h1 : (assignEach [tg] X.env).map (·.2) = [assign tg X.env] := by rfl) :
    XS X W (.Assign [tg] (.Call (.Attribute (.Name x p2) "pop" apos) [] [] cpos) pos) (tAsg (tBM0 X.K "list" rPop (tVar i)) g) (dPop i h) :=
  ⟨ps_asg (pe_bm0 PySem.F.plainAttrs_list PySem.F.slot_list_pop PySem.F.type_list_pop mt_pop (pe_var hN hv hd hcd) hbase hline) hg.pg hs hw h1, st_pop hg.j⟩
theorem sPopD (i : Nat) {x : Str} {apos cpos : Pos} (hN : X.N[i]? = some x := by rfl) (hv : Vis X.env.scope x := by first | exact Or.inl rfl | exact Or.inr (Or.inl rfl) | exact Or.inr (Or.inr rfl)) (hd : (x == ("__debug__" : Str)) = false := by decide)
    (hcd : (x == ("__classdict__" : Str)) = false := by decide) (hbase : attributeBase (.Name x p2) "pop" X.env (eval (.Name x p2) X.env) = eval (.Name x p2) X.env := by rfl) (hline : (apos.endLine == cpos.line) = true := by rfl)
    (hsw : swapsWith (.Call (.Attribute (.Name x p2) "pop" apos) [] [] cpos) none pos.line X.env = pure false := by rfl) :
    XS X W (.Expr (.Call (.Attribute (.Name x p2) "pop" apos) [] [] cpos) pos) (tDrop (tBM0 X.K "list" rPop (tVar i))) (dPopD i) :=
  ⟨ps_expr (pe_bm0 PySem.F.plainAttrs_list PySem.F.slot_list_pop PySem.F.type_list_pop mt_pop (pe_var hN hv hd hcd) hbase hline) hsw, st_popD⟩
theorem sAppPop (i k : Nat) {x y : Str} {apos cpos apos2 cpos2 : Pos} (he : XR X W e te f) (hN : X.N[i]? = some x := by rfl) (hv : Vis X.env.scope x := by first | exact Or.inl rfl | exact Or.inr (Or.inl rfl) | exact Or.inr (Or.inr rfl)) (hd : (x == ("__debug__" : Str)) = false := by decide)
    (hcd : (x == ("__classdict__" : Str)) = false := by decide) (hN2 : X.N[k]? = some y := by rfl) (hv2 : Vis X.env.scope y := by first | exact Or.inl rfl | exact Or.inr (Or.inl rfl) | exact Or.inr (Or.inr rfl)) (hd2 : (y == ("__debug__" : Str)) = false := by decide)
    (hcd2 : (y == ("__classdict__" : Str)) = false := by decide) (hbase : attributeBase (.Name x p2) "append" X.env (eval (.Name x p2) X.env) = eval (.Name x p2) X.env := by rfl)
    (hfew : ((backTo cpos (starEach (.Call (.Attribute (.Name y p3) "pop" apos2) [e] [] cpos2 :: []) X.env)).all (fun x => !x.1) && (backToKw cpos (keywordEach [] X.env)).all (fun x => x.1.isSome)
      && decide ((Expr.Call (.Attribute (.Name y p3) "pop" apos2) [e] [] cpos2 :: []).length + ([] : List Keyword).length + (if ([] : List Keyword).isEmpty then 0 else 1) < 30)) = true := by rfl)
    (hline : (apos.endLine == cpos.line) = true := by rfl) (hs : starEach (.Call (.Attribute (.Name y p3) "pop" apos2) [e] [] cpos2 :: []) X.env = (false, eval (.Call (.Attribute (.Name y p3) "pop" apos2) [e] [] cpos2) X.env) :: starEach [] X.env := by rfl) (hplain : (backTo cpos (starEach [] X.env)).any (·.1) = false := by rfl)
    (hbase2 : attributeBase (.Name y p3) "pop" X.env (eval (.Name y p3) X.env) = eval (.Name y p3) X.env := by rfl)
    (hfew2 : ((backTo cpos2 (starEach (e :: []) X.env)).all (fun x => !x.1) && (backToKw cpos2 (keywordEach [] X.env)).all (fun x => x.1.isSome)
      && decide ((e :: []).length + ([] : List Keyword).length + (if ([] : List Keyword).isEmpty then 0 else 1) < 30)) = true := by rfl)
    (hline2 : (apos2.endLine == cpos2.line) = true := by rfl) (hs2 : starEach (e :: []) X.env = (false, eval e X.env) :: starEach [] X.env := by rfl) (hplain2 : (backTo cpos2 (starEach [] X.env)).any (·.1) = false := by rfl)
    (hsw : swapsWith (.Call (.Attribute (.Name x p2) "append" apos) [.Call (.Attribute (.Name y p3) "pop" apos2) [e] [] cpos2] [] cpos) none pos.line X.env = pure false := by rfl) :
    XS X W (.Expr (.Call (.Attribute (.Name x p2) "append" apos) [.Call (.Attribute (.Name y p3) "pop" apos2) [e] [] cpos2] [] cpos) pos) (tDrop (tBM X.K "list" rAppend (tVar i) (tCons (tBM X.K "list" rPopAt (tVar k) (tCons te tNil)) tNil))) (dAppPop i k f) :=
  ⟨ps_expr (pe_bm PySem.F.plainAttrs_list PySem.F.slot_list_append PySem.F.type_list_append mt_append (pe_var hN hv hd hcd)
    (pa_cons (pe_bm PySem.F.plainAttrs_list PySem.F.slot_list_pop PySem.F.type_list_pop mt_popAt (pe_var hN2 hv2 hd2 hcd2) (pa_cons he.pe pa_nil hs2) hbase2 hfew2 hline2 hs2 hplain2) pa_nil hs) hbase hfew hline hs hplain) hsw, st_appPop he.j⟩
theorem sPutAt (k : Nat) {x : Str} {ei ev : Expr} {ti tv : TE} {fi fv : Env → Res D} (hv : XV X W ev tv fv) (hi : XR X W ei ti fi) (hN : X.N[k]? = some x := by rfl) (hvis : Vis X.env.scope x := by first | exact Or.inl rfl | exact Or.inr (Or.inl rfl) | exact Or.inr (Or.inr rfl)) (hd : (x == ("__debug__" : Str)) = false := by decide)
    (hcd : (x == ("__classdict__" : Str)) = false := by decide)
    (hs : swapsWithSole [.Subscript (.Name x p2) ei p3] ev pos.line X.env = pure false := by rfl) (hw : swappedStores [.Subscript (.Name x p2) ei p3] ev X.env = pure none := by rfl)
    (h1 : (assignEach [.Subscript (.Name x p2) ei p3] X.env).map (·.2) = [assign (.Subscript (.Name x p2) ei p3) X.env] := by rfl) (ha : ∀ v, assign (.Subscript (.Name x p2) ei p3) X.env v = (do
      let ov ← holding [v] (eval (.Name x p2) X.env)
      let iv ← holding [v, ov] (eval ei X.env)
      standAt p3
      holding [v, ov, iv] (setItem ov iv v)
      release [v, ov, iv] []) := by intro _; rfl) :
    XS X W (.Assign [.Subscript (.Name x p2) ei p3] ev pos) (tAsg tv (gSub (tVar k) ti rSetL)) (dPutAt k fi fv) :=
  ⟨ps_asg hv.pe (pg_sub (pe_var hN hvis hd hcd) hi.pe set_list ha) hs hw h1, st_putAt hv.j hi.j⟩
theorem sAug {op : Operator} {g : Int → Int → Int} (i : Nat) {x : Str} (ho : PIp X op (ipI g)) (he : XR X W e te f) (hN : X.N.Nodup) (hi : X.N[i]? = some x := by rfl) (hx : Loc X.env.scope x := by first | exact Or.inl rfl | exact Or.inr rfl) (hf : X.fn x = true ∨ X.env.scope.names.lookup x = some .local := by first | exact .inl rfl | exact .inr rfl) :
    XS X W (.AugAssign (.Name x p2) op e pos) (tAug i te (ipI g)) (dAug g i f) := ⟨ps_aug hN hi hx he.pe ho hf, st_aug he.j⟩
/-- raise C('..') -/
def dExc (c : Str) : Env → Out := fun _ => .exc c
theorem sRaise {p4 : Pos} {cl : Str → Addr} {B : String} {newId initId : String} {bmB : List Value} {x m : Str} {j : Nat} {C : Addr} (tk : Takes X (TW cl W)) (Fb : ExcBaseFacts B newId initId bmB) (q : PySem.W.excIn X.K C bmB newId = true) (gC : X.mg x = some (.ref C)) (kC : PySem.W.keepIn X.K (.ref C) = true) (r : Raises X (.ref C)) (hg : Gl X x) (hcl : cl x = C) (hc : X.calm = true := by rfl)
    (hdb : (x == ("__debug__" : Str)) = false := by decide) : XS X W (.Raise (some (.Call (.Name x p2) [.Constant (.str m) j p3] [] p4)) none pos) (fun _ σ H => TW cl W (.ref C) none σ H) (dExc x) :=
  ⟨ps_raise hc tk (pmk_own Fb q gC kC r hg hdb), fun B ρ σ G H I Dn hQ => ⟨x, by rw [hcl], rfl, hQ H I.kp⟩⟩
end
end PD

set_option Elab.async false
set_option linter.all false
set_option maxRecDepth 100000
/-! The data layer, 8: operations on data. -/
namespace PD
open PySem PySem.Spec PyProof.Rows L2
section
variable {K : Frag} {G H : Hp}
theorem rep_list {p : Addr} {ds : List D} {vs : List V} (z : ds.length ≤ sizeLine) (h : SqL K G p vs) (r : RepL K G ds vs) : Rep K G (.list ds) (.ref p) := by
  unfold Rep; exact ⟨z, p, vs, rfl, h, r⟩
theorem rep_tup {p : Addr} {ds : List D} {vs : List V} (z : ds.length ≤ sizeLine) (h : SqT K G p vs) (r : RepL K G ds vs) : Rep K G (.tuple ds) (.ref p) := by
  unfold Rep; exact ⟨z, p, vs, rfl, h, r⟩
/-! ### arithmetic -/
def dSub : D → D → Option D
  | .int i, .int j => some (.int (i - j))
  | _, _ => none
theorem dr_int2 {r : R2} {g : D → D → Option D} {k : Int → Int → Option Int} (hg : ∀ d e, g d e = match d, e with | .int i, .int j => (k i j).map PyData.int | _, _ => none)
    (hr : ∀ i j n H (Q : VK), k i j = some n → Q (.int n) H → r (.int i) (.int j) H Q) : DR2 K (rlV K) r g := fun G H x y d e s rx ry Q hQ => by
  rw [hg] at hQ
  cases d with
  | int i =>
    obtain rfl := rd_int rx
    cases e with
    | int j =>
      obtain rfl := rd_int ry
      simp only at hQ
      cases hk : k i j with
      | none => rw [hk] at hQ; exact hQ.elim
      | some n => rw [hk] at hQ; exact hr i j n H Q hk (hQ _ G H (Gr.rfl' s) mk_int)
    | _ => exact hQ.elim
  | _ => cases e <;> exact hQ.elim
theorem dr_sub : DR2 K (rlV K) (rI0 fun i j => .int (i - j)) dSub := dr_int2 (k := fun i j => some (i - j)) (fun d e => by cases d <;> cases e <;> rfl) fun i j n H Q h q => by cases h; exact ⟨i, j, rfl, rfl, q⟩
/-- small enough for a product -/
def mulOk (i j : Int) : Bool := decide (i.natAbs.log2 + j.natAbs.log2 < 1000000)
def dMul : D → D → Option D
  | .int i, .int j => if mulOk i j = true then some (.int (i * j)) else none
  | _, _ => none
theorem dr_mul : DR2 K (rlV K) (rI CMulW fun i j => .int (i * j)) dMul := dr_int2 (k := fun i j => if mulOk i j = true then some (i * j) else none) (fun d e => by
    cases d <;> cases e <;> first | rfl | (unfold dMul; split <;> simp_all)) fun i j n H Q h q => by
  by_cases c : mulOk i j = true
  · rw [if_pos c] at h; cases h; exact ⟨i, j, rfl, rfl, by unfold mulOk at c; simpa [CMulW] using c, q⟩
  · rw [if_neg c] at h; cases h
def divOk : Int → Bool
  | .ofNat (n + 1) => Nat.ble (n + 2) 1000000000000
  | _ => false
theorem divOk_iff {j : Int} : divOk j = true ↔ 0 < j ∧ j < 1000000000000 := by
  cases j with
  | ofNat n =>
    cases n with
    | zero => simp [divOk]
    | succ n =>
      show Nat.ble (n + 2) 1000000000000 = true ↔ _
      rw [Nat.ble_eq, show Int.ofNat (n + 1) = ((n : Nat) : Int) + 1 from rfl]
      omega
  | negSucc n =>
    show false = true ↔ _
    rw [Int.negSucc_eq]
    constructor
    · intro h; cases h
    · intro h; omega
def dDiv : D → D → Option D
  | .int i, .int j => if divOk j = true then some (.int (i / j)) else none
  | _, _ => none
def dMod : D → D → Option D
  | .int i, .int j => if divOk j = true then some (.int (i % j)) else none
  | _, _ => none
theorem log_small {j : Int} (h : j.natAbs < 2 ^ 64) : j.natAbs.log2 < 9000 := by
  by_cases h0 : j.natAbs = 0
  · rw [h0]; decide
  · have := (Nat.log2_lt h0).mpr h
    omega
theorem dr_div : DR2 K (rlV K) (rI CDivW fun i j => .int (i / j)) dDiv := dr_int2 (k := fun i j => if divOk j = true then some (i / j) else none) (fun d e => by
    cases d <;> cases e <;> first | rfl | (unfold dDiv; split <;> simp_all)) fun i j n H Q h q => by
  by_cases c : divOk j = true
  · rw [if_pos c] at h; cases h
    have c' := divOk_iff.mp c
    exact ⟨i, j, rfl, rfl, ⟨c'.1, log_small (by omega)⟩, q⟩
  · rw [if_neg c] at h; cases h
theorem dr_mod : DR2 K (rlV K) (rI (fun _ j => 0 < j) fun i j => .int (i % j)) dMod := dr_int2 (k := fun i j => if divOk j = true then some (i % j) else none) (fun d e => by
    cases d <;> cases e <;> first | rfl | (unfold dMod; split <;> simp_all)) fun i j n H Q h q => by
  by_cases c : divOk j = true
  · rw [if_pos c] at h; cases h; exact ⟨i, j, rfl, rfl, (divOk_iff.mp c).1, q⟩
  · rw [if_neg c] at h; cases h
/-! ### + -/
def dAdd : D → D → Option D
  | .int i, .int j => some (.int (i + j))
  | .str a, .str b => if a.length + b.length ≤ sizeLine then some (.str (a ++ b)) else none
  | .list xs, .list ys => if xs.length + ys.length ≤ sizeLine then some (.list (xs ++ ys)) else none
  | .tuple xs, .tuple ys => if xs.length + ys.length ≤ sizeLine then some (.tuple (xs ++ ys)) else none
  | _, _ => none
def rAddA (K : Frag) : R2 := fun x y H Q => (rI0 (fun i j => .int (i + j)) x y H Q ∨ (∃ i j, x = .str i ∧ y = .str j ∧ i.length + j.length ≤ sizeLine ∧ Q (.str (i ++ j)) H)) ∨ (rCatG K x y H Q ∨ rCatA K x y H Q)
theorem op_addA {X : Cx} : OpR X (binaryOp .Add) (rAddA X.K) := (op_add.or op_add_str).or (op_catG.or op_catA)
theorem dr_add : DR2 K (rlV K) (rAddA K) dAdd := fun G H x y d e s rx ry Q hQ => by
  unfold dAdd at hQ
  split at hQ
  · rename_i i j
    obtain rfl := rd_int rx
    obtain rfl := rd_int ry
    exact .inl (.inl ⟨i, j, rfl, rfl, hQ _ G H (Gr.rfl' s) mk_int⟩)
  · rename_i a b
    obtain rfl := rd_str rx
    obtain rfl := rd_str ry
    split at hQ
    · rename_i hl
      exact .inl (.inr ⟨a, b, rfl, rfl, hl, hQ _ G H (Gr.rfl' s) mk_str⟩)
    · exact hQ.elim
  · rename_i xs ys
    obtain ⟨zx, p, vs, rfl, hp, rp⟩ := rd_list s rx
    obtain ⟨zy, q, us, rfl, hq, rq⟩ := rd_list s ry
    split at hQ
    · rename_i hl
      refine .inr (.inl ⟨p, q, vs, us, rfl, rfl, hp, hq, by rw [← rp.len, ← rq.len]; exact hl, fun l hl' => ?_⟩)
      exact hQ _ _ _ (Gr.new s hl' _) (rep_new_list (L2.Same.free s hl') (by rw [List.length_append]; exact hl) (rp.append rq))
    · exact hQ.elim
  · rename_i xs ys
    obtain ⟨zx, p, vs, rfl, hp, rp⟩ := rd_tup s rx
    obtain ⟨zy, q, us, rfl, hq, rq⟩ := rd_tup s ry
    have rx' : Rep K G (.tuple xs) (.ref p) := by
      rcases rx with h | ⟨_, o, _, _, h3⟩
      · exact h
      · cases o <;> cases h3
    have ry' : Rep K G (.tuple ys) (.ref q) := by
      rcases ry with h | ⟨_, o, _, _, h3⟩
      · exact h
      · cases o <;> cases h3
    split at hQ
    · rename_i hl
      refine .inr (.inr ⟨p, q, vs, us, rfl, rfl, hp, hq, by rw [← rp.len, ← rq.len]; exact hl, fun e => ?_, fun _ e => ?_, fun _ _ l hl' => ?_⟩)
      · have : xs = [] := List.length_eq_zero_iff.mp (by rw [rp.len, e]; rfl)
        subst this
        exact hQ _ G H (Gr.rfl' s) ry'
      · have : ys = [] := List.length_eq_zero_iff.mp (by rw [rq.len, e]; rfl)
        subst this
        rw [List.append_nil] at hQ
        exact hQ _ G H (Gr.rfl' s) rx'
      · exact hQ _ _ _ (Gr.new s hl' _) (rep_new_tup (L2.Same.free s hl') (by rw [List.length_append]; exact hl) (rp.append rq))
    · exact hQ.elim
  · exact hQ.elim
/-- a new list -/
def dCat : D → D → Option Ob
  | .list xs, .list ys => if xs.length + ys.length ≤ sizeLine then some (.l (xs ++ ys)) else none
  | _, _ => none
theorem dr_cat : DR2 K (rlN K) (rCatG K) dCat := fun G H x y d e s rx ry Q hQ => by
  unfold dCat at hQ
  split at hQ
  · rename_i xs ys
    obtain ⟨zx, p, vs, rfl, hp, rp⟩ := rd_list s rx
    obtain ⟨zy, q, us, rfl, hq, rq⟩ := rd_list s ry
    split at hQ
    · rename_i hl
      refine ⟨p, q, vs, us, rfl, rfl, hp, hq, by rw [← rp.len, ← rq.len]; exact hl, fun l hl' => ?_⟩
      exact hQ _ _ _ (Gr.tmp s hl' _) ⟨l, rfl, hl', own_new s hl' (by rw [List.length_append]; exact hl) (rp.append rq)⟩
    · exact hQ.elim
  · exact hQ.elim
/-! ### order of whole numbers -/
def dCmpI (p : Int → Int → Bool) : D → D → Option D
  | .int i, .int j => some (.bool (p i j))
  | _, _ => none
theorem dr_cmpI {p : Int → Int → Bool} : DR2 K (rlV K) (rI0 fun i j => .bl (p i j)) (dCmpI p) := fun G H x y d e s rx ry Q hQ => by
  unfold dCmpI at hQ
  split at hQ
  · rename_i i j
    obtain rfl := rd_int rx
    obtain rfl := rd_int ry
    exact ⟨i, j, rfl, rfl, hQ _ G H (Gr.rfl' s) mk_bool⟩
  · exact hQ.elim
abbrev dLt : D → D → Option D := dCmpI fun i j => decide (i < j)
abbrev dLe : D → D → Option D := dCmpI fun i j => decide (i ≤ j)
abbrev dGt : D → D → Option D := dCmpI fun i j => decide (j < i)
abbrev dGe : D → D → Option D := dCmpI fun i j => decide (j ≤ i)
/-! ### == -/
mutual
theorem Rep.dp : ∀ (d : D) (v : V), d.canLay0 = true → Rep K G d v → Dp K G v d
  | .none, v, _, h => by unfold Rep at h; subst h; exact .non
  | .bool b, v, _, h => by unfold Rep at h; subst h; exact .bl b
  | .int b, v, _, h => by unfold Rep at h; subst h; exact .int b
  | .str b, v, _, h => by unfold Rep at h; subst h; exact .str b
  | .list ds, v, c, h => by
    unfold Rep at h
    obtain ⟨_, a, xs, rfl, h1, h2⟩ := h
    exact .lst h1 (RepL.dp ds xs (by simpa [PyData.canLay0] using c) h2)
  | .tuple ds, v, c, h => by
    unfold Rep at h
    obtain ⟨_, a, xs, rfl, h1, h2⟩ := h
    exact .tup h1 (RepL.dp ds xs (by simpa [PyData.canLay0] using c) h2)
  | .dict _, v, c, _ => by simp [PyData.canLay0] at c
theorem RepL.dp : ∀ (ds : List D) (vs : List V), PyData.canLayAll0 ds = true → RepL K G ds vs → DpAll K G vs ds
  | [], vs, _, h => by rw [repL_nil.mp h]; exact .nil
  | d :: ds, vs, c, h => by
    unfold RepL at h
    obtain ⟨v, r, rfl, h1, h2⟩ := h
    simp only [PyData.canLayAll0, Bool.and_eq_true] at c
    exact .cons (Rep.dp d v c.1 h1) (RepL.dp ds r c.2 h2)
end
mutual
theorem Dp.mono {H H' : Hp} (s : Same H H') : ∀ {v : V} {d : D}, Dp K H v d → Dp K H' v d
  | _, _, .non => .non
  | _, _, .bl b => .bl b
  | _, _, .int b => .int b
  | _, _, .str b => .str b
  | _, _, .lst h r => .lst (s.seq h) (DpAll.mono s r)
  | _, _, .tup h r => .tup (Same.sqt s h) (DpAll.mono s r)
theorem DpAll.mono {H H' : Hp} (s : Same H H') : ∀ {v : List V} {d : List D}, DpAll K H v d → DpAll K H' v d
  | _, _, .nil => .nil
  | _, _, .cons a b => .cons (Dp.mono s a) (DpAll.mono s b)
end
theorem rd_dp {Ha : Hp} {d : D} {v : V} (s : Same G H) (c : d.canLay0 = true) (h : rlR K Ha G H d v) : Dp K H v d := by
  rcases h with h | ⟨p, o, rfl, ⟨_, ho, h4, h5⟩, rfl⟩
  · exact Dp.mono s (Rep.dp d v c h)
  · cases o with
    | l es =>
      obtain ⟨z, vs, rfl, r⟩ := h5
      exact .lst (.inl (.inl h4)) (DpAll.mono s (RepL.dp es vs (by simpa [PyData.canLay0, Ob.data] using c) r))
    | d es => simp [PyData.canLay0, Ob.data] at c
/-- scalars that are told apart as they stand -/
def scalD : D → D → Option Bool
  | .none, .none => some true
  | .bool a, .bool b => some (a == b)
  | .int a, .int b => some (a == b)
  | .str a, .str b => some (a == b)
  | .none, .bool _ => some false | .none, .int _ => some false | .none, .str _ => some false
  | .bool _, .none => some false | .bool _, .str _ => some false
  | .int _, .none => some false | .int _, .str _ => some false
  | .str _, .none => some false | .str _, .int _ => some false | .str _, .bool _ => some false
  | _, _ => none
def eqD (d e : D) : Option Bool := match scalD d e with
  | some b => some b
  | none => if SeqAt.shaped d = true ∧ SeqAt.shaped e = true then some (PyData.eqv d e) else none
def dEq (d e : D) : Option D := (eqD d e).map PyData.bool
def dNe (d e : D) : Option D := (eqD d e).map fun b => .bool !b
def rEqA (K : Frag) : R2 := fun x y H Q => rEq x y H Q ∨ rEqD K x y H Q
def rNeA (K : Frag) : R2 := fun x y H Q => rNe x y H Q ∨ rNeD K x y H Q
theorem op_eqA {X : Cx} (hu : X.A.units + 64 < cLine) : OpR X (compareOp .Eq) (rEqA X.K) := op_eq.or (op_eqD hu)
theorem op_neA {X : Cx} (hu : X.A.units + 64 < cLine) : OpR X (compareOp .NotEq) (rNeA X.K) := op_ne.or (op_neD hu)
theorem scalD_V {Ha : Hp} {d e : D} {x y : V} {b : Bool} (h : scalD d e = some b) (rx : rlR K Ha G H d x) (ry : rlR K Ha G H e y) : scal x y = true ∧ decide (x = y) = b := by
  cases d <;> cases e <;> simp only [scalD] at h <;> try cases h
  all_goals first
    | (obtain rfl := rd_none rx; obtain rfl := rd_none ry; exact ⟨rfl, by simp⟩)
    | (obtain rfl := rd_none rx; obtain rfl := rd_int ry; exact ⟨rfl, by simp⟩)
    | (obtain rfl := rd_none rx; obtain rfl := rd_bool ry; exact ⟨rfl, by simp⟩)
    | (obtain rfl := rd_none rx; obtain rfl := rd_str ry; exact ⟨rfl, by simp⟩)
    | (obtain rfl := rd_bool rx; obtain rfl := rd_none ry; exact ⟨rfl, by simp⟩)
    | (obtain rfl := rd_int rx; obtain rfl := rd_none ry; exact ⟨rfl, by simp⟩)
    | (obtain rfl := rd_str rx; obtain rfl := rd_none ry; exact ⟨rfl, by simp⟩)
    | (obtain rfl := rd_int rx; obtain rfl := rd_int ry; exact ⟨rfl, dec_int⟩)
    | (obtain rfl := rd_bool rx; obtain rfl := rd_bool ry; exact ⟨rfl, dec_bl⟩)
    | (obtain rfl := rd_str rx; obtain rfl := rd_str ry; exact ⟨rfl, dec_str⟩)
    | (obtain rfl := rd_int rx; obtain rfl := rd_str ry; exact ⟨rfl, by simp⟩)
    | (obtain rfl := rd_str rx; obtain rfl := rd_int ry; exact ⟨rfl, by simp⟩)
    | (obtain rfl := rd_bool rx; obtain rfl := rd_str ry; exact ⟨rfl, by simp⟩)
    | (obtain rfl := rd_str rx; obtain rfl := rd_bool ry; exact ⟨rfl, by simp⟩)
theorem dr_eq : DR2 K (rlV K) (rEqA K) dEq := fun G H x y d e s rx ry Q hQ => by
  unfold dEq eqD at hQ
  cases hs : scalD d e with
  | some b =>
    obtain ⟨h1, h2⟩ := scalD_V hs rx ry
    simp only [hs, Option.map_some] at hQ
    exact .inl ⟨h1, by rw [h2]; exact hQ _ G H (Gr.rfl' s) mk_bool⟩
  | none =>
    simp only [hs] at hQ
    by_cases c : SeqAt.shaped d = true ∧ SeqAt.shaped e = true
    · rw [if_pos c] at hQ
      exact .inr ⟨d, e, rd_dp s (SeqAt.canLay_of_shaped c.1) rx, rd_dp s (SeqAt.canLay_of_shaped c.2) ry, c.1, c.2, hQ _ G H (Gr.rfl' s) mk_bool⟩
    · rw [if_neg c] at hQ
      exact hQ.elim
theorem dr_ne : DR2 K (rlV K) (rNeA K) dNe := fun G H x y d e s rx ry Q hQ => by
  unfold dNe eqD at hQ
  cases hs : scalD d e with
  | some b =>
    obtain ⟨h1, h2⟩ := scalD_V hs rx ry
    simp only [hs, Option.map_some] at hQ
    exact .inl ⟨h1, by rw [h2]; exact hQ _ G H (Gr.rfl' s) mk_bool⟩
  | none =>
    simp only [hs] at hQ
    by_cases c : SeqAt.shaped d = true ∧ SeqAt.shaped e = true
    · rw [if_pos c] at hQ
      exact .inr ⟨d, e, rd_dp s (SeqAt.canLay_of_shaped c.1) rx, rd_dp s (SeqAt.canLay_of_shaped c.2) ry, c.1, c.2, hQ _ G H (Gr.rfl' s) mk_bool⟩
    · rw [if_neg c] at hQ
      exact hQ.elim
/-- a list beside the empty one, whatever is in it -/
def rEq0 (K : Frag) (neg : Bool) : R2 := fun x y H Q => ∃ p q xs, x = .ref p ∧ y = .ref q ∧ SqL K H p xs ∧ SqL K H q [] ∧ Q (.bl (if neg then !xs.isEmpty else xs.isEmpty)) H
theorem op_eq0 {X : Cx} (hu : X.A.units + 64 < cLine) : OpR X (compareOp .Eq) (rEq0 X.K false) := by
  intro pins s σ H x y v u Q I rx ry h
  obtain ⟨p, q, xs, rfl, rfl, hp, hq, h⟩ := h
  cases xs with
  | nil => exact op_eqD hu pins s σ H _ _ v u Q I rx ry ⟨.list [], .list [], .lst hp .nil, .lst hq .nil, rfl, rfl, h⟩
  | cons x xs =>
    cases rx
    cases ry
    obtain ⟨its, r1, p1, _⟩ := I.list hp
    obtain ⟨its2, r2, p2, _⟩ := I.list hq
    cases r2
    refine SeqAt.eq_list_lengthsAt p1.isList p2.isList ?_ (by omega) ⟨.bl false, H, I, rfl, h⟩
    have := r1.length
    simp at this ⊢
    intro z
    subst z
    simp at this
theorem op_ne0 {X : Cx} (hu : X.A.units + 64 < cLine) : OpR X (compareOp .NotEq) (rEq0 X.K true) := by
  intro pins s σ H x y v u Q I rx ry h
  obtain ⟨p, q, xs, rfl, rfl, hp, hq, h⟩ := h
  cases xs with
  | nil => exact op_neD hu pins s σ H _ _ v u Q I rx ry ⟨.list [], .list [], .lst hp .nil, .lst hq .nil, rfl, rfl, h⟩
  | cons x xs =>
    cases rx
    cases ry
    obtain ⟨its, r1, p1, _⟩ := I.list hp
    obtain ⟨its2, r2, p2, _⟩ := I.list hq
    cases r2
    refine (SeqAt.RcNeAt.lists_lengths p1.isList p2.isList ?_ (by omega)) _ _ _ _ ⟨.bl true, H, I, rfl, h⟩
    have := r1.length
    simp at this ⊢
    intro z
    subst z
    simp at this
def dEq0 (neg : Bool) : D → D → Option D
  | .list xs, .list [] => some (.bool (if neg then !xs.isEmpty else xs.isEmpty))
  | _, _ => none
theorem dr_eq0 {neg : Bool} : DR2 K (rlV K) (rEq0 K neg) (dEq0 neg) := fun G H x y d e s rx ry Q hQ => by
  unfold dEq0 at hQ
  split at hQ
  · rename_i xs
    obtain ⟨zx, p, vs, rfl, hp, rp⟩ := rd_list s rx
    obtain ⟨zy, q, us, rfl, hq, rq⟩ := rd_list s ry
    rw [repL_nil.mp rq] at hq
    have e : vs.isEmpty = xs.isEmpty := by
      have := rp.len
      cases xs <;> cases vs <;> simp at this ⊢
    exact ⟨p, q, vs, rfl, rfl, hp, hq, by rw [e]; exact hQ _ G H (Gr.rfl' s) mk_bool⟩
  · exact hQ.elim
end
end PD

set_option Elab.async false
set_option linter.all false
set_option maxRecDepth 100000
/-! The data layer, 9: more operations on data. -/
namespace PD
open PySem PySem.Spec PyProof.Rows L2
section
variable {K : Frag} {G H : Hp}
theorem rep_frozen {Ha : Hp} {d : D} {v : V} (h : rlR K Ha G H d v) (hn : ∀ o : Ob, d ≠ o.data) : Rep K G d v := by
  rcases h with h | ⟨p, o, _, _, e⟩
  · exact h
  · exact absurd e (hn o)
/-! ### in -/
def flatD : D → Bool
  | .none => true | .bool _ => true | .int _ => true | .str _ => true | _ => false
theorem flat_V {d : D} {v : V} (f : flatD d = true) (h : Rep K G d v) : flatV v = true := by
  cases d <;> first | (unfold Rep at h; subst h; rfl) | (simp [flatD] at f)
theorem eqV_D {d e : D} {x y : V} (fd : flatD d = true) (fe : flatD e = true) (hx : Rep K G d x) (hy : Rep K G e y) : eqV x y = PyData.eqv d e := by
  cases d <;> cases e <;> first
    | (unfold Rep at hx hy; subst hx; subst hy; simp [eqV, PyData.eqv])
    | (cases fd; done)
    | (cases fe; done)
theorem all_flat : ∀ {ds : List D} {vs : List V}, RepL K G ds vs → ds.all flatD = true → vs.all flatV = true
  | [], vs, h, _ => by rw [repL_nil.mp h]; rfl
  | d :: ds, vs, h, f => by
    unfold RepL at h
    obtain ⟨v, r, rfl, h1, h2⟩ := h
    rw [List.all_cons, Bool.and_eq_true] at f ⊢
    exact ⟨flat_V f.1 h1, all_flat h2 f.2⟩
theorem any_eq {d : D} {x : V} (fd : flatD d = true) (hx : Rep K G d x) : ∀ {ds : List D} {vs : List V}, RepL K G ds vs → ds.all flatD = true → inV x vs = ds.any fun y => PyData.eqv y d
  | [], vs, h, _ => by rw [repL_nil.mp h]; rfl
  | e :: ds, vs, h, f => by
    unfold RepL at h
    obtain ⟨v, r, rfl, h1, h2⟩ := h
    rw [List.all_cons, Bool.and_eq_true] at f
    have ih := any_eq fd hx h2 f.2
    unfold inV at ih ⊢
    rw [List.any_cons, List.any_cons, ih, eqV_D f.1 fd h1 hx]
def inS (d : D) (es : List D) : Bool := es.any fun y => PyData.eqv y d
/-- x in a list or a tuple of flat things -/
def dIn (neg : Bool) : D → D → Option D := fun d e => match seqOf e with
  | some es => if flatD d = true ∧ es.all flatD = true then some (.bool (if neg then !inS d es else inS d es)) else none
  | none => none
theorem dr_in {neg : Bool} : DR2 K (rlV K) (rIn K neg) (dIn neg) := fun G H x y d e s rx ry Q hQ => by
  unfold dIn at hQ
  cases hs : seqOf e with
  | none => simp only [hs] at hQ; exact hQ.elim
  | some es =>
    simp only [hs] at hQ
    by_cases c : flatD d = true ∧ es.all flatD = true
    · rw [if_pos c] at hQ
      obtain ⟨_, p, vs, rfl, hp, rp⟩ := rd_seq s ry hs
      have hx : Rep K G d x := rep_frozen rx fun o z => by
        have := c.1
        rw [z] at this
        cases o <;> simp [Ob.data, flatD] at this
      refine ⟨p, vs, rfl, ?_, flat_V c.1 hx, all_flat rp c.2, ?_⟩
      · exact hp
      · rw [any_eq c.1 hx rp c.2]
        exact hQ _ G H (Gr.rfl' s) mk_bool
    · rw [if_neg c] at hQ; exact hQ.elim
/-! ### is -/
def dIsN (neg : Bool) : D → D → Option D
  | .none, .none => some (.bool (!neg))
  | _, .none => some (.bool neg)
  | _, _ => none
def rIsN (neg : Bool) : R2 := fun x y H Q => y = .non ∧ Q (.bl (if neg then !decide (x = .non) else decide (x = .non))) H
theorem op_isN' {X : Cx} : OpR X (compareOp .Is) (rIsN false) := op_isN
theorem op_notN' {X : Cx} : OpR X (compareOp .IsNot) (rIsN true) := op_notN
theorem dr_isN {neg : Bool} : DR2 K (rlV K) (rIsN neg) (dIsN neg) := fun G H x y d e s rx ry Q hQ => by
  have fin : ∀ b : Bool, (if neg then !decide (x = V.non) else decide (x = V.non)) = b → OkO (rlV K) G H (some (PyData.bool b)) Q → Q (.bl (if neg then !decide (x = .non) else decide (x = .non))) H := fun b h q => by
    rw [h]; exact q _ G H (Gr.rfl' s) mk_bool
  have key : d ≠ .none → x ≠ .non := fun hd z => by
    subst z
    rcases rx with h | ⟨p, o, h1, _, _⟩
    · cases d <;> first
        | exact hd rfl
        | (unfold Rep at h; obtain ⟨_, _, _, h, _⟩ := h; cases h; done)
        | (unfold Rep at h; obtain ⟨_, _, h, _⟩ := h; cases h; done)
        | (unfold Rep at h; cases h; done)
    · cases h1
  cases e with
  | none =>
    obtain rfl := rd_none ry
    refine ⟨rfl, ?_⟩
    by_cases hd : d = .none
    · subst hd
      obtain rfl := rd_none rx
      exact fin (!neg) (by cases neg <;> simp) (by simpa [dIsN] using hQ)
    · refine fin neg (by have := key hd; cases neg <;> simp [this]) ?_
      cases d <;> first | exact absurd rfl hd | exact hQ
  | _ => unfold dIsN at hQ; cases d <;> exact hQ.elim
def dIsB (neg : Bool) : D → D → Option D
  | .bool a, .bool b => some (.bool (if neg then !(a == b) else (a == b)))
  | _, _ => none
def rIsBn (neg : Bool) : R2 := fun x y H Q => ∃ a b : Bool, x = .bl a ∧ y = .bl b ∧ Q (.bl (if neg then !decide (a = b) else decide (a = b))) H
theorem op_isB' {X : Cx} : OpR X (compareOp .Is) (rIsBn false) := op_isBl
theorem op_notB' {X : Cx} : OpR X (compareOp .IsNot) (rIsBn true) := op_notBl
theorem dr_isB {neg : Bool} : DR2 K (rlV K) (rIsBn neg) (dIsB neg) := fun G H x y d e s rx ry Q hQ => by
  unfold dIsB at hQ
  split at hQ
  · rename_i a b
    obtain rfl := rd_bool rx
    obtain rfl := rd_bool ry
    refine ⟨a, b, rfl, rfl, ?_⟩
    have : (if neg then !decide (a = b) else decide (a = b)) = (if neg then !(a == b) else (a == b)) := by cases neg <;> cases a <;> cases b <;> rfl
    rw [this]
    exact hQ _ G H (Gr.rfl' s) mk_bool
  · exact hQ.elim
/-! ### subscripts -/
def dIx : D → D → Option D
  | .list es, .int i => atI es i
  | .tuple es, .int i => atI es i
  | .str z, .int i => if z.length ≤ sizeLine then (atI z.cps.toList i).map fun c => .str ⟨#[c]⟩ else none
  | _, _ => none
theorem atI_rep {ds : List D} {vs : List V} {i : Int} {d : D} (r : RepL K G ds vs) (h : atI ds i = some d) : ∃ v, atI vs i = some v ∧ Rep K G d v := by
  unfold atI at h ⊢
  rw [← r.len]
  cases e : ixN ds.length i with
  | none => rw [e] at h; cases h
  | some j => rw [e] at h; exact r.at h
theorem dr_ix : DR2 K (rlV K) (rIx K) dIx := fun G H x y d e s rx ry Q hQ => by
  unfold dIx at hQ
  split at hQ
  · rename_i es i
    obtain ⟨z, p, vs, rfl, hp, rp⟩ := rd_list s rx
    obtain rfl := rd_int ry
    cases ha : atI es i with
    | none => rw [ha] at hQ; exact hQ.elim
    | some d =>
      rw [ha] at hQ
      obtain ⟨v, h1, h2⟩ := atI_rep rp ha
      exact .inl ⟨p, vs, i, v, rfl, rfl, hp, h1, hQ v G H (Gr.rfl' s) h2⟩
  · rename_i es i
    obtain ⟨z, p, vs, rfl, hp, rp⟩ := rd_tup s rx
    obtain rfl := rd_int ry
    cases ha : atI es i with
    | none => rw [ha] at hQ; exact hQ.elim
    | some d =>
      rw [ha] at hQ
      obtain ⟨v, h1, h2⟩ := atI_rep rp ha
      exact .inr (.inl ⟨p, vs, i, v, rfl, rfl, hp, h1, hQ v G H (Gr.rfl' s) h2⟩)
  · rename_i z i
    obtain rfl := rd_str rx
    obtain rfl := rd_int ry
    split at hQ
    · rename_i hz
      cases ha : atI z.cps.toList i with
      | none => rw [ha] at hQ; exact hQ.elim
      | some c =>
        rw [ha] at hQ
        exact .inr (.inr ⟨z, i, c, rfl, rfl, hz, ha, hQ _ G H (Gr.rfl' s) mk_str⟩)
    · exact hQ.elim
  · exact hQ.elim
/-! ### slices -/
def cutD {α : Type} (xs : List α) (lo hi : Option Int) : List α := (xs.drop (HT.sIx xs.length 0 lo)).take (HT.sIx xs.length xs.length hi - HT.sIx xs.length 0 lo)
theorem cutD_len {α : Type} (xs : List α) (lo hi : Option Int) : (cutD xs lo hi).length ≤ xs.length := by
  unfold cutD
  rw [List.length_take, List.length_drop]
  omega
theorem cut_rep {ds : List D} {vs : List V} {lo hi : Option Int} (r : RepL K G ds vs) : RepL K G (cutD ds lo hi) (cutV vs lo hi) := by
  unfold cutD cutV
  rw [← r.len]
  exact (r.drop _).take _
/-- a new list -/
def dSlN : D → Option Int → Option Int → Option Ob
  | .list es, lo, hi => some (.l (cutD es lo hi))
  | _, _, _ => none
theorem dr_slN : DRS K (rlN K) (rSlL K) dSlN := fun G H x d lo hi s rx Q hQ => by
  cases d with
  | list es =>
    obtain ⟨z, p, vs, rfl, hp, rp⟩ := rd_list s rx
    refine ⟨p, vs, rfl, hp, fun q hq => ?_⟩
    exact hQ _ _ _ (Gr.tmp s hq _) ⟨q, rfl, hq, own_new s hq (Nat.le_trans (cutD_len _ _ _) z) (cut_rep rp)⟩
  | _ => exact hQ.elim
def rSlAny (K : Frag) : V → Option Int → Option Int → Hp → VK → Prop := fun x lo hi H Q => rSlL K x lo hi H Q ∨ (rSlA K x lo hi H Q ∨ ∃ z, x = .str z ∧ z.length ≤ sizeLine ∧ Q (.str (cutS z lo hi)) H)
/-- data -/
def dSlV : D → Option Int → Option Int → Option D
  | .list es, lo, hi => some (.list (cutD es lo hi))
  | .tuple es, lo, hi => some (.tuple (cutD es lo hi))
  | .str z, lo, hi => if z.length ≤ sizeLine then some (.str (cutS z lo hi)) else none
  | _, _, _ => none
theorem cutD_all {α : Type} (xs : List α) {lo hi : Option Int} (h : HT.sIx xs.length 0 lo = 0 ∧ HT.sIx xs.length xs.length hi = xs.length) : cutD xs lo hi = xs := by
  unfold cutD
  rw [h.1, h.2]
  simp
theorem dr_slV : DRS K (rlV K) (rSlAny K) dSlV := fun G H x d lo hi s rx Q hQ => by
  cases d with
  | list es =>
    obtain ⟨z, p, vs, rfl, hp, rp⟩ := rd_list s rx
    refine .inl ⟨p, vs, rfl, hp, fun q hq => ?_⟩
    exact hQ _ _ _ (Gr.new s hq _) (rep_new_list (L2.Same.free s hq) (Nat.le_trans (cutD_len _ _ _) z) (cut_rep rp))
  | tuple es =>
    have rx' := rep_frozen rx fun o z => by cases o <;> cases z
    obtain ⟨z, p, vs, rfl, hp, rp⟩ := rd_tup s rx
    refine .inr (.inl ⟨p, vs, rfl, hp, fun hw => ?_, fun _ q hq => ?_⟩)
    · rw [← rp.len] at hw
      have e := cutD_all es hw
      refine hQ _ G H (Gr.rfl' s) ?_
      show Rep K G (.tuple (cutD es lo hi)) _
      rw [e]
      exact rx'
    · exact hQ _ _ _ (Gr.new s hq _) (rep_new_tup (L2.Same.free s hq) (Nat.le_trans (cutD_len _ _ _) z) (cut_rep rp))
  | str z =>
    obtain rfl := rd_str rx
    by_cases hz : z.length ≤ sizeLine
    · have e : dSlV (.str z) lo hi = some (.str (cutS z lo hi)) := by simp only [dSlV, hz, if_true]
      rw [e] at hQ
      exact .inr (.inr ⟨z, rfl, hz, hQ _ G H (Gr.rfl' s) mk_str⟩)
    · have e : dSlV (.str z) lo hi = none := by simp only [dSlV, hz, if_false]
      rw [e] at hQ
      exact hQ.elim
  | _ => exact hQ.elim
/-! ### len -/
def dLen : List D → Option D
  | [.list es] => some (.int es.length)
  | [.tuple es] => some (.int es.length)
  | [.str z] => if z.length ≤ sizeLine then some (.int z.length) else none
  | [.dict es] => some (.int es.length)
  | _ => none
theorem one_read {d : D} {xs : List V} (h : ReadL K G H [d] xs) : ∃ v, xs = [v] ∧ rlR K H G H d v := by
  obtain ⟨v, r, rfl, h1, h2⟩ := h
  cases h2
  exact ⟨v, rfl, h1⟩
def rLen (K : Frag) : List V → Hp → VK → Prop := fun xs H Q => ((∃ p ys, xs = [.ref p] ∧ (SqL K H p ys ∨ SqT K H p ys) ∧ Q (.int ys.length) H) ∨ (∃ z, xs = [.str z] ∧ z.length ≤ sizeLine ∧ Q (.int z.length) H))
theorem call_lenA {X : Cx} : CallR X (.builtin "len") (rLen X.K) := call_len_seq.or call_len_str
def dLen1 : List D → Option D := fun ds => match ds with | [.dict _] => none | _ => dLen ds
theorem dr_len : DRC K (rlV K) (rLen K) dLen1 := fun G H xs ds s rx Q hQ => by
  match ds, hQ with
  | [.list es], hQ =>
    obtain ⟨v, rfl, r⟩ := one_read rx
    obtain ⟨z, p, vs, rfl, hp, rp⟩ := rd_list s r
    exact .inl ⟨p, vs, rfl, .inl hp, by rw [← rp.len]; exact hQ _ G H (Gr.rfl' s) mk_int⟩
  | [.tuple es], hQ =>
    obtain ⟨v, rfl, r⟩ := one_read rx
    obtain ⟨z, p, vs, rfl, hp, rp⟩ := rd_tup s r
    exact .inl ⟨p, vs, rfl, .inr hp, by rw [← rp.len]; exact hQ _ G H (Gr.rfl' s) mk_int⟩
  | [.str z], hQ =>
    obtain ⟨v, rfl, r⟩ := one_read rx
    obtain rfl := rd_str r
    unfold dLen1 dLen at hQ
    simp only at hQ
    split at hQ
    · rename_i hz
      exact .inr ⟨z, rfl, hz, hQ _ G H (Gr.rfl' s) mk_int⟩
    · exact hQ.elim
  | [.dict _], hQ => exact hQ.elim
  | [.none], hQ => exact hQ.elim
  | [.bool _], hQ => exact hQ.elim
  | [.int _], hQ => exact hQ.elim
  | [], hQ => exact hQ.elim
  | a :: b :: r, hQ => cases a <;> exact hQ.elim
/-! ### list(..), tuple(..) -/
def dList : List D → Option Ob
  | [.list es] => some (.l es)
  | [.tuple es] => some (.l es)
  | _ => none
def rListS (K : Frag) : List V → Hp → VK → Prop := fun xs H Q => ∃ p ys, xs = [.ref p] ∧ (SqL K H p ys ∨ SqT K H p ys) ∧ ∀ l, H l = none → Q (.ref l) (upd H l (.lst ys))
theorem dr_list : DRC K (rlN K) (rListS K) dList := fun G H xs ds s rx Q hQ => by
  unfold dList at hQ
  split at hQ
  · obtain ⟨v, rfl, r⟩ := one_read rx
    obtain ⟨z, p, vs, rfl, hp, rp⟩ := rd_list s r
    exact ⟨p, vs, rfl, .inl hp, fun l hl => hQ _ _ _ (Gr.tmp s hl _) ⟨l, rfl, hl, own_new s hl z rp⟩⟩
  · obtain ⟨v, rfl, r⟩ := one_read rx
    obtain ⟨z, p, vs, rfl, hp, rp⟩ := rd_tup s r
    exact ⟨p, vs, rfl, .inr hp, fun l hl => hQ _ _ _ (Gr.tmp s hl _) ⟨l, rfl, hl, own_new s hl z rp⟩⟩
  · exact hQ.elim
def dTuple : List D → Option D
  | [.list es] => some (.tuple es)
  | [.tuple es] => some (.tuple es)
  | _ => none
def rTupS (K : Frag) : List V → Hp → VK → Prop := fun xs H Q => ∃ p ys, xs = [.ref p] ∧ ((SqL K H p ys ∧ ∀ l, H l = none → Q (.ref l) (upd H l (.tup ys))) ∨ (SqT K H p ys ∧ Q (.ref p) H))
theorem dr_tuple : DRC K (rlV K) (rTupS K) dTuple := fun G H xs ds s rx Q hQ => by
  unfold dTuple at hQ
  split at hQ
  · obtain ⟨v, rfl, r⟩ := one_read rx
    obtain ⟨z, p, vs, rfl, hp, rp⟩ := rd_list s r
    exact ⟨p, vs, rfl, .inl ⟨hp, fun l hl => hQ _ _ _ (Gr.new s hl _) (rep_new_tup (L2.Same.free s hl) z rp)⟩⟩
  · obtain ⟨v, rfl, r⟩ := one_read rx
    have r' := rep_frozen r fun o z => by cases o <;> cases z
    obtain ⟨z, p, vs, rfl, hp, rp⟩ := rd_tup s r
    exact ⟨p, vs, rfl, .inr ⟨hp, hQ _ G H (Gr.rfl' s) r'⟩⟩
  · exact hQ.elim
/-! ### isinstance -/
def tyD : D → String
  | .none => "NoneType" | .bool _ => "bool" | .int _ => "int" | .str _ => "str" | .list _ => "list" | .tuple _ => "tuple" | .dict _ => "dict"
theorem tyX_of {Ha : Hp} {d : D} {v : V} (s : Same G H) (h : rlR K Ha G H d v) : TyX K H v (.type (tyD d)) := by
  cases d with
  | none => obtain rfl := rd_none h; exact .base .non
  | bool b => obtain rfl := rd_bool h; exact .base (.bl b)
  | int b => obtain rfl := rd_int h; exact .base (.int b)
  | str b => obtain rfl := rd_str h; exact .base (.str b)
  | list ds =>
    obtain ⟨_, p, vs, rfl, hp, _⟩ := rd_list s h
    rcases hp with (hp | ⟨o, hp⟩) | ⟨o, its, n, h1, h2, _⟩
    · exact .base (.lst hp)
    · exact .base (.frz hp)
    · exact .kList h1 h2
  | tuple ds =>
    obtain ⟨_, p, vs, rfl, hp, _⟩ := rd_tup s h
    rcases hp with (hp | ⟨o, hp⟩) | ⟨o, its, n, h1, h2, _⟩
    · exact .base (.tup hp)
    · exact .fTuple hp
    · exact .kTuple h1 h2
  | dict es =>
    rcases h with h | ⟨p, o, rfl, ⟨_, ho, h2, h3⟩, e⟩
    · unfold Rep at h
      obtain ⟨p, kvs, rfl, hp, _⟩ := h
      rcases hp with hp | ⟨o, hp⟩
      · exact .base (.dK (s _ _ hp))
      · exact .fDict (s _ _ hp)
    · cases o with
      | l _ => cases e
      | d es =>
        obtain ⟨kvs, rfl, _⟩ := h3
        exact .base (.dK h2)
/-- isinstance(x, T), T a built-in class -/
def dIsi (T : String) (f : Env → Res D) : Env → Res D := fun ρ => (f ρ).bind fun d => match kitB (tyD d) T with
  | some b => .ok (.bool b)
  | none => .stuck
theorem et_isi {W : Str → Hp → Prop} {T : String} {te : TE} {f : Env → Res D} (a : ER K W te f) : ET K W (tCB (rIsi K) (tCons te (tCons (tC (.ty T)) tNil))) (dIsi T f) := fun B ρ σ G H I Q hQ =>
  j_bind (ta := te) anti_V a I hQ fun x d G1 H1 g1 r1 I1 q1 => by
    cases e : kitB (tyD d) T with
    | none => simp only [e] at q1; exact q1.elim
    | some b =>
      simp only [e] at q1
      exact ⟨x, .ty T, .type (tyD d), .type T, b, rfl, .ty T, tyX_of I1.gh r1, kit_ty e, q1 _ G1 H1 I1.gr mk_bool⟩
theorem xIsi {X : Cx} {W : Str → Hp → Prop} {T : String} {y : Str} {e : Expr} {te : TE} {f : Env → Res D} {p q pos : Pos} (h : XR X W e te f) (hm : X.mg "isinstance" = none) (hm2 : X.mg y = none) (hg : Gl X "isinstance" := by rfl) (hg2 : Gl X y := by rfl) (hv2 : bootBuiltins y = some (.type T) := by decide +kernel) (hv : bootBuiltins "isinstance" = some (.builtin "isinstance") := by decide +kernel)
    (hn2 : y ≠ "__name__" := by decide) (hd2 : (y == ("__debug__" : Str)) = false := by decide)
    (he : starEach (e :: [.Name y q]) X.env = (false, eval e X.env) :: starEach [.Name y q] X.env := by rfl) (he2 : starEach [.Name y q] X.env = (false, eval (.Name y q) X.env) :: starEach [] X.env := by rfl) (hpl : (backTo pos (starEach [.Name y q] X.env)).any (·.1) = false := by rfl) :
    XV X W (.Call (.Name "isinstance" p) [e, .Name y q] [] pos) (tCB (rIsi X.K) (tCons te (tCons (tC (.ty T)) tNil))) (dIsi T f) :=
  ⟨pe_callB call_isi hg hm hv (pa_cons h.pe (pa_cons (pe_bltn (v := .ty T) hg2 hm2 hv2 rfl hn2 hd2) pa_nil he2) he) (by decide) (by decide) he hpl, et_isi h.j⟩
end
end PD

set_option Elab.async false
set_option linter.all false
set_option maxRecDepth 100000
/-! The data layer, 10: defs as they are called; walks with their syntax; list(range), sorted. -/
namespace PD
open PySem PySem.Spec PyProof.Rows L2
/-- a def of the program as its callers see it -/
def GFn (P : Program) (w : World) (K : Frag) (mg : Str → Option Value) (base : Heap) (cl : Str → Addr) (x : Str) {α : Type} (rel : Rl α V) (k n : Nat) (g : List D → Res α) : Prop :=
  ∃ (f : Addr) (fd : FuncData) (ps : List Str), FnOk P w K mg base (L2.CX P w) k f fd ps (spG K rel cl n g) ∧ mg x = some (.ref f) ∧ PySem.W.keepIn K (.ref f) = true ∧ Binds K fd ps [] ∧ ∀ ds, g ds ≠ .stuck → ds.length = n
/-- a def as it stands behind the top -/
def DefAt (K : Frag) (mg : Str → Option Value) (x : Str) (st : Stmt) (ps : List Str) : Prop := ∃ (f : Addr) (fd : FuncData), Fun K x x st f fd ∧ mg x = some (.ref f) ∧ ∀ us : List Value, us.length = ps.length → bindArgs fd ⟨us, []⟩ = pure (ps.zip us)
section
variable {P : Program} {w : World} {K : Frag} {mg : Str → Option Value} {base : Heap} {cl : Str → Addr} {x : Str} {st : Stmt} {N ps : List Str} {k n : Nat} {F : Env → Out}
theorem gfn_T (d : DefAt K mg x st ps) (S : FnScope N ps (defScope st)) (hn : ps.length = n) (h : ∀ f, Body P w K mg base cl k N x st f F) : GFn P w K mg base cl x (rlV K) (k + 1) n (funT n N.length F) := by
  obtain ⟨f, fd, Fn, hm, hb⟩ := d
  exact ⟨f, fd, ps, fn_T Fn S hn (h f), hm, Fn.kp, .all hb, fun ds => funT_len ds⟩
theorem gfn_N (d : DefAt K mg x st ps) (S : FnScope N ps (defScope st)) (hn : ps.length = n) (h : ∀ f, Body P w K mg base cl k N x st f F) : GFn P w K mg base cl x (rlN K) (k + 1) n (funN n N.length F) := by
  obtain ⟨f, fd, Fn, hm, hb⟩ := d
  exact ⟨f, fd, ps, fn_N Fn S hn (h f), hm, Fn.kp, .all hb, fun ds => funN_len ds⟩
end
section
variable {X : Cx} {W : Str → Hp → Prop} {e a b c : Expr} {es : List Expr} {te ta tb tc : TE} {tA : TA} {f fa fb fc : Env → Res D} {fs : Env → Res (List D)} {pos p p2 : Pos} {tg : Expr}
theorem xCallG {α : Type} {rel : Rl α V} {cl : Str → Addr} {k j n : Nat} {g : List D → Res α} {x : Str} (an : Anti rel) (G : GFn X.prog X.w X.K X.mg X.base cl x rel k n g) (hr : Room j X.A) (hj : k ≤ j) (tk : Takes X (TW cl W))
    (ha : XA X W (e :: es) tA fs) (hg : Gl X x := by rfl) (hdb : (x == ("__debug__" : Str)) = false := by decide) (he : starEach (e :: es) X.env = (false, eval e X.env) :: starEach es X.env := by rfl) (hpl : (backTo pos (starEach es X.env)).any (·.1) = false := by rfl) :
    X1 rel X W (.Call (.Name x p) (e :: es) [] pos) (tCall (spG X.K rel cl n g) [] (EE cl W) tA) (dCall g fs) := by
  obtain ⟨f, fd, ps, F, hm, hk, hb, hl⟩ := G
  exact xCall an F hl (hr.mono hj) tk hg hm hk hb ha hdb he hpl
/-! walks -/
theorem iL (h : XV X W e te f) : XI X W tg e (iList X.K te) (dItL f) := ⟨pi_list h.pe, ij_list h.j⟩
theorem iT (h : XV X W e te f) : XI X W tg e (iTup X.K te) (dItT f) := ⟨pi_tup h.pe, ij_tup h.j⟩
theorem iR1 (hm : X.mg "range" = none) (h : XAR X W [a] tA fs) (hg : Gl X "range" := by rfl) (hs : starEach [a] X.env = [(false, eval a X.env)] := by rfl) : XI X W tg (.Call (.Name "range" p) [a] [] pos) (iRng1 tA) (dRng1 fs) := ⟨pi_range1 hg hm h.pe hs, ij_range1 h.j⟩
theorem iR2 (hm : X.mg "range" = none) (h : XAR X W [a, b] tA fs) (hg : Gl X "range" := by rfl) (hs : starEach [a, b] X.env = [(false, eval a X.env), (false, eval b X.env)] := by rfl) (hs2 : starEach [b] X.env = [(false, eval b X.env)] := by rfl) : XI X W tg (.Call (.Name "range" p) [a, b] [] pos) (iRng2 tA) (dRng2 fs) := ⟨pi_range2 hg hm h.pe hs hs2, ij_range2 h.j⟩
/-- reversed(xs), xs a list -/
def dItV (f : Env → Res D) : Env → Res (List D) := fun ρ => (f ρ).bind fun d => match d with
  | .list es => .ok es.reverse
  | _ => .stuck
theorem ij_rev {K : Frag} (h : ET K W te f) : IJ K W (RT.iRevA K te) (dItV f) := fun B ρ σ G H I R hQ =>
  i_bind (ta := te) h I hQ fun x d G1 H1 g1 r1 I1 q1 => by
    cases d with
    | list es =>
      unfold rlV Rep at r1
      obtain ⟨z, p, xs, rfl, h1, h2⟩ := r1
      have hs : SqL K G1 p xs := h1
      refine ⟨p, xs, rfl, .inl ⟨I1.gh.seq hs, ?_⟩⟩
      refine q1 (Itv K p xs.length) xs.length _ _ G1 H1 I1.gr walk_rev (by rw [List.length_reverse]; exact h2.len.symm) (by rw [← h2.len]; exact z) (fun H2 s => s.seq hs) fun i x G2 H2 H3 hi s1 s2 y => ?_
      obtain ⟨rfl, hx⟩ := y
      obtain ⟨d, hd, hr⟩ := h2.atV hx
      exact ⟨d, G2, by rw [List.getElem?_reverse (by rw [h2.len]; exact hi), h2.len]; exact hd, Gr.rfl' s2, Rep.mono s1 _ _ hr⟩
    | _ => exact q1.elim
theorem iRv (hm : X.mg "reversed" = none) (h : XV X W e te f) (hg : Gl X "reversed" := by rfl) (hs : starEach [e] X.env = (false, eval e X.env) :: starEach [] X.env := by rfl) : XI X W tg (.Call (.Name "reversed" p) [e] [] pos) (RT.iRevA X.K te) (dItV f) := ⟨RT.pi_revA hg hm h.pe hs, ij_rev h.j⟩
/-! list(range(..)) -/
def dLrg1 (f : Env → Res D) : Env → Res Ob := fun ρ => (f ρ).bind fun d => match d with
  | .int n => if rgOk n = true then .ok (.l (rgD 0 n.toNat)) else .stuck
  | _ => .stuck
theorem rep_rg {K : Frag} {G : Hp} {lo : Int} : ∀ (l : List Nat), RepL K G (l.map fun (i : Nat) => PyData.int (lo + (i : Int))) (l.map fun (i : Nat) => V.int (lo + (i : Int)))
  | [] => RepL.nil
  | i :: l => RepL.cons mk_int (rep_rg l)
theorem en_lrg1 {K : Frag} (h : ER K W te f) : EN K W (tLstRg (tRg1 te)) (dLrg1 f) := fun B ρ σ G H I Q hQ =>
  j_bind (ta := te) anti_N h I hQ fun x d G1 H1 g1 r1 I1 q1 => by
    cases d with
    | int n =>
      obtain rfl := rd_int r1
      by_cases c : rgOk n = true
      · simp only [c, if_true] at q1
        have c' := rgOk_iff.mp c
        refine ⟨n, rfl, ⟨by decide, by decide, by omega, by omega, by omega⟩, fun q hq => ?_⟩
        refine q1 _ _ _ (Gr.tmp I1.gh hq _) ⟨q, rfl, hq, own_new I1.gh hq (by rw [rgD_len, sizeLine_eq]; omega) ?_⟩
        unfold rgD rgV
        rw [Int.sub_zero]
        exact rep_rg _
      · simp only [c, if_false] at q1
        exact q1.elim
    | _ => exact q1.elim
theorem xLrg1 (hc : X.calm = true) (hm : X.mg "list" = none) (hm2 : X.mg "range" = none) (h : XR X W a ta fa) (hg : Gl X "list" := by rfl) (hg2 : Gl X "range" := by rfl) (na : starEach [a] X.env = (false, eval a X.env) :: starEach [] X.env := by rfl)
    (na2 : starEach [.Call (.Name "range" p2) [a] [] pos] X.env = (false, eval (.Call (.Name "range" p2) [a] [] pos) X.env) :: starEach [] X.env := by rfl) {pos' p' : Pos} :
    XN X W (.Call (.Name "list" p') [.Call (.Name "range" p2) [a] [] pos] [] pos') (tLstRg (tRg1 ta)) (dLrg1 fa) := ⟨pe_listRg hc hg hm (prg_1 hg2 hm2 h.pe na) na2, en_lrg1 h.j⟩
/-! sorted(xs) of data that can be compared -/
open PySem.W in
def sortOk (es : List D) : Bool := es.all (fun d => es.all fun e => alike d e) && (es.all (fun d => match d with | .tuple (_ :: _) => true | _ => false) || es.all (fun d => match d with | .none => false | .tuple _ => false | _ => true)) && es.all fun d => d.canLay0 && decide (d.depth ≤ 60)
open PySem.W in
def sortD (es : List D) : List D := es.mergeSort (dataLe false id)
def dSorted : List D → Option Ob
  | [.list es] => if sortOk es = true then some (.l (sortD es)) else none
  | _ => none
open PySem.W in
theorem sortOk_iff {es : List D} (h : sortOk es = true) : AllAlike es ∧ Sortable es ∧ ∀ d ∈ es, d.canLay0 = true ∧ d.depth ≤ 60 := by
  unfold sortOk at h
  simp only [Bool.and_eq_true, List.all_eq_true, Bool.or_eq_true, decide_eq_true_eq] at h
  obtain ⟨⟨h1, h2⟩, h3⟩ := h
  refine ⟨fun d hd e he => h1 d hd e he, ?_, h3⟩
  rcases h2 with h2 | h2
  · refine .inl fun d hd => ?_
    have q := h2 d hd
    split at q
    · exact ⟨_, _, rfl⟩
    · cases q
  · refine .inr fun d hd => ?_
    have q := h2 d hd
    refine ⟨?_, ?_⟩
    · intro e; subst e; cases q
    · intro xs e; subst e; cases q
theorem vals_each : ∀ {R : Value → D → Prop} {out : List Value} {ds : List D}, PySem.W.EachIs R out ds → (∀ v d, R v d → ∃ x, RelV x v) → ∃ vs, Vals vs out
  | _, _, _, .nil, _ => ⟨[], .nil⟩
  | _, _, _, .cons h t, k => by
    obtain ⟨x, hx⟩ := k _ _ h
    obtain ⟨vs, hv⟩ := vals_each t k
    exact ⟨x :: vs, .cons hx hv⟩
/-- the value v is x, which is the data d in G -/
def RVD (K : Frag) (G : Hp) (v : Value) (d : D) : Prop := ∃ x, RelV x v ∧ Rep K G d x
theorem each_of : ∀ {K : Frag} {G : Hp} {vs : List V} {us : List Value} {ds : List D}, Vals vs us → RepL K G ds vs → PySem.W.EachIs (RVD K G) us ds
  | _, _, [], _, ds, .nil, r => by
    cases ds with
    | nil => exact .nil
    | cons d ds => have := r.len; simp at this
  | _, _, v :: vs, _, ds, .cons h t, r => by
    cases ds with
    | nil => have := r.len; simp at this
    | cons d ds =>
      rw [repL_cons] at r
      exact .cons ⟨v, h, r.1⟩ (each_of t r.2)
theorem of_each : ∀ {K : Frag} {G : Hp} {us : List Value} {ds : List D}, PySem.W.EachIs (RVD K G) us ds → ∃ vs, Vals vs us ∧ RepL K G ds vs
  | _, _, _, _, .nil => ⟨[], .nil, RepL.nil⟩
  | _, _, _, _, .cons ⟨x, h1, h2⟩ t => by
    obtain ⟨vs, a, b⟩ := of_each t
    exact ⟨x :: vs, .cons h1 a, RepL.cons h2 b⟩
/-- sorted(xs), by data -/
def rSortedD (K : Frag) : List V → Hp → VK → Prop := fun xs H Q => ∃ (G : Hp) (a : Addr) (vs : List V) (es : List D), xs = [.ref a] ∧ Same G H ∧ SqL K H a vs ∧ RepL K G es vs ∧ sortOk es = true ∧ es.length ≤ sizeLine ∧ ∀ p us, H p = none → RepL K G (sortD es) us → Q (.ref p) (upd H p (.lst us))
theorem call_sortedD (hu : X.A.units + 64 < cLine) : CallR X (.builtin "sorted") (rSortedD X.K) := by
  intro pins s σ H xs us Q I r h
  obtain ⟨G, a, vs, es, rfl, sm, hs, hr, ho, hz, q⟩ := h
  obtain ⟨its, rv, hl, _⟩ := I.list hs
  rw [Vals.ref1 r]
  obtain ⟨h1, h2, h3⟩ := sortOk_iff ho
  have e := each_of rv hr
  have er : PySem.W.EachIs (fun v d => ∃ as, Reads s.heap v (id d) as) its es := by
    have e2 : PySem.W.EachIs (fun v d => RVD X.K G v d ∧ d ∈ es) its es := PySem.W.each_mem e
    exact e2.mono fun v d ⟨⟨x, hx, hd⟩, hm⟩ => Dp.reads I d x v (Dp.mono sm (Rep.dp d x (h3 d hm).1 hd)) hx
  refine PySem.W.sorted_data (enc := id) (R := RVD X.K G) hl.isList e er (by rw [List.map_id]; exact h1) (by rw [List.map_id]; exact h2) hz (fun d hd => by have := (h3 d hd).2; show X.A.units + 2 + d.depth < cLine; omega) fun out hlen hout => ?_
  obtain ⟨ep, he'⟩ := PyProof.Rows.sortedAll_at s.heap its out.toArray
  obtain ⟨us', hv, hr'⟩ := of_each hout
  have hlen : us'.length ≤ sizeLine := by rw [hv.length, hlen]; exact hz
  exact ⟨.ref _, upd H (s.heap.objs.size + 1) (.lst us'), I.laid (t' := s.toks) (fun _ _ => PyProof.Rows.sortedAll_old) (Nat.le_succ _) ⟨hlen, out, ep, hv, by simpa using he'⟩, rfl, q _ us' (I.hok.fresh (Nat.le_succ _)) hr'⟩
theorem dr_sorted {K : Frag} : DRC K (rlN K) (rSortedD K) dSorted := fun G H xs ds s rx Q hQ => by
  unfold dSorted at hQ
  split at hQ
  · rename_i es
    obtain ⟨v, rfl, r⟩ := one_read rx
    obtain ⟨z, p, vs, rfl, hp, rp⟩ := rd_list s r
    by_cases c : sortOk es = true
    · rw [if_pos c] at hQ
      refine ⟨G, p, vs, es, rfl, s, hp, rp, c, z, fun l us hl hus => ?_⟩
      exact hQ _ _ _ (Gr.tmp s hl _) ⟨l, rfl, hl, own_new s hl (by unfold sortD; rw [List.length_mergeSort]; exact z) hus⟩
    · rw [if_neg c] at hQ; exact hQ.elim
  · exact hQ.elim
end
end PD

set_option Elab.async false
set_option linter.all false
set_option maxRecDepth 100000
/-! The data layer, 11: dicts, least and greatest, counts. -/
namespace PD
open PySem PySem.Spec PyProof.Rows L2
/-! ### whole numbers of a list -/
def intsOf : List D → Option (List Int)
  | [] => some []
  | .int i :: r => (intsOf r).map (i :: ·)
  | _ => none
theorem intsOf_eq : ∀ {ds : List D} {ns : List Int}, intsOf ds = some ns → ds = ns.map PyData.int
  | [], ns, h => by cases h; rfl
  | .int i :: r, ns, h => by
    unfold intsOf at h
    cases e : intsOf r with
    | none => rw [e] at h; cases h
    | some ms =>
      rw [e] at h
      cases h
      rw [intsOf_eq e]
      rfl
  | .none :: r, ns, h => by cases h
  | .bool _ :: r, ns, h => by cases h
  | .str _ :: r, ns, h => by cases h
  | .list _ :: r, ns, h => by cases h
  | .tuple _ :: r, ns, h => by cases h
  | .dict _ :: r, ns, h => by cases h
theorem intsOf_map (ns : List Int) : intsOf (ns.map PyData.int) = some ns := by
  induction ns with
  | nil => rfl
  | cons n ns ih => simp [intsOf, ih]
def maxI : List Int → Int
  | [] => 0
  | x :: r => r.foldl max x
def minI : List Int → Int
  | [] => 0
  | x :: r => r.foldl min x
theorem foldl_max (r : List Int) : ∀ x : Int, x ≤ r.foldl max x ∧ (∀ y ∈ r, y ≤ r.foldl max x) ∧ (r.foldl max x = x ∨ r.foldl max x ∈ r) := by
  induction r with
  | nil => intro x; exact ⟨Int.le_refl _, by simp, .inl rfl⟩
  | cons a r ih =>
    intro x
    obtain ⟨h1, h2, h3⟩ := ih (max x a)
    rw [List.foldl_cons]
    refine ⟨Int.le_trans (Int.le_max_left _ _) h1, fun y hy => ?_, ?_⟩
    · rcases List.mem_cons.mp hy with rfl | hy
      · exact Int.le_trans (Int.le_max_right _ _) h1
      · exact h2 y hy
    · rcases h3 with h3 | h3
      · rw [h3]
        rcases Int.le_total x a with q | q
        · rw [Int.max_eq_right q]; exact .inr List.mem_cons_self
        · rw [Int.max_eq_left q]; exact .inl rfl
      · exact .inr (List.mem_cons_of_mem _ h3)
theorem foldl_min (r : List Int) : ∀ x : Int, r.foldl min x ≤ x ∧ (∀ y ∈ r, r.foldl min x ≤ y) ∧ (r.foldl min x = x ∨ r.foldl min x ∈ r) := by
  induction r with
  | nil => intro x; exact ⟨Int.le_refl _, by simp, .inl rfl⟩
  | cons a r ih =>
    intro x
    obtain ⟨h1, h2, h3⟩ := ih (min x a)
    rw [List.foldl_cons]
    refine ⟨Int.le_trans h1 (Int.min_le_left _ _), fun y hy => ?_, ?_⟩
    · rcases List.mem_cons.mp hy with rfl | hy
      · exact Int.le_trans h1 (Int.min_le_right _ _)
      · exact h2 y hy
    · rcases h3 with h3 | h3
      · rw [h3]
        rcases Int.le_total x a with q | q
        · rw [Int.min_eq_left q]; exact .inl rfl
        · rw [Int.min_eq_right q]; exact .inr List.mem_cons_self
      · exact .inr (List.mem_cons_of_mem _ h3)
theorem maxI_spec {ns : List Int} (h : ns ≠ []) : maxI ns ∈ ns ∧ ∀ y ∈ ns, y ≤ maxI ns := by
  cases ns with
  | nil => exact absurd rfl h
  | cons x r =>
    obtain ⟨h1, h2, h3⟩ := foldl_max r x
    refine ⟨?_, fun y hy => ?_⟩
    · show r.foldl max x ∈ _
      rcases h3 with h3 | h3
      · rw [h3]; exact List.mem_cons_self
      · exact List.mem_cons_of_mem _ h3
    · rcases List.mem_cons.mp hy with rfl | hy
      · exact h1
      · exact h2 y hy
theorem minI_spec {ns : List Int} (h : ns ≠ []) : minI ns ∈ ns ∧ ∀ y ∈ ns, minI ns ≤ y := by
  cases ns with
  | nil => exact absurd rfl h
  | cons x r =>
    obtain ⟨h1, h2, h3⟩ := foldl_min r x
    refine ⟨?_, fun y hy => ?_⟩
    · show r.foldl min x ∈ _
      rcases h3 with h3 | h3
      · rw [h3]; exact List.mem_cons_self
      · exact List.mem_cons_of_mem _ h3
    · rcases List.mem_cons.mp hy with rfl | hy
      · exact h1
      · exact h2 y hy
theorem maxI_eq {ns : List Int} {m : Int} (h1 : m ∈ ns) (h2 : ∀ y ∈ ns, y ≤ m) : m = maxI ns := by
  have hn : ns ≠ [] := fun e => by subst e; cases h1
  obtain ⟨a, b⟩ := maxI_spec hn
  exact Int.le_antisymm (b m h1) (h2 _ a)
theorem minI_eq {ns : List Int} {m : Int} (h1 : m ∈ ns) (h2 : ∀ y ∈ ns, m ≤ y) : m = minI ns := by
  have hn : ns ≠ [] := fun e => by subst e; cases h1
  obtain ⟨a, b⟩ := minI_spec hn
  exact Int.le_antisymm (h2 _ a) (b m h1)
/-! ### tables -/
def keyOf : D → Option Key
  | .int i => some (.inl i)
  | .str x => some (.inr x)
  | _ => none
theorem keyOf_V {K : Frag} {Ha G H : Hp} {d : D} {k : Key} {v : V} (h : keyOf d = some k) (r : rlR K Ha G H d v) : v = kV k ∧ d = keyD k := by
  cases d <;> simp only [keyOf] at h <;> cases h
  · exact ⟨rd_int r, rfl⟩
  · exact ⟨rd_str r, rfl⟩
theorem keyOf_keyD (k : Key) : keyOf (keyD k) = some k := by cases k <;> rfl
/-- what stands at a key -/
def lookK (es : List (D × D)) (k : Key) : Option D := (es.find? fun p => decide (keyOf p.1 = some k)).map (·.2)
theorem lookK_rep {K : Frag} {G : Hp} {k : Key} : ∀ {es : List (D × D)} {kvs : List (Key × V)}, RepK K G es kvs → match lookK es k with
    | some d => ∃ v, valV kvs k = some v ∧ Rep K G d v
    | none => valV kvs k = none
  | [], kvs, h => by
    unfold RepK at h
    subst h
    rfl
  | (q, d) :: es, kvs, h => by
    unfold RepK at h
    obtain ⟨k', v, r, rfl, rfl, h1, h2⟩ := h
    have ih := lookK_rep (k := k) h2
    unfold lookK
    rw [List.find?_cons]
    by_cases e : k' = k
    · subst e
      rw [keyOf_keyD]
      simp only [decide_true, Option.map_some]
      exact ⟨v, valV_pos rfl, h1⟩
    · have : decide (keyOf (keyD k') = some k) = false := by rw [keyOf_keyD]; exact decide_eq_false fun z => e (Option.some.inj z)
      rw [this]
      rw [valV_neg (p := (k', v)) e]
      exact ih
theorem rd_dict {K : Frag} {Ha G H : Hp} {es : List (D × D)} {v : V} (s : Same G H) (h : rlR K Ha G H (.dict es) v) : ∃ a kvs, v = .ref a ∧ Rd H a (.dK kvs) ∧ RepK K G es kvs := by
  rcases h with h | ⟨p, o, rfl, ⟨_, ho, h2, h3⟩, e⟩
  · unfold Rep at h
    obtain ⟨a, kvs, rfl, h1, h2⟩ := h
    exact ⟨a, kvs, rfl, Same.rd s h1, h2⟩
  · cases o with
    | l _ => cases e
    | d es =>
      obtain ⟨kvs, rfl, h4, _⟩ := h3
      cases e
      exact ⟨p, kvs, rfl, .inl h2, h4⟩
section
variable {K : Frag} {W : Str → Hp → Prop} {te td : TE} {f fd : Env → Res D}
/-- k in d -/
def dInD (neg : Bool) (fk fd : Env → Res D) : Env → Res D := fun ρ => (fk ρ).bind fun k => (fd ρ).bind fun d => match keyOf k, d with
  | some k, .dict es => .ok (.bool (if neg then !(lookK es k).isSome else (lookK es k).isSome))
  | _, _ => .stuck
theorem look_bool {K : Frag} {G : Hp} {k : Key} {es : List (D × D)} {kvs : List (Key × V)} (r : RepK K G es kvs) : (valV kvs k).isSome = (lookK es k).isSome := by
  have q := lookK_rep (k := k) r
  cases e : lookK es k with
  | none => rw [e] at q; rw [show valV kvs k = none from q]; rfl
  | some d => rw [e] at q; obtain ⟨v, h, _⟩ := q; rw [h]; rfl
theorem et_inD (a : ER K W te f) (b : ER K W td fd) : ET K W (tDIn te td) (dInD false f fd) := fun B ρ σ G H I Q hQ =>
  j_bind (ta := te) anti_V a I hQ fun x d G1 H1 g1 r1 I1 q1 => j_bind (ta := td) anti_V b I1 q1 fun y e G2 H2 g2 r2 I2 q2 => by
    split at q2
    · rename_i k es hk
      obtain ⟨rfl, _⟩ := keyOf_V hk r1
      obtain ⟨p, kvs, rfl, h1, h2⟩ := rd_dict I2.gh r2
      exact ⟨p, valV kvs k, rfl, .inl ⟨kvs, k, h1, rfl, rfl⟩, by rw [look_bool h2]; exact q2 _ G2 H2 I2.gr mk_bool⟩
    · exact q2.elim
theorem et_notInD (a : ER K W te f) (b : ER K W td fd) : ET K W (tDNotIn te td) (dInD true f fd) := fun B ρ σ G H I Q hQ =>
  j_bind (ta := te) anti_V a I hQ fun x d G1 H1 g1 r1 I1 q1 => j_bind (ta := td) anti_V b I1 q1 fun y e G2 H2 g2 r2 I2 q2 => by
    split at q2
    · rename_i k es hk
      obtain ⟨rfl, _⟩ := keyOf_V hk r1
      obtain ⟨p, kvs, rfl, h1, h2⟩ := rd_dict I2.gh r2
      exact ⟨p, valV kvs k, rfl, .inl ⟨kvs, k, h1, rfl, rfl⟩, by rw [look_bool h2]; exact q2 _ G2 H2 I2.gr mk_bool⟩
    · exact q2.elim
/-- d[k] -/
def dGetD (fd fk : Env → Res D) : Env → Res D := fun ρ => (fd ρ).bind fun d => (fk ρ).bind fun k => match keyOf k, d with
  | some k, .dict es => match lookK es k with
    | some x => .ok x
    | none => .stuck
  | _, _ => .stuck
theorem et_getD (a : ER K W td fd) (b : ER K W te f) : ET K W (tDGet td te) (dGetD fd f) := fun B ρ σ G H I Q hQ =>
  j_bind (ta := td) anti_V a I hQ fun x d G1 H1 g1 r1 I1 q1 => j_bind (ta := te) anti_V b I1 q1 fun y e G2 H2 g2 r2 I2 q2 => by
    split at q2
    · rename_i k es hk
      obtain ⟨rfl, _⟩ := keyOf_V hk r2
      obtain ⟨p, kvs, rfl, h1, h2⟩ := rd_dict I2.gh (rlR.grow (Hb := H2) g2 r1)
      have q := lookK_rep (k := k) h2
      cases e : lookK es k with
      | none => simp only [e] at q2; exact q2.elim
      | some z =>
        simp only [e] at q q2
        obtain ⟨v, hv, hr⟩ := q
        exact ⟨p, v, rfl, .inl ⟨kvs, k, h1, rfl, hv.symm⟩, q2 v G2 H2 I2.gr hr⟩
    · exact q2.elim
/-- {} -/
def dNewD : Env → Res Ob := fun _ => .ok (.d [])
theorem en_newD : EN K W tDNewK dNewD := fun B ρ σ G H I Q hQ p hp => hQ _ _ _ (Gr.tmp I.gh hp _) ⟨p, rfl, hp, L2.Same.free I.gh hp, .dK [], upd_same, [], rfl, by unfold RepK; rfl, rfl⟩
/-! a key gets a value -/
def putD (es : List (Key × D)) (k : Key) (d : D) : List (Key × D) := if (es.any fun e => decide (e.1 = k)) = true then es.map (fun e => if e.1 = k then (e.1, d) else e) else es ++ [(k, d)]
def owD (ρ : Env) (i : Nat) : Option (List (Key × D)) := match ρ[i]? with
  | some (.ow (.d es)) => some es
  | some (.pm (.d es)) => some es
  | _ => none
def putOD (ρ : Env) (i : Nat) (es : List (Key × D)) : Env := match ρ[i]? with
  | some (.ow _) => ρ.set i (.ow (.d es))
  | some (.pm _) => ρ.set i (.pm (.d es))
  | _ => ρ
theorem repKD_nil {K : Frag} {G : Hp} : RepKD K G [] [] := ⟨by show RepK K G [] []; unfold RepK; rfl, rfl⟩
theorem repKD_cons {K : Frag} {G : Hp} {p : Key × D} {es : List (Key × D)} {q : Key × V} {kvs : List (Key × V)} : RepKD K G (p :: es) (q :: kvs) ↔ p.1 = q.1 ∧ Rep K G p.2 q.2 ∧ RepKD K G es kvs := by
  unfold RepKD
  rw [List.map_cons, List.map_cons, List.map_cons]
  constructor
  · rintro ⟨h, e⟩
    unfold RepK at h
    obtain ⟨k', v, r, hq, hk, h1, h2⟩ := h
    cases hq
    exact ⟨(List.cons.inj e).1, h1, h2, (List.cons.inj e).2⟩
  · rintro ⟨h1, h2, h3, h4⟩
    refine ⟨?_, by rw [h1, h4]⟩
    unfold RepK
    exact ⟨q.1, q.2, kvs, rfl, by rw [h1], h2, h3⟩
theorem repKD_len {K : Frag} {G : Hp} {es : List (Key × D)} {kvs : List (Key × V)} (h : RepKD K G es kvs) : es.length = kvs.length := by
  have := congrArg List.length h.2
  simpa using this
theorem repKD_any {K : Frag} {G : Hp} {k : Key} {es : List (Key × D)} {kvs : List (Key × V)} (h : RepKD K G es kvs) : (es.any fun e => decide (e.1 = k)) = kvs.any fun e => decide (e.1 = k) := by
  have e1 : (es.any fun e => decide (e.1 = k)) = (es.map (·.1)).any fun x => decide (x = k) := by rw [List.any_map]; rfl
  have e2 : (kvs.any fun e => decide (e.1 = k)) = (kvs.map (·.1)).any fun x => decide (x = k) := by rw [List.any_map]; rfl
  rw [e1, e2, h.2]
theorem repKD_app {K : Frag} {G : Hp} {k : Key} {d : D} {v : V} (hd : Rep K G d v) : ∀ {es : List (Key × D)} {kvs : List (Key × V)}, RepKD K G es kvs → RepKD K G (es ++ [(k, d)]) (kvs ++ [(k, v)])
  | [], [], _ => repKD_cons.mpr ⟨rfl, hd, repKD_nil⟩
  | [], _ :: _, h => by have := repKD_len h; simp at this
  | _ :: _, [], h => by have := repKD_len h; simp at this
  | p :: es, q :: kvs, h => by
    obtain ⟨h1, h2, h3⟩ := repKD_cons.mp h
    exact repKD_cons.mpr ⟨h1, h2, repKD_app hd h3⟩
theorem repKD_map {K : Frag} {G : Hp} {k : Key} {d : D} {v : V} (hd : Rep K G d v) : ∀ {es : List (Key × D)} {kvs : List (Key × V)}, RepKD K G es kvs → RepKD K G (es.map fun e => if e.1 = k then (e.1, d) else e) (kvs.map fun e => if e.1 = k then (e.1, v) else e)
  | [], [], _ => repKD_nil
  | [], _ :: _, h => by have := repKD_len h; simp at this
  | _ :: _, [], h => by have := repKD_len h; simp at this
  | p :: es, q :: kvs, h => by
    obtain ⟨h1, h2, h3⟩ := repKD_cons.mp h
    rw [List.map_cons, List.map_cons]
    refine repKD_cons.mpr ?_
    by_cases e : p.1 = k
    · rw [if_pos e, if_pos (h1 ▸ e)]
      exact ⟨h1, hd, repKD_map hd h3⟩
    · rw [if_neg e, if_neg (fun z => e (h1 ▸ z))]
      exact ⟨h1, h2, repKD_map hd h3⟩
theorem repKD_put {K : Frag} {G : Hp} {k : Key} {d : D} {v : V} {es : List (Key × D)} {kvs : List (Key × V)} (h : RepKD K G es kvs) (hd : Rep K G d v) : RepKD K G (putD es k d) (putK kvs k v) := by
  unfold putD putK
  rw [repKD_any h]
  split
  · exact repKD_map hd h
  · exact repKD_app hd h
theorem owD_at {B : Bs} {ρ : Env} {σ : Sl} {G H : Hp} (I : DInv K B ρ σ G H) {i : Nat} {es : List (Key × D)} (h : owD ρ i = some es) : ∃ p kvs, σ[i]? = some (some (.ref p)) ∧ H p = some (.dK kvs) ∧ RepKD K G es kvs ∧
    ∀ es' kvs', RepKD K G es' kvs' → DInv K B (putOD ρ i es') σ G (upd H p (.dK kvs')) := by
  unfold owD at h
  split at h
  · rename_i es0 e
    cases h
    obtain ⟨p, h1, h2, ho, h3, kvs, rfl, h4⟩ := I.ent i _ e
    refine ⟨p, kvs, h1, h3, h4, fun es' kvs' r => ?_⟩
    have q := I.mut (o' := .d es') (ho' := .dK kvs') e rfl h1 ⟨kvs', rfl, r⟩
    unfold putOD
    rw [e]
    exact q
  · rename_i es0 e
    cases h
    obtain ⟨p, h1, h2, ho, h3, kvs, rfl, h4⟩ := I.ent i _ e
    refine ⟨p, kvs, h1, h3, h4, fun es' kvs' r => ?_⟩
    have q := I.mut (o' := .d es') (ho' := .dK kvs') e rfl h1 ⟨kvs', rfl, r⟩
    unfold putOD
    rw [e]
    exact q
  · cases h
/-- d[k] = v -/
def dPutD (i : Nat) (fk fv : Env → Res D) : Env → Out := fun ρ => match owD ρ i with
  | some es => (fv ρ).bindS fun d => (fk ρ).bindS fun k => match keyOf k with
    | some k => if es.length < sizeLine then .nx (putOD ρ i (putD es k d)) else .stuck
    | none => .stuck
  | none => .stuck
theorem st_putD {tv : TE} {i : Nat} {fv : Env → Res D} (a : ET K W tv fv) (b : ER K W te f) : ST K W (sDPut (tVar i) te tv) (dPutD i f fv) := fun B ρ σ G H I Dn hQ => by
  unfold dPutD at hQ
  cases e : owD ρ i with
  | none => rw [e] at hQ; exact hQ.elim
  | some es =>
    rw [e] at hQ
    refine s_bind (ta := tv) a I hQ fun x d G1 H1 g1 r1 I1 q1 => ?_
    obtain ⟨p, kvs, h1, h2, h3, h4⟩ := owD_at I1 e
    refine ⟨.ref p, h1, ?_⟩
    refine s_bind (ta := te) b I1 q1 fun y k G2 H2 g2 r2 I2 q2 => ?_
    obtain ⟨p', kvs', h1', h2', h3', h4'⟩ := owD_at I2 e
    rw [h1] at h1'; cases h1'
    cases hk : keyOf k with
    | none => simp only [hk] at q2; exact q2.elim
    | some k' =>
      simp only [hk] at q2
      obtain ⟨rfl, _⟩ := keyOf_V hk r2
      by_cases hl : es.length < sizeLine
      · simp only [hl, if_true] at q2
        exact ⟨p, _, rfl, DPut.k (k := k') h2' (by rw [← repKD_len h3']; exact hl), q2 σ G2 _ (h4' _ _ (repKD_put h3' (Rep.mono g2.gg _ _ r1))) (L2.Same.refl _)⟩
      · simp only [hl, if_false] at q2; exact q2.elim
end
section
variable {X : Cx} {W : Str → Hp → Prop} {e a b o : Expr} {te ta td tv : TE} {f fa fd fv : Env → Res D} {pos p p2 p3 : Pos}
theorem xInD (hu : X.A.units + 1 < cLine) (ha : XR X W a ta fa) (hd : XR X W o td fd) (h1 : behindInMarks .In o = false := by rfl) : XV X W (.Compare a [.In] [o] pos) (tDIn ta td) (dInD false fa fd) := ⟨pe_cmp (pc_din hu ha.pe hd.pe) h1, et_inD ha.j hd.j⟩
theorem tInD (hu : X.A.units + 1 < cLine) (ha : XR X W a ta fa) (hd : XR X W o td fd) (h1 : behindInMarks .In o = false := by rfl) : XT X W (.Compare a [.In] [o] pos) (tB (tDIn ta td)) (dTest (dInD false fa fd)) := ⟨pt_cmp (pc_din hu ha.pe hd.pe) h1, eb_B (ET.r (et_inD ha.j hd.j))⟩
theorem xNotInD (hu : X.A.units + 1 < cLine) (ha : XR X W a ta fa) (hd : XR X W o td fd) (h1 : behindInMarks .NotIn o = false := by rfl) : XV X W (.Compare a [.NotIn] [o] pos) (tDNotIn ta td) (dInD true fa fd) := ⟨pe_cmp (pc_dnotin hu ha.pe hd.pe) h1, et_notInD ha.j hd.j⟩
theorem tNotInD (hu : X.A.units + 1 < cLine) (ha : XR X W a ta fa) (hd : XR X W o td fd) (h1 : behindInMarks .NotIn o = false := by rfl) : XT X W (.Compare a [.NotIn] [o] pos) (tB (tDNotIn ta td)) (dTest (dInD true fa fd)) := ⟨pt_cmp (pc_dnotin hu ha.pe hd.pe) h1, eb_B (ET.r (et_notInD ha.j hd.j))⟩
theorem xGetD (hu : X.A.units + 1 < cLine) (ho : XR X W o td fd) (hi : XR X W a ta fa) (hs : NoSl a) : XV X W (.Subscript o a pos) (tDGet td ta) (dGetD fd fa) := ⟨pe_dget hu ho.pe hi.pe hs, et_getD ho.j hi.j⟩
theorem xNewD : XN X W (.Dict [] [] pos) tDNewK dNewD := ⟨pe_dnewK, en_newD⟩
theorem sPutD (i : Nat) {x : Str} (hu : X.A.units + 1 < cLine) (hv : XV X W e tv fv) (hi : XR X W a ta fa) (hN : X.N[i]? = some x := by rfl) (hvis : Vis X.env.scope x := by first | exact Or.inl rfl | exact Or.inr (Or.inl rfl) | exact Or.inr (Or.inr rfl)) (hd : (x == ("__debug__" : Str)) = false := by decide)
    (hcd : (x == ("__classdict__" : Str)) = false := by decide) (hs : swapsWith e (some (.Subscript (.Name x p2) a p3)) pos.line X.env = pure false := by rfl) : XS X W (.Assign [.Subscript (.Name x p2) a p3] e pos) (sDPut (tVar i) ta tv) (dPutD i fa fv) :=
  ⟨ps_dput hu (pe_var hN hvis hd hcd) hi.pe hv.pe hs, st_putD hv.j hi.j⟩
end
/-! ### the greatest key of a dict -/
theorem max_keys {P : Program} {w : World} {A : Around} {E : Value → Shared → Prop} {s : Shared} {d : Addr} {es : Array DictEntry} {ep : Nat} {ns : List Int} {Q : Value → Shared → Prop} (hh : A.handled = none) (hdm : (d == sysModules) = false) (hm : s.heap.DictRaw d es ep)
    (hk : ∀ i (hi : i < es.size), ∃ t, es[i].key = .int (ns.getD i 0) t) (hn : es.size = ns.length) (h0 : 0 < ns.length)
    (h : ∀ h' tk m t, (∀ b o, s.heap.get? b = some o → h'.get? b = some o) → m ∈ ns → (∀ y ∈ ns, y ≤ m) → Q (.int m t) { s with heap := h', toks := tk }) : wpAny (model P w) A (call (.builtin "max") [.ref d]) Q E s := by
  have hlt : d < s.heap.objs.size := by obtain ⟨_, e, _⟩ := hm; exact Heap.lt_size e
  refine call_max_walk (wpAny_pyIter_dict_raw hdm hm ?_)
  refine ⟨s.heap.objs.size, [s.heap.objs.size, d], [s.heap.objs.size], es.size, _, _, fun i j => decide (ns.getD i 0 > ns.getD j 0), rfl, Walks.rawKeys (A := A.in1) hh _ d (Nat.ne_of_lt hlt) es ep, ?_, fun b hb => ?_, by rw [hn]; exact h0, CmpOf.ints_gt (fun i => ns.getD i 0) (fun i v ⟨hi, e⟩ => by rw [e]; exact hk i hi), fun v h' tk hP hkp => ?_⟩
  · exact ⟨⟨_, Heap.get?_push_size _ rfl, rfl, rfl⟩, hm.at fun o e => Heap.get?_push_of_some _ e⟩
  · show b < (s.heap.push _).objs.size
    rw [Heap.size_push]
    rcases List.mem_cons.mp hb with rfl | hb
    · exact Nat.lt_succ_self _
    · rcases List.mem_cons.mp hb with rfl | hb
      · exact Nat.lt_succ_of_lt hlt
      · cases hb
  · obtain ⟨hi, rfl⟩ := hP
    obtain ⟨t, ht⟩ := hk _ hi
    rw [ht]
    obtain ⟨h1, h2⟩ := argBest_gt (fun i => ns.getD i 0) (es.size - 1)
    refine h h' tk _ t (fun b o e => hkp b o (fun hm => ?_) (Heap.get?_push_of_some _ e)) ?_ fun y hy => ?_
    · rcases List.mem_cons.mp hm with e1 | hm
      · exact absurd (e1 ▸ Heap.lt_size e) (Nat.lt_irrefl _)
      · cases hm
    · exact PySem.getD_mem (by rw [← hn]; exact hi)
    · obtain ⟨j, hj, rfl⟩ := mem_getD hy
      exact h2 j (by omega)
theorem paired_at {α β : Type} {F : α → β → Prop} : ∀ {xs : List α} {ys : List β}, Paired F xs ys → ∀ {i : Nat} {x : α}, xs[i]? = some x → ∃ y, ys[i]? = some y ∧ F x y
  | _, _, .nil, _, _, h => by simp at h
  | _, _, .cons h _, 0, _, e => by simp at e; subst e; exact ⟨_, rfl, h⟩
  | _, _, .cons _ t, i + 1, _, e => by
    obtain ⟨y, h1, h2⟩ := paired_at t (i := i) (by simpa using e)
    exact ⟨y, by simpa using h1, h2⟩
def rMaxD : List V → Hp → VK → Prop := fun xs H Q => ∃ (a : Addr) (kvs : List (Key × V)) (ns : List Int), xs = [.ref a] ∧ Rd H a (.dK kvs) ∧ kvs.map (·.1) = ns.map Sum.inl ∧ ns ≠ [] ∧ Q (.int (maxI ns)) H
theorem call_maxD {X : Cx} (hc : X.calm = true) : CallR X (.builtin "max") rMaxD := by
  intro pins s σ H xs us Q I r h
  obtain ⟨a, kvs, ns, rfl, hd, hk, hn, q⟩ := h
  rw [Vals.ref1 r]
  obtain ⟨hz, hs, vs, kv, hm⟩ := dk_rd I.hok hd
  obtain ⟨es, ep, raw, hsz, hent⟩ := hm.raw
  have hl : vs.length = ns.length := by
    have := congrArg List.length hk
    simp only [List.length_map] at this
    rw [← Paired.length kv, this]
  refine max_keys (ns := ns) (I.ok.hd hc) hs raw (fun i hi => ?_) (hsz.trans hl) (List.length_pos_iff.mpr hn) fun h' tk m t k h1 h2 => ?_
  · have hi2 : i < kvs.length := by rw [Paired.length kv, ← hsz]; exact hi
    have hi3 : i < vs.length := by rw [← hsz]; exact hi
    obtain ⟨e1, _⟩ := hent i hi vs[i].1 vs[i].2 (by rw [List.getElem?_eq_getElem hi3])
    have e2 : kvs[i].1 = Sum.inl (ns.getD i 0) := by
      have e3 : (kvs.map (·.1))[i]? = (ns.map Sum.inl)[i]? := by rw [hk]
      rw [List.getElem?_map, List.getElem?_map, List.getElem?_eq_getElem hi2, List.getElem?_eq_getElem (by rw [← hl]; exact hi3)] at e3
      simp only [Option.map_some, Option.some.injEq] at e3
      rw [e3, List.getD_eq_getElem?_getD, List.getElem?_eq_getElem (by rw [← hl]; exact hi3)]
      rfl
    have e4 : vs[i].1 = kvs[i].1 := by
      obtain ⟨q', h3, h4⟩ := paired_at kv (List.getElem?_eq_getElem hi2)
      rw [List.getElem?_eq_getElem hi3] at h3
      cases h3
      exact h4.1.symm
    rw [e4, e2] at e1
    obtain ⟨t, ht⟩ := Value.isInt_shape (show Value.isInt (ns.getD i 0) es[i].key = true from e1)
    exact ⟨t, ht⟩
  · rw [maxI_eq h1 h2]
    exact ⟨.int (maxI ns), H, I.kept k, ⟨_, rfl⟩, q⟩
end PD

set_option Elab.async false
set_option linter.all false
set_option maxRecDepth 100000
/-! The data layer, 12: the rest of the words. -/
namespace PD
open PySem PySem.Spec PyProof.Rows L2
section
variable {X : Cx} {W : Str → Hp → Prop} {e a b o c : Expr} {es : List Expr} {ss : List Stmt} {te ta tb td tv : TE} {tt : TT} {tA : TA} {ts : TS} {f fa fb fd fv : Env → Res D} {fo : Env → Res Ob} {ft : Env → Res Bool} {fs : Env → Res (List D)} {F : Env → Out} {pos p p2 p3 : Pos}
theorem sl_any : SlR X (rSlAny X.K) := sl_list.or (sl_tupA.or sl_str)
theorem ssForget (js : List Nat) (h : XSs X W ss ts F) : XSs X W ss ts (dForget js F) := ⟨h.ps, st_forget h.j⟩
/-- name = [..] on one line -/
theorem sNewLc (i : Nat) {y : Str} {py : Pos} {elt tg iter : Expr} {ifs : List Expr} {scope : Scope} {own : List (Str × Nat)} {pos spos : Pos} {wi : TI} {g : TG} {js : List Nat} {h : D → Env → Option Env} {src : Env → Res (List D)} (hc : X.calm = true) (hN : X.N.Nodup) (hi : XI X W tg iter wi src) (ok : BlkOk X.N X.env.scope scope own)
    (hg : ∀ (s : Shared) (H : Hp) (C : Addr) (cl : List (Str × Addr)) (fp : List Addr), XG (X.blk s H scope (compEnvC scope cl C X.env) fp) js tg g h)
    (ht : ∀ (s : Shared) (H : Hp) (C : Addr) (cl : List (Str × Addr)) (fp : List Addr), PTs (X.blk s H scope (compEnvC scope cl C X.env) fp) ifs tt ∧ EB X.K W0 tt ft)
    (he : ∀ (s : Shared) (H : Hp) (C : Addr) (cl : List (Str × Addr)) (fp : List Addr), XV (X.blk s H scope (compEnvC scope cl C X.env) fp) W0 elt te f) (hjs : ∀ j ∈ js, j ∈ own.map (·.2)) 
    (hsw : swapsWith (.ListComp elt [⟨tg, iter, ifs, 0⟩] scope pos) (some (.Name y py)) spos.line X.env = pure true := by exact sw_true rfl rfl rfl (by decide +kernel))
    (hy : X.N[i]? = some y := by rfl) (hyl : X.env.scope.names.lookup y = some .local := by rfl) (hs : ∀ x, foldedSetIterable iter X.env x = pure x := by intro _; rfl) :
    XS X W (.Assign [.Name y py] (.ListComp elt [⟨tg, iter, ifs, 0⟩] scope pos) spos) (tAsg (tLc wi g tt te (own.map (·.2))) (gName i)) (dNew i (dLc src h ft f (own.map (·.2)))) :=
  ⟨ps_setLc hc hN hy hyl hsw hi.pi ok (fun s H C cl fp => (hg s H C cl fp).pg) (fun s H C cl fp => (ht s H C cl fp).1) (fun s H C cl fp => (he s H C cl fp).pe) hs,
   st_new (en_lc hi.j (hg X.s_0 X.H_0 0 [] []).j (ht X.s_0 X.H_0 0 [] []).2 (he X.s_0 X.H_0 0 [] []).j hjs)⟩
theorem sSetLc (i : Nat) {y : Str} {py : Pos} {elt tg iter : Expr} {ifs : List Expr} {scope : Scope} {own : List (Str × Nat)} {pos spos : Pos} {wi : TI} {g : TG} {js : List Nat} {h : D → Env → Option Env} {src : Env → Res (List D)} (hc : X.calm = true) (hN : X.N.Nodup) (hi : XI X W tg iter wi src) (ok : BlkOk X.N X.env.scope scope own)
    (hg : ∀ (s : Shared) (H : Hp) (C : Addr) (cl : List (Str × Addr)) (fp : List Addr), XG (X.blk s H scope (compEnvC scope cl C X.env) fp) js tg g h)
    (ht : ∀ (s : Shared) (H : Hp) (C : Addr) (cl : List (Str × Addr)) (fp : List Addr), PTs (X.blk s H scope (compEnvC scope cl C X.env) fp) ifs tt ∧ EB X.K W0 tt ft)
    (he : ∀ (s : Shared) (H : Hp) (C : Addr) (cl : List (Str × Addr)) (fp : List Addr), XV (X.blk s H scope (compEnvC scope cl C X.env) fp) W0 elt te f) (hjs : ∀ j ∈ js, j ∈ own.map (·.2)) 
    (hsw : swapsWith (.ListComp elt [⟨tg, iter, ifs, 0⟩] scope pos) (some (.Name y py)) spos.line X.env = pure true := by exact sw_true rfl rfl rfl (by decide +kernel))
    (hy : X.N[i]? = some y := by rfl) (hyl : X.env.scope.names.lookup y = some .local := by rfl) (hs : ∀ x, foldedSetIterable iter X.env x = pure x := by intro _; rfl) :
    XS X W (.Assign [.Name y py] (.ListComp elt [⟨tg, iter, ifs, 0⟩] scope pos) spos) (tAsg (tLc wi g tt te (own.map (·.2))) (gName i)) (dAsg (dOb (dLc src h ft f (own.map (·.2)))) (hSet i)) :=
  ⟨ps_setLc hc hN hy hyl hsw hi.pi ok (fun s H C cl fp => (hg s H C cl fp).pg) (fun s H C cl fp => (ht s H C cl fp).1) (fun s H C cl fp => (he s H C cl fp).pe) hs,
   st_asg (EN.t (en_lc hi.j (hg X.s_0 X.H_0 0 [] []).j (ht X.s_0 X.H_0 0 [] []).2 (he X.s_0 X.H_0 0 [] []).j hjs)) (gj_name i)⟩
/-! constants of the module -/
theorem xGlobS {x z : Str} (h : ∃ t, X.mg x = some (.str z t)) (hg : Gl X x := by rfl) (hd : (x == ("__debug__" : Str)) = false := by decide) : XV X W (.Name x pos) (tC (.str z)) (dC (.str z)) := by
  obtain ⟨t, h⟩ := h
  exact xGlob hg h ⟨t, rfl⟩ (fun _ => mk_str) hd
theorem xGlobI {x : Str} {z : Int} (h : ∃ t, X.mg x = some (.int z t)) (hg : Gl X x := by rfl) (hd : (x == ("__debug__" : Str)) = false := by decide) : XV X W (.Name x pos) (tC (.int z)) (dC (.int z)) := by
  obtain ⟨t, h⟩ := h
  exact xGlob hg h ⟨t, rfl⟩ (fun _ => mk_int) hd
/-! -n -/
def dNeg : D → Option D
  | .int i => some (.int (-i))
  | _ => none
theorem dr_neg {K : Frag} : DR1 K (rlV K) (rU fun i => .int (-i)) dNeg := fun G H x d s rx Q hQ => by
  cases d with
  | int i => obtain rfl := rd_int rx; exact ⟨i, rfl, hQ _ G H (Gr.rfl' s) mk_int⟩
  | _ => exact hQ.elim
theorem xNeg (h : XR X W a ta fa) : XV X W (.UnaryOp .USub a pos) (tUn (rU fun i => .int (-i)) ta) (dUn dNeg fa) := ⟨pe_un un_neg h.pe, j_un anti_V h.j dr_neg⟩
/-! a ** b -/
def dPow : D → D → Option D
  | .int i, .int j => if 0 ≤ j ∧ j ≤ 1000 ∧ i.natAbs < 2 ^ 64 then some (.int (i ^ j.toNat)) else none
  | _, _ => none
theorem dr_pow {K : Frag} : DR2 K (rlV K) (rI CPow fun i j => .int (i ^ j.toNat)) dPow := dr_int2 (k := fun i j => if 0 ≤ j ∧ j ≤ 1000 ∧ i.natAbs < 2 ^ 64 then some (i ^ j.toNat) else none) (fun d e => by
    cases d <;> cases e <;> first | rfl | (unfold dPow; split <;> simp_all)) fun i j n H Q h q => by
  by_cases c : 0 ≤ j ∧ j ≤ 1000 ∧ i.natAbs < 2 ^ 64
  · rw [if_pos c] at h; cases h; exact ⟨i, j, rfl, rfl, ⟨c.1, by omega, c.2.2⟩, q⟩
  · rw [if_neg c] at h; cases h
/-! max(d) -/
def dMaxD (f : Env → Res D) : Env → Res D := fun ρ => (f ρ).bind fun d => match d with
  | .dict es => match intsOf (es.map (·.1)) with
    | some (n :: ns) => .ok (.int (maxI (n :: ns)))
    | _ => .stuck
  | _ => .stuck
theorem keys_ints {K : Frag} {G : Hp} : ∀ {es : List (D × D)} {kvs : List (Key × V)} {ns : List Int}, RepK K G es kvs → es.map (·.1) = ns.map PyData.int → kvs.map (·.1) = ns.map Sum.inl
  | [], kvs, ns, h, e => by
    unfold RepK at h
    subst h
    cases ns with
    | nil => rfl
    | cons _ _ => cases e
  | (q, d) :: es, kvs, ns, h, e => by
    unfold RepK at h
    obtain ⟨k', v, r, rfl, rfl, h1, h2⟩ := h
    cases ns with
    | nil => cases e
    | cons n ns =>
      rw [List.map_cons, List.map_cons] at e
      have e1 := (List.cons.inj e).1
      have ih := keys_ints h2 (List.cons.inj e).2
      rw [List.map_cons, List.map_cons, ih]
      cases k' with
      | inl i => cases e1; rfl
      | inr x => cases e1
theorem et_maxD {K : Frag} (h : ER K W te f) : ET K W (tCB rMaxD (tCons te tNil)) (dMaxD f) := fun B ρ σ G H I Q hQ =>
  j_bind (ta := te) anti_V h I hQ fun x d G1 H1 g1 r1 I1 q1 => by
    cases d with
    | dict es =>
      cases hi : intsOf (es.map (·.1)) with
      | none => simp only [hi] at q1; exact q1.elim
      | some ns =>
        cases ns with
        | nil => simp only [hi] at q1; exact q1.elim
        | cons n ns =>
          simp only [hi] at q1
          obtain ⟨p, kvs, rfl, h1, h2⟩ := rd_dict I1.gh r1
          exact ⟨p, kvs, n :: ns, rfl, h1, keys_ints h2 (intsOf_eq hi), by simp, q1 _ G1 H1 I1.gr mk_int⟩
    | _ => exact q1.elim
theorem xMaxD (hm : X.mg "max" = none) (h : XR X W a ta fa) (hc : X.calm = true := by rfl) (hg : Gl X "max" := by rfl) (hv : bootBuiltins "max" = some (.builtin "max") := by decide +kernel) (he : starEach (a :: []) X.env = (false, eval a X.env) :: starEach [] X.env := by rfl) (hpl : (backTo pos (starEach [] X.env)).any (·.1) = false := by rfl) :
    XV X W (.Call (.Name "max" p) [a] [] pos) (tCB rMaxD (tCons ta tNil)) (dMaxD fa) := ⟨pe_callB (call_maxD hc) hg hm hv (pa_cons h.pe pa_nil he) (by decide) (by decide) he hpl, et_maxD h.j⟩
/-! len(d) -/
def dLenD : List D → Option D
  | [.dict es] => some (.int es.length)
  | _ => none
theorem repK_len {K : Frag} {G : Hp} : ∀ {es : List (D × D)} {kvs : List (Key × V)}, RepK K G es kvs → es.length = kvs.length
  | [], kvs, h => by unfold RepK at h; subst h; rfl
  | (q, d) :: es, kvs, h => by
    unfold RepK at h
    obtain ⟨k', v, r, rfl, rfl, h1, h2⟩ := h
    simp [repK_len h2]
/-! xs.count(n), whole numbers -/
def dCount (fa fb : Env → Res D) : Env → Res D := fun ρ => (fa ρ).bind fun d => match d with
  | .list es => match intsOf es with
    | some ns => (fb ρ).bind fun k => match k with
      | .int k => .ok (.int ((ns.count k : Nat) : Int))
      | _ => .stuck
    | none => .stuck
  | _ => .stuck
theorem et_count {K : Frag} (ha : ER K W ta fa) (hb : ER K W tb fb) : ET K W (tBM K "list" (rCntI K) ta (tCons tb tNil)) (dCount fa fb) := fun B ρ σ G H I Q hQ =>
  j_bind (ta := ta) anti_V ha I hQ fun x d G1 H1 g1 r1 I1 q1 => by
    cases d with
    | list es =>
      obtain ⟨z, p, vs, rfl, h1, h2⟩ := rd_list I1.gh r1
      cases hi : intsOf es with
      | none => simp only [hi] at q1; exact q1.elim
      | some ns =>
        simp only [hi] at q1
        refine ⟨.inl ⟨rfl, vs, h1⟩, ?_⟩
        refine j_bind (ta := tb) anti_V hb I1 q1 fun y k G2 H2 g2 r2 I2 q2 => ?_
        cases k with
        | int k =>
          obtain rfl := rd_int r2
          have e : vs = ns.map V.int := repL_ints.mp (by rw [← intsOf_eq hi]; exact h2)
          subst e
          exact ⟨p, ns, k, rfl, rfl, g2.hh.seq h1, q2 _ G2 H2 I2.gr mk_int⟩
        | _ => exact q2.elim
    | _ => exact q1.elim
theorem xCount {apos cpos : Pos} (ha : XR X W o ta fa) (hb : XR X W b tb fb) (hbase : attributeBase o "count" X.env (eval o X.env) = eval o X.env := by rfl)
    (hfew : ((backTo cpos (starEach (b :: []) X.env)).all (fun x => !x.1) && (backToKw cpos (keywordEach [] X.env)).all (fun x => x.1.isSome)
      && decide ((b :: []).length + ([] : List Keyword).length + (if ([] : List Keyword).isEmpty then 0 else 1) < 30)) = true := by rfl)
    (hline : (apos.endLine == cpos.line) = true := by rfl) (hs : starEach (b :: []) X.env = (false, eval b X.env) :: starEach [] X.env := by rfl) (hplain : (backTo cpos (starEach [] X.env)).any (·.1) = false := by rfl) :
    XV X W (.Call (.Attribute o "count" apos) [b] [] cpos) (tBM X.K "list" (rCntI X.K) ta (tCons tb tNil)) (dCount fa fb) :=
  ⟨pe_bm PySem.F.plainAttrs_list PySem.F.slot_list_count PySem.F.type_list_count mt_lcount ha.pe (pa_cons hb.pe pa_nil hs) hbase hfew hline hs hplain, et_count ha.j hb.j⟩
end
/-! len(d) -/
theorem call_lenDR {X : Cx} : CallR X (.builtin "len") (fun xs H Q => ∃ a kvs, xs = [V.ref a] ∧ Rd H a (.dK kvs) ∧ Q (.int kvs.length) H) := by
  intro pins s σ H xs us Q I r h
  obtain ⟨a, kvs, rfl, ha, q⟩ := h
  obtain ⟨u, rfl, ru⟩ := vals1 r
  cases ru
  exact d_len I ha fun t s' I' => ⟨.int kvs.length, H, I', ⟨t, rfl⟩, q⟩
theorem dr_lenD {K : Frag} : DRC K (rlV K) (fun xs H Q => ∃ a kvs, xs = [V.ref a] ∧ Rd H a (.dK kvs) ∧ Q (.int kvs.length) H) dLenD := fun G H xs ds s rx Q hQ => by
  unfold dLenD at hQ
  split at hQ
  · obtain ⟨v, rfl, r⟩ := one_read rx
    obtain ⟨p, kvs, rfl, h1, h2⟩ := rd_dict s r
    exact ⟨p, kvs, rfl, h1, by rw [← repK_len h2]; exact hQ _ G H (Gr.rfl' s) mk_int⟩
  · exact hQ.elim
end PD

set_option Elab.async false
set_option linter.all false
set_option maxRecDepth 100000
/-! The data layer, 13: the law's end. -/
namespace PD
open PySem PySem.Spec PyProof.Rows L2
/-- the law as it is called -/
def LawFn (P : Program) (w : World) (K : Frag) (mg : Str → Option Value) (cl : Str → Addr) (x p : Str) (k : Nat) (g : List D → Res D) : Prop :=
  ∃ (f : Addr) (fd : FuncData), (∀ base : Heap, FnOk P w K mg base (L2.CX P w) k f fd [p] (spG K (rlV K) cl 1 g)) ∧ mg x = some (.ref f) ∧ ∀ us : List Value, us.length = 1 → bindArgs fd ⟨us, []⟩ = pure ([p].zip us)
theorem law_T {P : Program} {w : World} {K : Frag} {mg : Str → Option Value} {cl : Str → Addr} {x p : Str} {st : Stmt} {N : List Str} {k : Nat} {F : Env → Out} (d : DefAt K mg x st [p]) (S : FnScope N [p] (defScope st)) (h : ∀ base f, Body P w K mg base cl k N x st f F) :
    LawFn P w K mg cl x p (k + 1) (funT 1 N.length F) := by
  obtain ⟨f, fd, Fn, hm, hb⟩ := d
  exact ⟨f, fd, fun base => fn_T Fn S rfl (h base f), hm, hb⟩
/-- what is asked of the law, the script's list known -/
def spLawG (K : Frag) (g : List D → Res D) : Sp := fun vs H Q _ => ∃ G ds, Same G H ∧ RepL K G ds vs ∧ ds.length = 1 ∧ match g ds with
  | .ok a => ∀ v G' H', Gr G H G' H' → Rep K G' a v → Q v H'
  | _ => False
theorem walk_pd {l : PySem.W.OpenLaw} {k : Nat} {q : Program} {loose : List Str} {XP : (Str → Option Value) → Heap → Prop} {YP : World → Heap → Prop} {d : DefRec} {K : Params → PySem.W.Frag} {p : Str} {g : List D → Res D}
    (hn : l.most = some 63) (hdf : d.params.defaults = []) (hr : Room k callerA)
    (hY : ∀ (w : World) (h : Heap), YP w h → (K w.params).In h)
    (F : ∀ (w : World) (mg : Str → Option Value) (h : Heap), (K w.params).In h → h.Ns mainGlobals mg → ∃ cl : Str → Addr, LawFn l.prog w (K w.params) mg cl d.name p k g)
    (hlaw : ∀ ns : List Int, ns.length ≤ 63 → (∀ z ∈ ns, Builtin.Int.intBits z ≤ 1048576) → g [.list (ns.map PyData.int)] = .ok (.bool true)) :
    PySem.W.WalkO q loose XP YP l.row.toRowW d [] (fun f vs => PySem.call f vs) := by
  refine walk_ofB (n := 63) (k := k) (x := p) (K := K) (CX := fun w => L2.CX l.prog w) (sp := fun w => spLawG (K w.params) g) hn (by decide) hdf hr hY ?_ ?_ ?_
  · intro w mg fa h KX G hmg
    obtain ⟨cl, hcl⟩ := F w mg h KX G
    obtain ⟨f, fd, hF, hm, hb⟩ := hcl
    rw [hmg] at hm
    cases hm
    refine ⟨fd, fun s u => .of_eq (hb [u] rfl), fun base Kb Gb => (hF base).imp fun vs H Q E hs => ?_⟩
    obtain ⟨G, ds, h1, h2, h3, h4⟩ := hs
    refine ⟨G, ds, h1, h2, h3, ?_⟩
    cases e : g ds with
    | ok a => rw [e] at h4; exact h4
    | exc c => rw [e] at h4; exact h4.elim
    | stuck => rw [e] at h4; exact h4
  · intro w H a ns hl hb hO hS
    refine ⟨H, [.list (ns.map PyData.int)], L2.Same.refl _, RepL.one ?_, rfl, ?_⟩
    · unfold Rep
      exact ⟨by rw [List.length_map, sizeLine_eq]; omega, a, ns.map V.int, rfl, hS, repL_ints.mpr rfl⟩
    · rw [hlaw ns hl hb]
      exact fun v G' H' g r => r
  · intro w H s e s' hx
    obtain ⟨_, _, _, _, _, _, _, _, _, _, _, _, z⟩ := hx
    exact z
theorem defAt_mk {K : Frag} {h : Heap} {mg : Str → Option Value} {x : Str} {st : Stmt} {ps : List Str} {f : Addr} {oc : Value} {od an : Option Addr} {osl : Array (Option Value)} {kV doc pm cdv ct : Value} (X : K.In h) (G : h.Ns mainGlobals mg)
    (a : PySem.W.nsIn K mainGlobals x = some (some (.ref f))) (l : K.lookup f = some ⟨oc, od, .func (PySem.W.fnOf x x (defArgs st) (defBody st) (defScope st) .none kV doc pm an cdv ct), osl⟩) (c : PySem.W.codeIn K cdv x = true) (k : PySem.W.keepIn K (.ref f) = true)
    (hb : ∀ us : List Value, us.length = ps.length → bindArgs (PySem.W.fnOf x x (defArgs st) (defBody st) (defScope st) .none kV doc pm an cdv ct) ⟨us, []⟩ = pure (ps.zip us)) : DefAt K mg x st ps :=
  ⟨f, _, fun_mk l c k, PySem.W.mg_of X G a, hb⟩
end PD

set_option Elab.async false
set_option linter.all false
set_option maxRecDepth 100000
/-! The data layer, 14: exceptions of the program's own: raised, caught, asked of their kind. -/
namespace PD
open PySem PySem.Spec PyProof.Rows L2
/-- a class of exceptions at the top, over ValueError -/
structure ExcAt (K : Frag) (mg : Str → Option Value) (cl : Str → Addr) (x : Str) : Prop where
  q : PySem.W.excIn K (cl x) [.type "ValueError", .type "Exception", .type "BaseException", .type "object"] "ValueError.__new__" = true
  g : mg x = some (.ref (cl x))
  k : PySem.W.keepIn K (.ref (cl x)) = true
  b : PySem.W.subIn K (.ref (cl x)) (.type "BaseException") = some true
  t : PySem.W.typeIn K (.ref (cl x)) = some (.type "type")
section
variable {X : Cx} {W : Str → Hp → Prop} {cl : Str → Addr} {pos p2 p3 p4 : Pos}
theorem ExcAt.raise {x m : Str} {j : Nat} (E : ExcAt X.K X.mg cl x) (tk : Takes X (TW cl W)) (hg : Gl X x := by rfl) (hc : X.calm = true := by rfl) (hdb : (x == ("__debug__" : Str)) = false := by decide) :
    XS X W (.Raise (some (.Call (.Name x p2) [.Constant (.str m) j p3] [] p4)) none pos) (fun _ σ H => TW cl W (.ref (cl x)) none σ H) (dExc x) :=
  sRaise tk PySem.F.excBase_ValueError E.q E.g E.k (raises_own E.b E.t) hg rfl hc hdb
end
/-! ### a body under try: what leaves it finds the slots as they stood -/
def OkSE (K : Frag) (w : WX) (cl : Str → Addr) (B : Bs) (ρ0 : Env) (G : Hp) (o : Out) (Dn : Ends) : Prop := match o with
  | .nx ρ => ∀ σ' G' H', DInv K B ρ σ' G' H' → Same G G' → Dn.nx σ' H'
  | .bk ρ => ∀ σ' G' H', DInv K B ρ σ' G' H' → Same G G' → Dn.bk σ' H'
  | .ct ρ => ∀ σ' G' H', DInv K B ρ σ' G' H' → Same G G' → Dn.ct σ' H'
  | .rt d ρ => ∀ v σ' G' H', DInv K B ρ σ' G' H' → Same G G' → Rep K G' d v → Dn.rt v H'
  | .rn o ρ => ∀ p σ' G' H', DInv K B ρ σ' G' H' → Same G G' → Own K G' H' o p → B.H0 p = none → Dn.rt (.ref p) H'
  | .exc c => ∀ σ' G' H', DInv K B ρ0 σ' G' H' → Same G G' → w (.ref (cl c)) none σ' H'
  | .stuck => False
def STE (K : Frag) (cl : Str → Addr) (tb : WX → TS) (F : Env → Out) : Prop :=
  ∀ (w : WX) (B : Bs) (ρ : Env) (σ : Sl) (G H : Hp), DInv K B ρ σ G H → ∀ Dn, OkSE K w cl B ρ G (F ρ) Dn → tb w Dn σ H
theorem OkSE.mono {K : Frag} {w : WX} {cl : Str → Addr} {B : Bs} {ρ0 : Env} {G G' : Hp} {o : Out} {Dn : Ends} (h : OkSE K w cl B ρ0 G o Dn) (e : Same G G') : OkSE K w cl B ρ0 G' o Dn := by
  cases o with
  | nx ρ => exact fun σ' G1 H1 I s => h σ' G1 H1 I (e.trans s)
  | bk ρ => exact fun σ' G1 H1 I s => h σ' G1 H1 I (e.trans s)
  | ct ρ => exact fun σ' G1 H1 I s => h σ' G1 H1 I (e.trans s)
  | rt d ρ => exact fun v σ' G1 H1 I s => h v σ' G1 H1 I (e.trans s)
  | rn o ρ => exact fun v σ' G1 H1 I s => h v σ' G1 H1 I (e.trans s)
  | exc c => exact fun σ' G1 H1 I s => h σ' G1 H1 I (e.trans s)
  | stuck => exact h
/-- f(..) alone, f a def -/
def dCallE {α : Type} (f : List D → Res α) (fs : Env → Res (List D)) : Env → Out := fun ρ => match fs ρ with
  | .ok ds => match f ds with
    | .ok _ => .nx ρ
    | .exc c => .exc c
    | .stuck => .stuck
  | _ => .stuck
theorem Gr.up {G H H' : Hp} (e : Same H H') (s : Same G H) : Gr G H G H' := ⟨e, L2.Same.refl _, s.trans e, fun _ h _ => h⟩
theorem ste_call {α : Type} {K : Frag} {rel : Rl α V} {cl : Str → Addr} {n : Nat} {f : List D → Res α} {t : TA} {fs : Env → Res (List D)} (h : EA K W0 t fs) (hn : ∀ ds, f ds ≠ .stuck → ds.length = n) :
    STE K cl (fun w => tDrop (tCallS (spG K rel cl n f) (WE w) t)) (dCallE f fs) := fun w B ρ σ G H I Dn hQ => by
  unfold dCallE at hQ
  refine h B ρ σ G H I _ ?_
  cases e : fs ρ with
  | ok ds =>
    rw [e] at hQ
    intro vs G1 H1 g1 r1
    have I1 := I.grow g1
    cases e2 : f ds with
    | ok a =>
      simp only [e2] at hQ
      exact ⟨G1, ds, I1.gh, r1, hn ds (by rw [e2]; intro z; cases z), by rw [e2]; exact fun v G' H' g r => hQ σ G' H' (I1.grow g) (g1.gg.trans g.gg)⟩
    | exc c =>
      simp only [e2] at hQ
      exact ⟨G1, ds, I1.gh, r1, hn ds (by rw [e2]; intro z; cases z), by rw [e2]; exact fun H' s => hQ σ G1 H' (I1.grow (Gr.up s I1.gh)) g1.gg⟩
    | stuck => simp only [e2] at hQ; exact hQ.elim
  | exc c => rw [e] at hQ; exact hQ.elim
  | stuck => rw [e] at hQ; exact hQ.elim
/-- a test that raises nothing -/
def dIfE (ft : Env → Res Bool) (F F2 : Env → Out) : Env → Out := fun ρ => match ft ρ with
  | .ok true => F ρ
  | .ok false => F2 ρ
  | _ => .stuck
theorem ste_if {K : Frag} {cl : Str → Addr} {c : TT} {t u : WX → TS} {ft : Env → Res Bool} {F F2 : Env → Out} (hc : EB K W0 c ft) (a : STE K cl t F) (b : STE K cl u F2) : STE K cl (fun w => tIfS c (t w) (u w)) (dIfE ft F F2) := fun w B ρ σ G H I Dn hQ => by
  unfold dIfE at hQ
  refine hc B ρ σ G H I _ ?_
  cases e : ft ρ with
  | ok k =>
    rw [e] at hQ
    intro k' G1 H1 g1 r1
    obtain rfl := r1
    have I1 := I.grow g1
    cases k' with
    | true => exact a w B ρ σ G1 H1 I1 Dn (OkSE.mono hQ g1.gg)
    | false => exact b w B ρ σ G1 H1 I1 Dn (OkSE.mono hQ g1.gg)
  | exc c => rw [e] at hQ; exact hQ.elim
  | stuck => rw [e] at hQ; exact hQ.elim
/-- one behind the other; what stands ahead leaves the slots' data as they were -/
def dSeqE (F F2 : Env → Out) : Env → Out := fun ρ => match F ρ with
  | .nx _ => F2 ρ
  | .exc c => .exc c
  | _ => .stuck
/-- F ends, where it ends, with the data it began with -/
def Stays (F : Env → Out) : Prop := ∀ ρ ρ', F ρ = .nx ρ' → ρ' = ρ
theorem stays_call {α : Type} {f : List D → Res α} {fs : Env → Res (List D)} : Stays (dCallE f fs) := fun ρ ρ' h => by
  unfold dCallE at h
  cases e : fs ρ with
  | ok ds =>
    rw [e] at h
    simp only at h
    cases e2 : f ds with
    | ok a => simp only [e2] at h; cases h; rfl
    | exc c => simp only [e2] at h; cases h
    | stuck => simp only [e2] at h; cases h
  | exc c => rw [e] at h; cases h
  | stuck => rw [e] at h; cases h
theorem stays_if {ft : Env → Res Bool} {F F2 : Env → Out} (a : Stays F) (b : Stays F2) : Stays (dIfE ft F F2) := fun ρ ρ' h => by
  unfold dIfE at h
  cases e : ft ρ with
  | ok k =>
    rw [e] at h
    cases k with
    | true => exact a ρ ρ' h
    | false => exact b ρ ρ' h
  | exc c => rw [e] at h; cases h
  | stuck => rw [e] at h; cases h
theorem stays_next : Stays dNext := fun ρ ρ' h => by cases h; rfl
theorem ste_seq {K : Frag} {cl : Str → Addr} {t u : WX → TS} {F F2 : Env → Out} (a : STE K cl t F) (ha : Stays F) (b : STE K cl u F2) : STE K cl (fun w => tSeq (t w) (u w)) (dSeqE F F2) := fun w B ρ σ G H I Dn hQ => by
  unfold dSeqE at hQ
  refine a w B ρ σ G H I _ ?_
  cases e : F ρ with
  | nx ρ' =>
    rw [e] at hQ
    obtain rfl := ha ρ ρ' e
    exact fun σ' G' H' I' s => b w B ρ' σ' G' H' I' Dn (OkSE.mono hQ s)
  | exc c => rw [e] at hQ; exact hQ
  | bk ρ' => rw [e] at hQ; exact hQ.elim
  | ct ρ' => rw [e] at hQ; exact hQ.elim
  | rt d ρ' => rw [e] at hQ; exact hQ.elim
  | rn o ρ' => rw [e] at hQ; exact hQ.elim
  | stuck => rw [e] at hQ; exact hQ.elim
theorem ste_next {K : Frag} {cl : Str → Addr} : STE K cl (fun _ => tNext) dNext := fun w B ρ σ G H I Dn hQ => hQ σ G H I (L2.Same.refl _)
/-! syntax -/
structure XSE (X : Cx) (cl : Str → Addr) (s : Stmt) (tb : WX → TS) (F : Env → Out) : Prop where
  ps : ∀ (W : WX) (pn : List (Addr × Obj)) (xe : Value → Shared → Prop), Takes (X.tr pn xe) W → PS (X.tr pn xe) s (tb W)
  j : STE X.K cl tb F
structure XSEs (X : Cx) (cl : Str → Addr) (ss : List Stmt) (tb : WX → TS) (F : Env → Out) : Prop where
  ps : ∀ (W : WX) (pn : List (Addr × Obj)) (xe : Value → Shared → Prop), Takes (X.tr pn xe) W → PSs (X.tr pn xe) ss (tb W)
  j : STE X.K cl tb F
section
variable {X : Cx} {cl : Str → Addr} {s : Stmt} {ss s2 : List Stmt} {tb tu : WX → TS} {F F2 : Env → Out} {e c : Expr} {es : List Expr} {tA : TA} {fs : Env → Res (List D)} {tt : TT} {ft : Env → Res Bool} {pos p p2 : Pos}
theorem eOne (h : XSE X cl s tb F) : XSEs X cl [s] tb F := ⟨fun W pn xe tk => pss_one (h.ps W pn xe tk), h.j⟩
theorem eNil : XSEs X cl [] (fun _ => tNext) dNext := ⟨fun _ _ _ _ => pss_nil, ste_next⟩
theorem eCons (h : XSE X cl s tb F) (hs : Stays F) (t : XSEs X cl ss tu F2) : XSEs X cl (s :: ss) (fun w => tSeq (tb w) (tu w)) (dSeqE F F2) := ⟨fun W pn xe tk => pss_cons (h.ps W pn xe tk) (t.ps W pn xe tk), ste_seq h.j hs t.j⟩
theorem eIf (h : ∀ pn xe, XT (X.tr pn xe) W0 c tt ft) (a : XSEs X cl ss tb F) (b : XSEs X cl s2 tu F2) : XSE X cl (.If c ss s2 pos) (fun w => tIfS tt (tb w) (tu w)) (dIfE ft F F2) :=
  ⟨fun W pn xe tk => ps_if (h pn xe).pe (a.ps W pn xe tk) (b.ps W pn xe tk), ste_if (h [] X.xe).j a.j b.j⟩
theorem eCall {α : Type} {rel : Rl α V} {k j n : Nat} {g : List D → Res α} {x : Str} (G : GFn X.prog X.w X.K X.mg X.base cl x rel k n g) (hr : Room j X.A) (hj : k ≤ j)
    (ha : ∀ pn xe, XA (X.tr pn xe) W0 (e :: es) tA fs) (hg : Gl X x := by rfl) (hdb : (x == ("__debug__" : Str)) = false := by decide) (he : starEach (e :: es) X.env = (false, eval e X.env) :: starEach es X.env := by rfl) (hpl : (backTo p (starEach es X.env)).any (·.1) = false := by rfl)
    (hs : swapsWith (.Call (.Name x p2) (e :: es) [] p) none pos.line X.env = pure false := by rfl) :
    XSE X cl (.Expr (.Call (.Name x p2) (e :: es) [] p) pos) (fun w => tDrop (tCallS (spG X.K rel cl n g) (WE w) tA)) (dCallE g fs) := by
  obtain ⟨f, fd, ps, F, hm, hk, hb, hl⟩ := G
  refine ⟨fun W pn xe tk => ps_expr (X := X.tr pn xe) (pe_callS (X := X.tr pn xe) F (hr.mono hj) hg hm hk hb (fun σ => passAt tk σ) (ha pn xe).pe hdb he hpl) hs, ste_call (ha [] X.xe).j hl⟩
end
/-! ### the whole try -/
/-- behind the suite the name is gone -/
def goneO (i : Nat) : Out → Out
  | .nx ρ => .nx (ρ.set i .un)
  | .bk ρ => .bk (ρ.set i .un)
  | .ct ρ => .ct (ρ.set i .un)
  | .rt d ρ => .rt d (ρ.set i .un)
  | .rn o ρ => .rn o (ρ.set i .un)
  | o => o
open Classical in
/-- try: fb, except .. as slot i: fh; S tells of the classes that may leave fb whether the clause takes them -/
noncomputable def dTry (S : Str → Option Bool) (i : Nat) (fb : Env → Out) (fh : Str → Addr → Env → Out) : Env → Out := fun ρ => match fb ρ with
  | .exc c => match S c with
    | some true => if ∀ o, ρ[i]? ≠ some (.pm o) then (if ∀ a, goneO i (fh c a (ρ.set i (.xc a))) = goneO i (fh c 0 (ρ.set i (.xc 0))) then goneO i (fh c 0 (ρ.set i (.xc 0))) else .stuck) else .stuck
    | some false => .exc c
    | none => .stuck
  | o => o
theorem dTry_nx {S : Str → Option Bool} {i : Nat} {fb : Env → Out} {fh : Str → Addr → Env → Out} {ρ ρ' : Env} (h : fb ρ = .nx ρ') : dTry S i fb fh ρ = .nx ρ' := by unfold dTry; rw [h]
theorem dTry_exc {S : Str → Option Bool} {i : Nat} {fb : Env → Out} {fh : Str → Addr → Env → Out} {ρ : Env} {c : Str} {o : Out} (h : fb ρ = .exc c) (hS : S c = some true) (hp : ∀ o, ρ[i]? ≠ some (.pm o)) (ha : ∀ a, goneO i (fh c a (ρ.set i (.xc a))) = o) : dTry S i fb fh ρ = o := by
  unfold dTry
  rw [h]
  simp only [hS]
  rw [if_pos hp, if_pos (fun a => (ha a).trans (ha 0).symm), ha 0]
theorem OkS.gone {K : Frag} {W : Str → Hp → Prop} {B : Bs} {G : Hp} {i : Nat} {o : Out} {Dn : Ends} (h : OkS K W B G (goneO i o) Dn) : OkS K W B G o { nx := fun σ' H' => Dn.nx (σ'.set i none) H', rt := Dn.rt, bk := fun σ' H' => Dn.bk (σ'.set i none) H', ct := fun σ' H' => Dn.ct (σ'.set i none) H' } := by
  have go : ∀ {ρ : Env} {σ' : Sl} {G' H' : Hp}, DInv K B ρ σ' G' H' → DInv K B (ρ.set i .un) (σ'.set i none) G' H' := fun {ρ σ' G' H'} I => by
    have I2 := I.forget i
    have I3 := I2.setE (i := i) (e := .un) (sv := none) rfl (fun o q => by
      rcases get_set q with ⟨_, _, e⟩ | ⟨ne, _⟩
      · cases e
      · exact ne rfl) (fun _ => trivial)
    rw [List.set_set] at I3
    exact I3
  cases o with
  | nx ρ => exact fun σ' G' H' I s => h _ G' H' (go I) s
  | bk ρ => exact fun σ' G' H' I s => h _ G' H' (go I) s
  | ct ρ => exact fun σ' G' H' I s => h _ G' H' (go I) s
  | rt d ρ => exact fun v σ' G' H' I s r => h v σ' G' H' (I.forget i) s r
  | rn d ρ => exact fun p σ' G' H' I s r z => h p σ' G' H' (I.forget i) s r z
  | exc c => exact h
  | stuck => exact h
theorem st_try {K : Frag} {W : Str → Hp → Prop} {cl : Str → Addr} {tb : WX → TS} {ts : Str → Addr → TS} {C : Value} {S : Str → Option Bool} {i : Nat} {fb : Env → Out} {fh : Str → Addr → Env → Out} (hS : ∀ c b, S c = some b → PySem.W.exmOne K (.ref (cl c)) C = some b)
    (hb : STE K cl tb fb) (hh : ∀ c a, S c = some true → ST K W (ts c a) (fh c a)) :
    ST K W (fun D σ H => tb (wAs K C i (fun a cls d Dn σ H => ∃ c, cls = .ref (cl c) ∧ d = none ∧ S c = some true ∧ ts c a Dn σ H) (TW cl W) D) D σ H) (dTry S i fb fh) := fun B ρ σ G H I Dn hQ => by
  refine hb _ B ρ σ G H I Dn ?_
  unfold dTry at hQ
  cases e : fb ρ with
  | exc c =>
    simp only [e] at hQ
    intro σ' G' H' I' s'
    cases e2 : S c with
    | none => simp only [e2] at hQ; exact hQ.elim
    | some b =>
      cases b with
      | false =>
        simp only [e2] at hQ
        exact ⟨false, hS c false e2, (fun z => by cases z), fun _ => ⟨c, rfl, rfl, hQ H' I'.kp⟩⟩
      | true =>
        simp only [e2] at hQ
        by_cases hp : ∀ o, ρ[i]? ≠ some (.pm o)
        · rw [if_pos hp] at hQ
          by_cases ha : ∀ a, goneO i (fh c a (ρ.set i (.xc a))) = goneO i (fh c 0 (ρ.set i (.xc 0)))
          · rw [if_pos ha] at hQ
            refine ⟨true, hS c true e2, fun _ a _ => ⟨c, rfl, rfl, e2, ?_⟩, fun z => by cases z⟩
            refine hh c a e2 B (ρ.set i (.xc a)) _ G' H' (I'.setE rfl hp fun _ => rfl) _ ?_
            rw [← ha a] at hQ
            exact OkS.gone (OkS.mono hQ s')
          · rw [if_neg ha] at hQ; exact hQ.elim
        · rw [if_neg hp] at hQ; exact hQ.elim
  | nx ρ' => simp only [e] at hQ; exact hQ
  | bk ρ' => simp only [e] at hQ; exact hQ
  | ct ρ' => simp only [e] at hQ; exact hQ
  | rt d ρ' => simp only [e] at hQ; exact hQ
  | rn o ρ' => simp only [e] at hQ; exact hQ
  | stuck => simp only [e] at hQ; exact hQ
section
variable {X : Cx} {W : Str → Hp → Prop} {cl : Str → Addr} {body suite : List Stmt} {b₀ : Stmt} {tb : WX → TS} {ts : Str → Addr → TS} {fb : Env → Out} {fh : Str → Addr → Env → Out} {x n : Str} {np pos pos' p p2 p3 : Pos}
theorem sTry (S : Str → Option Bool) (i : Nat) (hs : X.stack = X.env :: X.outer) (hf : X.env.frame = some X.env.locals) (hN : X.N.Nodup) (hc : Names X x (.ref (cl x))) (tk : Takes X (TW cl W)) (hS : ∀ c b, S c = some b → PySem.W.exmOne X.K (.ref (cl c)) (.ref (cl x)) = some b)
    (hb : XSEs X cl body tb fb) (hh : ∀ (c : Str) (a : Addr) (oe : Obj) (pn : List (Addr × Obj)), S c = some true → Zc (.ref (cl c)) none oe → (∃ vs, oe.data = .fields vs) → XSs (X.suite a ((a, oe) :: pn)) W (b₀ :: suite) (ts c a) (fh c a))
    (hi : X.N[i]? = some n := by rfl) (hln : X.env.kindOf n = some .local := by rfl) :
    XS X W (.Try body [.ExceptHandler (some (.Name x np)) (some n) (b₀ :: suite) pos'] [] [] pos) (fun D σ H => tb (wAs X.K (.ref (cl x)) i (fun a cls d Dn σ H => ∃ c, cls = .ref (cl c) ∧ d = none ∧ S c = some true ∧ ts c a Dn σ H) (TW cl W) D) D σ H) (dTry S i fb fh) := by
  refine ⟨ps_try_as hs hf hN hi hln hc tk (fun W' pn xe tk' _ => hb.ps W' pn xe tk') (fun a oe cls d pn hz hd => ⟨fun pins s σ H D I h => ?_⟩), st_try hS hb.j fun c a e => (hh c a { cls := .ref (cl c), dict := none, data := .fields #[], slots := #[] } [] e ⟨rfl, rfl⟩ ⟨_, rfl⟩).j⟩
  obtain ⟨c, rfl, rfl, e, h⟩ := h
  exact (hh c a oe pn e hz hd).ps.run pins s σ H D I h
/-! asking the caught one of its kind -/
def dIsX (i : Nat) (a : Addr) (b : Bool) : Env → Res D := fun ρ => match ρ[i]? with
  | some (.xc a') => if a' = a then .ok (.bool b) else .stuck
  | _ => .stuck
theorem xc_at {K : Frag} {B : Bs} {ρ : Env} {σ : Sl} {G H : Hp} {i : Nat} {a : Addr} {b : Bool} {Q : V → Hp → Prop} {W : Str → Hp → Prop} (I : DInv K B ρ σ G H) (h : OkR W B (rlV K) G H (dIsX i a b ρ) Q) : σ[i]? = some (some (.ref a)) ∧ ∀ v G' H', Gr G H G' H' → rlV K H G' H' (.bool b) v → Q v H' := by
  unfold dIsX at h
  cases e : ρ[i]? with
  | none => simp only [e] at h; exact h.elim
  | some en =>
    cases en with
    | xc a' =>
      simp only [e] at h
      by_cases ea : a' = a
      · rw [if_pos ea] at h
        subst ea
        exact ⟨I.ent i _ e, h⟩
      · rw [if_neg ea] at h; exact h.elim
    | _ => simp only [e] at h; exact h.elim
theorem et_isX {K : Frag} {i : Nat} {a D : Addr} {c : V} {cv : Value} {b : Bool} (hc : ∀ u, RelV c u → u = cv) (hk : PySem.W.kitOne K (.ref D) cv = some b) : ET K W (tCB (rIsE K D a) (tCons (tVar i) (tCons (tC c) tNil))) (dIsX i a b) := fun B ρ σ G H I Q hQ => by
  obtain ⟨h1, h2⟩ := xc_at I hQ
  exact ⟨_, h1, c, cv, b, rfl, hc, hk, h2 (.bl b) G H (Gr.up (L2.Same.refl _) I.gh) mk_bool⟩
/-- isinstance(e, (c1, ..)) -/
def rIsET (K : PySem.W.Frag) (D a : Addr) : List V → Hp → VK → Prop := fun xs H Q => ∃ (tp : Addr) (cs : List V) (us : List Value) (b : Bool), xs = [.ref a, .ref tp] ∧ H tp = some (.tup cs) ∧ Paired ClsV cs us ∧ PySem.W.kitAny K (.ref D) us = some b ∧ Q (.bl b) H
theorem call_isET {a D : Addr} {oe : Obj} {pn : List (Addr × Obj)} (C : ExcC X.K D) (hz : Zc (.ref D) none oe) (hf : ∃ vs, oe.data = .fields vs) : CallR (X.suite a ((a, oe) :: pn)) (.builtin "isinstance") (rIsET X.K D a) := by
  intro pins s σ H xs us Q I r h
  obtain ⟨tp, cs, ws, b, rfl, hT, k, e, q⟩ := h
  obtain ⟨u1, u2, rfl, r1, r2⟩ := vals2 r
  cases (show u1 = Value.ref a from r1)
  cases (show u2 = Value.ref tp from r2)
  obtain ⟨hget, _⟩ := I.pin (a, oe) (List.mem_append.mpr (.inl List.mem_cons_self))
  obtain ⟨vs, hv⟩ := hf
  have J : PySem.W.InstAt s.heap a oe D none := by
    obtain ⟨oc, od, oda, osl⟩ := oe
    obtain ⟨h1, h2⟩ := hz
    dsimp only at h1 h2 hv
    subst h1 h2 hv
    exact ⟨hget, rfl, rfl, trivial⟩
  obtain ⟨_, its, rv, o, h1, h2, n, h3⟩ := (show ObjOk X.prog X.w H s.heap tp (.tup cs) from I.hok tp _ hT)
  have e3 := ClsV.all k rv
  subst e3
  obtain ⟨oc, od, dt, sl⟩ := o
  simp only at h2 h3
  subst h2 h3
  exact PySem.W.kia_tup (PySem.W.handS_kitx_exc C.hg C.hk C.hs C.hd C.ha C.hn C.ht C.hm) I.kIn J h1 e (fun z => nomatch z) fun tk => ⟨.bl b, H, I.kept (t' := tk) fun _ _ z => z, rfl, q⟩
/-- a tuple of classes -/
def tCs (vs : List V) : TA := fun _ H Q => Q vs H
theorem et_isXT {K : Frag} {i : Nat} {a D : Addr} {cs : List V} {us : List Value} {b : Bool} (hl : cs.length ≤ sizeLine) (hc : Paired ClsV cs us) (hk : PySem.W.kitAny K (.ref D) us = some b) : ET K W (tCB (rIsET K D a) (tCons (tVar i) (tCons (tTup (tCs cs)) tNil))) (dIsX i a b) := fun B ρ σ G H I Q hQ => by
  obtain ⟨h1, h2⟩ := xc_at I hQ
  refine ⟨_, h1, hl, fun p hp => ?_⟩
  exact ⟨p, cs, us, b, rfl, upd_same, hc, hk, h2 (.bl b) G _ (Gr.tmp I.gh hp _) mk_bool⟩
end
/-- what the kinds of a caught exception of the class c are -/
structure KitF (K : Frag) (cl : Str → Addr) (ds : List Str) (c : Str) : Prop where
  C : ExcC K (cl c)
  one : ∀ d ∈ ds, PySem.W.kitOne K (.ref (cl c)) (.ref (cl d)) = some (c == d)
  pe : PySem.W.kitOne K (.ref (cl c)) (.ref (cl "PartError")) = some true
  ve : PySem.W.kitOne K (.ref (cl c)) (.type "ValueError") = some true
theorem KitF.any {K : Frag} {cl : Str → Addr} {ds : List Str} {c : Str} (F : KitF K cl ds c) : ∀ es : List Str, (∀ d ∈ es, d ∈ ds) → PySem.W.kitAny K (.ref (cl c)) (es.map fun d => .ref (cl d)) = some (es.any fun d => c == d)
  | [], _ => rfl
  | d :: es, h => by
    have h1 := F.one d (h d List.mem_cons_self)
    have h2 := F.any es fun x hx => h x (List.mem_cons_of_mem _ hx)
    rw [List.map_cons, List.any_cons]
    unfold PySem.W.kitAny
    rw [h1]
    cases e : (c == d) with
    | true => rfl
    | false => simp only [Bool.false_or]; exact h2
section
variable {X : Cx} {W : Str → Hp → Prop} {cl : Str → Addr} {n d c : Str} {ds es : List Str} {p p1 p2 p3 pos : Pos} {a : Addr} {oe : Obj} {pn : List (Addr × Obj)} {xs : List Expr}
/-- isinstance(e, D) -/
theorem xIsX (i : Nat) (F : KitF X.K cl ds c) (hz : Zc (.ref (cl c)) none oe) (hf : ∃ vs, oe.data = .fields vs) (gd : X.mg d = some (.ref (cl d))) (hm : X.mg "isinstance" = none) (hd : d ∈ ds := by decide) (hN : X.N[i]? = some n := by rfl) (hv : Vis X.env.scope n := by first | exact Or.inl rfl | exact Or.inr (Or.inl rfl) | exact Or.inr (Or.inr rfl))
    (h1 : (n == ("__debug__" : Str)) = false := by decide) (h2 : (n == ("__classdict__" : Str)) = false := by decide) (h3 : (d == ("__debug__" : Str)) = false := by decide) (g1 : Gl X "isinstance" := by rfl) (g2 : Gl X d := by rfl)
    (e1 : starEach [.Name n p1, .Name d p2] X.env = (false, eval (.Name n p1) X.env) :: starEach [.Name d p2] X.env := by rfl) (e2 : starEach [.Name d p2] X.env = (false, eval (.Name d p2) X.env) :: starEach [] X.env := by rfl) (hpl : (backTo pos (starEach [.Name d p2] X.env)).any (·.1) = false := by rfl) :
    XV (X.suite a ((a, oe) :: pn)) W (.Call (.Name "isinstance" p) [.Name n p1, .Name d p2] [] pos) (tCB (rIsE X.K (cl c) a) (tCons (tVar i) (tCons (tC (.ref (cl d))) tNil))) (dIsX i a (c == d)) :=
  ⟨pe_callB (X := X.suite a ((a, oe) :: pn)) (call_isE F.C hz hf) g1 hm (by decide +kernel) (pa_cons (pe_var (X := X.suite a ((a, oe) :: pn)) hN hv h1 h2) (pa_cons (pe_glob (X := X.suite a ((a, oe) :: pn)) (v := .ref (cl d)) g2 gd rfl h3) pa_nil e2) e1) (by decide) (by decide) e1 hpl,
   et_isX (fun u r => r) (F.one d hd)⟩
/-- isinstance(e, ValueError) -/
theorem xIsXV (i : Nat) (F : KitF X.K cl ds c) (hz : Zc (.ref (cl c)) none oe) (hf : ∃ vs, oe.data = .fields vs) (gd : X.mg "ValueError" = none) (hm : X.mg "isinstance" = none) (hN : X.N[i]? = some n := by rfl) (hv : Vis X.env.scope n := by first | exact Or.inl rfl | exact Or.inr (Or.inl rfl) | exact Or.inr (Or.inr rfl))
    (h1 : (n == ("__debug__" : Str)) = false := by decide) (h2 : (n == ("__classdict__" : Str)) = false := by decide) (g1 : Gl X "isinstance" := by rfl) (g2 : Gl X "ValueError" := by rfl)
    (e1 : starEach [.Name n p1, .Name "ValueError" p2] X.env = (false, eval (.Name n p1) X.env) :: starEach [.Name "ValueError" p2] X.env := by rfl) (e2 : starEach [.Name "ValueError" p2] X.env = (false, eval (.Name "ValueError" p2) X.env) :: starEach [] X.env := by rfl) (hpl : (backTo pos (starEach [.Name "ValueError" p2] X.env)).any (·.1) = false := by rfl) :
    XV (X.suite a ((a, oe) :: pn)) W (.Call (.Name "isinstance" p) [.Name n p1, .Name "ValueError" p2] [] pos) (tCB (rIsE X.K (cl c) a) (tCons (tVar i) (tCons (tC (.ty "ValueError")) tNil))) (dIsX i a true) :=
  ⟨pe_callB (X := X.suite a ((a, oe) :: pn)) (call_isE F.C hz hf) g1 hm (by decide +kernel) (pa_cons (pe_var (X := X.suite a ((a, oe) :: pn)) hN hv h1 h2) (pa_cons (pe_bltn (X := X.suite a ((a, oe) :: pn)) (v := .ty "ValueError") g2 gd (by decide +kernel) rfl) pa_nil e2) e1) (by decide) (by decide) e1 hpl,
   et_isX (fun u r => r) F.ve⟩
theorem clNil : PA X [] (tCs []) := pa_nil
theorem clCons (gd : X.mg d = some (.ref (cl d))) (t : PA X xs (tCs (es.map fun d => V.ref (cl d)))) (g2 : Gl X d := by rfl) (h3 : (d == ("__debug__" : Str)) = false := by decide) (e1 : starEach (.Name d p :: xs) X.env = (false, eval (.Name d p) X.env) :: starEach xs X.env := by rfl) :
    PA X (.Name d p :: xs) (tCs ((d :: es).map fun d => V.ref (cl d))) := pa_cons (te := tC (.ref (cl d))) (pe_glob (v := .ref (cl d)) g2 gd rfl h3) t e1
theorem cls_paired : ∀ es : List Str, Paired ClsV (es.map fun d => V.ref (cl d)) (es.map fun d => Value.ref (cl d))
  | [] => .nil
  | _ :: es => .cons (.own _) (cls_paired es)
/-- isinstance(e, (D1, ..)) -/
theorem xIsXT (i : Nat) (F : KitF X.K cl ds c) (hz : Zc (.ref (cl c)) none oe) (hf : ∃ vs, oe.data = .fields vs) (hm : X.mg "isinstance" = none) {x1} {tp : Pos} (t : PA (X.suite a ((a, oe) :: pn)) xs (tCs (es.map fun d => V.ref (cl d)))) (hd : ∀ d ∈ es, d ∈ ds := by decide) (hl : es.length ≤ 100 := by decide) (hN : X.N[i]? = some n := by rfl) (hv : Vis X.env.scope n := by first | exact Or.inl rfl | exact Or.inr (Or.inl rfl) | exact Or.inr (Or.inr rfl))
    (h1 : (n == ("__debug__" : Str)) = false := by decide) (h2 : (n == ("__classdict__" : Str)) = false := by decide) (g1 : Gl X "isinstance" := by rfl)
    (e1 : starEach [.Name n p1, .Tuple xs x1 tp] X.env = (false, eval (.Name n p1) X.env) :: starEach [.Tuple xs x1 tp] X.env := by rfl) (e2 : starEach [.Tuple xs x1 tp] X.env = (false, eval (.Tuple xs x1 tp) X.env) :: starEach [] X.env := by rfl) (hpl : (backTo pos (starEach [.Tuple xs x1 tp] X.env)).any (·.1) = false := by rfl) :
    XV (X.suite a ((a, oe) :: pn)) W (.Call (.Name "isinstance" p) [.Name n p1, .Tuple xs x1 tp] [] pos) (tCB (rIsET X.K (cl c) a) (tCons (tVar i) (tCons (tTup (tCs (es.map fun d => V.ref (cl d)))) tNil))) (dIsX i a (es.any fun d => c == d)) :=
  ⟨pe_callB (X := X.suite a ((a, oe) :: pn)) (call_isET F.C hz hf) g1 hm (by decide +kernel) (pa_cons (pe_var (X := X.suite a ((a, oe) :: pn)) hN hv h1 h2) (pa_cons (pe_tup t) pa_nil e2) e1) (by decide) (by decide) e1 hpl,
   et_isXT (by rw [List.length_map, sizeLine_eq]; omega) (cls_paired es) (F.any es hd)⟩
end
end PD

set_option Elab.async false
set_option linter.all false
set_option maxRecDepth 100000
/-! The data layer, 15: sums, texts of numbers, joined texts; a def that calls itself. -/
namespace PD
open PySem PySem.Spec PyProof.Rows L2
section
variable {K : Frag} {W : Str → Hp → Prop} {G H : Hp}
def dSum1 : List D → Option D
  | [.list es] => match intsOf es with
    | some ns => some (.int ns.sum)
    | none => none
  | _ => none
theorem dr_sum1 : DRC K (rlV K) (rSum K) dSum1 := fun G H xs ds s rx Q hQ => by
  unfold dSum1 at hQ
  split at hQ
  · rename_i es
    obtain ⟨v, rfl, r⟩ := one_read rx
    obtain ⟨z, p, vs, rfl, hp, rp⟩ := rd_list s r
    cases hi : intsOf es with
    | none => simp only [hi] at hQ; exact hQ.elim
    | some ns =>
      simp only [hi] at hQ
      have e : vs = ns.map V.int := repL_ints.mp (by rw [← intsOf_eq hi]; exact rp)
      subst e
      exact ⟨p, ns, rfl, hp, hQ _ G H (Gr.rfl' s) mk_int⟩
  · exact hQ.elim
def dStr1 : List D → Option D
  | [.int i] => if inR 1000000 1000000 i = true then some (.str (toString i)) else none
  | _ => none
theorem log_str {i : Int} (h : inR 1000000 1000000 i = true) : i.natAbs.log2 < 1920 := by
  have h := inR_iff.mp h
  have h1 : i.natAbs < 2 ^ 1920 := Nat.lt_of_lt_of_le (show i.natAbs < 2 ^ 20 by omega) (Nat.pow_le_pow_right (by omega) (by omega))
  by_cases z : i.natAbs = 0
  · rw [z]; decide
  · exact (Nat.log2_lt z).mpr h1
theorem dr_str1 : DRC K (rlV K) (fun xs H Q => ∃ i : Int, xs = [V.int i] ∧ i.natAbs.log2 < 1920 ∧ Q (V.str (toString i)) H) dStr1 := fun G H xs ds s rx Q hQ => by
  unfold dStr1 at hQ
  split at hQ
  · rename_i i
    obtain ⟨v, rfl, r⟩ := one_read rx
    obtain rfl := rd_int r
    by_cases c : inR 1000000 1000000 i = true
    · rw [if_pos c] at hQ
      exact ⟨i, rfl, log_str c, hQ _ G H (Gr.rfl' s) mk_str⟩
    · rw [if_neg c] at hQ; exact hQ.elim
  · exact hQ.elim
def strsOf : List D → Option (List Str)
  | [] => some []
  | .str i :: r => (strsOf r).map (i :: ·)
  | _ => none
theorem strsOf_eq : ∀ {ds : List D} {ns : List Str}, strsOf ds = some ns → ds = ns.map PyData.str
  | [], ns, h => by cases h; rfl
  | .str i :: r, ns, h => by
    unfold strsOf at h
    cases e : strsOf r with
    | none => rw [e] at h; cases h
    | some ms =>
      rw [e] at h
      cases h
      rw [strsOf_eq e]
      rfl
  | .none :: r, ns, h => by cases h
  | .bool _ :: r, ns, h => by cases h
  | .int _ :: r, ns, h => by cases h
  | .list _ :: r, ns, h => by cases h
  | .tuple _ :: r, ns, h => by cases h
  | .dict _ :: r, ns, h => by cases h
theorem strsOf_map (ns : List Str) : strsOf (ns.map PyData.str) = some ns := by
  induction ns with
  | nil => rfl
  | cons n ns ih => simp [strsOf, ih]
theorem repL_strs : ∀ {ns : List Str} {vs : List V}, RepL K G (ns.map PyData.str) vs ↔ vs = ns.map V.str
  | [], vs => repL_nil
  | n :: ns, [] => by
    constructor
    · intro h; have := h.len; simp at this
    · intro h; simp at h
  | n :: ns, v :: vs => by
    rw [List.map_cons, repL_cons, repL_strs, List.map_cons]
    constructor
    · rintro ⟨h, rfl⟩
      unfold Rep at h
      rw [h]
    · intro h
      cases h
      exact ⟨by unfold Rep; rfl, rfl⟩
/-- sep.join(xs) -/
def joinD (d e : D) : Option D := match d, e with
  | .str a, .list es => match strsOf es with
    | some ys => if Nat.ble ((ys.map (·.length)).sum + ys.length * a.length) 16777216 = true then some (.str (Txt.join a ys)) else none
    | none => none
  | _, _ => none
def dJoin (fa fb : Env → Res D) : Env → Res D := fun ρ => (fa ρ).bind fun d => match d with
  | .str _ => (fb ρ).bind fun e => Res.of (joinD d e)
  | _ => .stuck
variable {ta tb : TE} {fa fb : Env → Res D}
theorem et_join (ha : ER K W ta fa) (hb : ER K W tb fb) : ET K W (tM1 (fun x xs H Q => ∃ a p, ∃ ys : List Str, x = .str a ∧ xs = [.ref p] ∧ (SqL K H p (ys.map V.str) ∨ SqT K H p (ys.map V.str)) ∧
      (ys.map (·.length)).sum + ys.length * a.length ≤ 16777216 ∧ Q (.str (Txt.join a ys)) H) ta tb) (dJoin fa fb) := fun B ρ σ G H I Q hQ =>
  j_bind (ta := ta) anti_V ha I hQ fun x d G1 H1 g1 r1 I1 q1 => by
    cases d with
    | str a =>
      obtain rfl := rd_str r1
      refine ⟨⟨a, rfl⟩, ?_⟩
      refine j_bind (ta := tb) anti_V hb I1 q1 fun y e G2 H2 g2 r2 I2 q2 => ?_
      unfold joinD at q2
      cases e with
      | list es =>
        obtain ⟨z, p, vs, rfl, h1, h2⟩ := rd_list I2.gh r2
        simp only at q2
        cases hi : strsOf es with
        | none => simp only [hi] at q2; exact q2.elim
        | some ys =>
          simp only [hi] at q2
          have e : vs = ys.map V.str := repL_strs.mp (by rw [← strsOf_eq hi]; exact h2)
          subst e
          by_cases c : Nat.ble ((ys.map (·.length)).sum + ys.length * a.length) 16777216 = true
          · rw [if_pos c] at q2
            exact ⟨a, p, ys, rfl, rfl, .inl h1, Nat.le_of_ble_eq_true c, q2 _ G2 H2 I2.gr mk_str⟩
          · rw [if_neg c] at q2; exact q2.elim
      | _ => exact q2.elim
    | _ => exact q1.elim
end
section
variable {X : Cx} {W : Str → Hp → Prop} {a b e : Expr} {es : List Expr} {ta tb : TE} {tA : TA} {fa fb : Env → Res D} {fs : Env → Res (List D)} {pos apos p : Pos}
theorem xJoin (ha : XR X W a ta fa) (hb : XR X W b tb fb) (hs : starEach [b] X.env = [(false, eval b X.env)] := by rfl) (hbase : attributeBase a "join" X.env (eval a X.env) = eval a X.env := by rfl) (hline : (apos.endLine == pos.line) = true := by rfl) :
    XV X W (.Call (.Attribute a "join" apos) [b] [] pos) (tM1 (fun x xs H Q => ∃ a p, ∃ ys : List Str, x = .str a ∧ xs = [.ref p] ∧ (SqL X.K H p (ys.map V.str) ∨ SqT X.K H p (ys.map V.str)) ∧
      (ys.map (·.length)).sum + ys.length * a.length ≤ 16777216 ∧ Q (.str (Txt.join a ys)) H) ta tb) (dJoin fa fb) := ⟨pe_join ha.pe hb.pe hs hbase hline, et_join ha.j hb.j⟩
theorem xSum1 (hc : X.calm = true) (hm : X.mg "sum" = none) (ha : XAR X W (e :: es) tA fs) (hg : Gl X "sum" := by rfl) (he : starEach (e :: es) X.env = (false, eval e X.env) :: starEach es X.env := by rfl) (hpl : (backTo pos (starEach es X.env)).any (·.1) = false := by rfl) :
    XV X W (.Call (.Name "sum" p) (e :: es) [] pos) (tCB (rSum X.K) tA) (dCB dSum1 fs) := xCB (cr_sum hc) anti_V dr_sum1 hm (by decide +kernel) ha hg (by decide) (by decide) he hpl
theorem xStr1 (hm : X.mg "str" = none) (ha : XAR X W (e :: es) tA fs) (hg : Gl X "str" := by rfl) (he : starEach (e :: es) X.env = (false, eval e X.env) :: starEach es X.env := by rfl) (hpl : (backTo pos (starEach es X.env)).any (·.1) = false := by rfl) :
    XV X W (.Call (.Name "str" p) (e :: es) [] pos) (tCB (fun xs H Q => ∃ i : Int, xs = [V.int i] ∧ i.natAbs.log2 < 1920 ∧ Q (V.str (toString i)) H) tA) (dCB dStr1 fs) := xCT call_str_int anti_V dr_str1 hm (by decide +kernel) ha hg (by decide) (by decide) he hpl
end
/-! a def that calls itself: no depth is left -/
theorem gfn_0 {P : Program} {w : World} {K : Frag} {mg : Str → Option Value} {base : Heap} {cl : Str → Addr} {x : Str} {st : Stmt} {N ps : List Str} {n : Nat} (k : Nat) (d : DefAt K mg x st ps) (S : FnScope N ps (defScope st)) (hn : ps.length = n) : GFn P w K mg base cl x (rlV K) (k + 1) n (fun _ => .stuck) := by
  obtain ⟨f, fd, Fn, hm, hb⟩ := d
  have hF : funT n N.length (fun _ => Out.stuck) = fun _ => .stuck := by
    funext ds; unfold funT; split <;> rfl
  have h := fn_T (P := P) (w := w) (mg := mg) (base := base) (cl := cl) (k := k) (F := fun _ => .stuck) Fn S hn (fun cdv A outer s H E hr => ⟨fun _ _ _ => False, ⟨fun _ _ _ _ _ _ h => h.elim⟩, fun _ _ _ _ _ _ _ hQ => hQ⟩)
  rw [hF] at h
  exact ⟨f, fd, ps, h, hm, Fn.kp, .all hb, fun ds e => absurd rfl e⟩
/-! within a comprehension: the reading is brought to the outer context's words -/
theorem X1.cast {α : Type} {rel : Rl α V} {X : Cx} {W : Str → Hp → Prop} {e : Expr} {te te' : TE} {f : Env → Res α} (h : X1 rel X W e te' f) (he : te' = te := by ((try dsimp only [Cx.blk, Cx.tr, Cx.suite]); try rfl)) : X1 rel X W e te f := he ▸ h
theorem XT.cast {X : Cx} {W : Str → Hp → Prop} {e : Expr} {te te' : TT} {f : Env → Res Bool} (h : XT X W e te' f) (he : te' = te := by ((try dsimp only [Cx.blk, Cx.tr, Cx.suite]); try rfl)) : XT X W e te f := he ▸ h
theorem XG.cast {X : Cx} {js : List Nat} {e : Expr} {te te' : TG} {f : D → Env → Option Env} (h : XG X js e te' f) (he : te' = te := by ((try dsimp only [Cx.blk, Cx.tr, Cx.suite]); try rfl)) : XG X js e te f := he ▸ h
theorem XSs.cast {X : Cx} {W : Str → Hp → Prop} {e : List Stmt} {te te' : TS} {f : Env → Out} (h : XSs X W e te' f) (he : te' = te := by ((try dsimp only [Cx.blk, Cx.tr, Cx.suite]); try rfl)) : XSs X W e te f := he ▸ h
theorem XA.cast {X : Cx} {W : Str → Hp → Prop} {e : List Expr} {te te' : TA} {f : Env → Res (List D)} (h : XA X W e te' f) (he : te' = te := by ((try dsimp only [Cx.blk, Cx.tr, Cx.suite]); try rfl)) : XA X W e te f := he ▸ h
end PD

set_option Elab.async false
set_option linter.all false
set_option maxRecDepth 100000
/-! The data layer, values: how a denotation is reckoned at a known environment (lemmas for simp only; nothing is opened that is not known). -/
namespace PD
open PySem PySem.Spec PyProof.Rows L2
section
variable {α β : Type} {a : α} {ρ ρ' : Env} {d e : D} {c : Str} {o : Ob}
theorem v_bind_ok {f : α → Res β} : (Res.ok a).bind f = f a := rfl
theorem v_bind_exc {f : α → Res β} : (Res.exc c : Res α).bind f = .exc c := rfl
theorem v_bind_stuck {f : α → Res β} : (Res.stuck : Res α).bind f = .stuck := rfl
theorem v_bindS_ok {f : α → Out} : (Res.ok a).bindS f = f a := rfl
theorem v_bindS_exc {f : α → Out} : (Res.exc c : Res α).bindS f = .exc c := rfl
theorem v_bindS_stuck {f : α → Out} : (Res.stuck : Res α).bindS f = .stuck := rfl
theorem v_of_some : Res.of (some a) = .ok a := rfl
theorem v_of_none : Res.of (none : Option α) = .stuck := rfl
theorem v_seq_nx {f : Env → Out} : (Out.nx ρ).seq f = f ρ := rfl
theorem v_seq_rt {f : Env → Out} : (Out.rt d ρ).seq f = .rt d ρ := rfl
theorem v_seq_rn {f : Env → Out} : (Out.rn o ρ).seq f = .rn o ρ := rfl
theorem v_seq_bk {f : Env → Out} : (Out.bk ρ).seq f = .bk ρ := rfl
theorem v_seq_ct {f : Env → Out} : (Out.ct ρ).seq f = .ct ρ := rfl
theorem v_seq_exc {f : Env → Out} : (Out.exc c).seq f = .exc c := rfl
theorem v_seq_stuck {f : Env → Out} : (Out.stuck).seq f = .stuck := rfl
def selS (r : Res Bool) (f g : Env → Out) (ρ : Env) : Out := match r with
  | .ok true => f ρ
  | .ok false => g ρ
  | .exc c => .exc c
  | .stuck => .stuck
theorem v_ifS {fc : Env → Res Bool} {f g : Env → Out} : dIfS fc f g ρ = selS (fc ρ) f g ρ := by
  unfold dIfS selS
  cases fc ρ with
  | ok b => cases b <;> rfl
  | exc c => rfl
  | stuck => rfl
theorem v_sel_t {f g : Env → Out} : selS (.ok true) f g ρ = f ρ := rfl
theorem v_sel_f {f g : Env → Out} : selS (.ok false) f g ρ = g ρ := rfl
theorem v_sel_exc {f g : Env → Out} : selS (.exc c) f g ρ = .exc c := rfl
theorem v_sel_stuck {f g : Env → Out} : selS .stuck f g ρ = .stuck := rfl
def selR (r : Res Bool) (f g : Env → Res α) (ρ : Env) : Res α := match r with
  | .ok true => f ρ
  | .ok false => g ρ
  | .exc c => .exc c
  | .stuck => .stuck
theorem v_if {fc : Env → Res Bool} {f g : Env → Res α} : dIf fc f g ρ = selR (fc ρ) f g ρ := by
  unfold dIf selR
  cases fc ρ with
  | ok b => cases b <;> rfl
  | exc c => rfl
  | stuck => rfl
theorem v_and {f g : Env → Res Bool} : dAnd f g ρ = selR (f ρ) g (fun _ => .ok false) ρ := by
  unfold dAnd selR
  cases f ρ with
  | ok b => cases b <;> rfl
  | exc c => rfl
  | stuck => rfl
theorem v_or {f g : Env → Res Bool} : dOr f g ρ = selR (f ρ) (fun _ => .ok true) g ρ := by
  unfold dOr selR
  cases f ρ with
  | ok b => cases b <;> rfl
  | exc c => rfl
  | stuck => rfl
theorem v_selR_t {f g : Env → Res α} : selR (.ok true) f g ρ = f ρ := rfl
theorem v_selR_f {f g : Env → Res α} : selR (.ok false) f g ρ = g ρ := rfl
theorem v_selR_exc {f g : Env → Res α} : selR (.exc c) f g ρ = .exc c := rfl
theorem v_selR_stuck {f g : Env → Res α} : selR .stuck f g ρ = .stuck := rfl
def notR (r : Res Bool) : Res Bool := r.bind fun b => .ok (!b)
theorem v_not {f : Env → Res Bool} : dNot f ρ = notR (f ρ) := rfl
theorem v_notR {b : Bool} : notR (.ok b) = .ok (!b) := rfl
theorem v_notR_exc : notR (.exc c) = .exc c := rfl
def testR (r : Res D) : Res Bool := r.bind fun d => match d with
  | .bool b => .ok b
  | _ => .stuck
theorem v_test {f : Env → Res D} : dTest f ρ = testR (f ρ) := rfl
theorem v_testR {b : Bool} : testR (.ok (.bool b)) = .ok b := rfl
theorem v_testR_exc : testR (.exc c) = .exc c := rfl
/-- a value's truth, which then picks -/
def selV (r : Res D) (f g : Env → Res D) (ρ : Env) : Res D := match r with
  | .ok (.bool true) => f ρ
  | .ok (.bool false) => g ρ
  | .ok _ => .stuck
  | .exc c => .exc c
  | .stuck => .stuck
theorem v_andV {f g : Env → Res D} : dAndV f g ρ = selV (f ρ) g (fun _ => .ok (.bool false)) ρ := by
  unfold dAndV selV
  cases f ρ with
  | ok b =>
    cases b with
    | bool b => cases b <;> rfl
    | _ => rfl
  | exc c => rfl
  | stuck => rfl
theorem v_orV {f g : Env → Res D} : dOrV f g ρ = selV (f ρ) (fun _ => .ok (.bool true)) g ρ := by
  unfold dOrV selV
  cases f ρ with
  | ok b =>
    cases b with
    | bool b => cases b <;> rfl
    | _ => rfl
  | exc c => rfl
  | stuck => rfl
theorem v_selV_t {f g : Env → Res D} : selV (.ok (.bool true)) f g ρ = f ρ := rfl
theorem v_selV_f {f g : Env → Res D} : selV (.ok (.bool false)) f g ρ = g ρ := rfl
def notV (r : Res D) : Res D := r.bind fun b => match b with
  | .bool c => .ok (.bool !c)
  | _ => .stuck
theorem v_notV {f : Env → Res D} : dNotV f ρ = notV (f ρ) := rfl
theorem v_notV' {b : Bool} : notV (.ok (.bool b)) = .ok (.bool !b) := rfl
/-! chains -/
def chainR (g' : D → D → Option D) (e : D) (r : Res D) (fc : Env → Res D) (ρ : Env) : Res D := r.bind fun z => match z with
  | .bool true => (fc ρ).bind fun f => Res.of (g' e f)
  | .bool false => .ok (.bool false)
  | _ => .stuck
theorem v_chain {g g' : D → D → Option D} {fa fb fc : Env → Res D} : dChain g g' fa fb fc ρ = (fa ρ).bind fun d => (fb ρ).bind fun e => chainR g' e (Res.of (g d e)) fc ρ := rfl
theorem v_chain_t {g' : D → D → Option D} {fc : Env → Res D} : chainR g' e (.ok (.bool true)) fc ρ = (fc ρ).bind fun f => Res.of (g' e f) := rfl
theorem v_chain_f {g' : D → D → Option D} {fc : Env → Res D} : chainR g' e (.ok (.bool false)) fc ρ = .ok (.bool false) := rfl
/-! operations at known kinds -/
theorem v_add_i {i j : Int} : dAdd (.int i) (.int j) = some (.int (i + j)) := rfl
theorem v_add_s {x y : Str} : dAdd (.str x) (.str y) = if x.length + y.length ≤ sizeLine then some (.str (x ++ y)) else none := rfl
theorem v_add_l {x y : List D} : dAdd (.list x) (.list y) = if x.length + y.length ≤ sizeLine then some (.list (x ++ y)) else none := rfl
theorem v_add_t {x y : List D} : dAdd (.tuple x) (.tuple y) = if x.length + y.length ≤ sizeLine then some (.tuple (x ++ y)) else none := rfl
theorem v_cat {x y : List D} : dCat (.list x) (.list y) = if x.length + y.length ≤ sizeLine then some (.l (x ++ y)) else none := rfl
theorem v_sub {i j : Int} : dSub (.int i) (.int j) = some (.int (i - j)) := rfl
theorem v_mul {i j : Int} : dMul (.int i) (.int j) = if mulOk i j = true then some (.int (i * j)) else none := rfl
theorem v_div {i j : Int} : dDiv (.int i) (.int j) = if divOk j = true then some (.int (i / j)) else none := rfl
theorem v_mod {i j : Int} : dMod (.int i) (.int j) = if divOk j = true then some (.int (i % j)) else none := rfl
theorem v_pow {i j : Int} : dPow (.int i) (.int j) = if 0 ≤ j ∧ j ≤ 1000 ∧ i.natAbs < 2 ^ 64 then some (.int (i ^ j.toNat)) else none := rfl
theorem v_neg {i : Int} : dNeg (.int i) = some (.int (-i)) := rfl
theorem v_cmp {p : Int → Int → Bool} {i j : Int} : dCmpI p (.int i) (.int j) = some (.bool (p i j)) := rfl
theorem v_eq_ii {i j : Int} : dEq (.int i) (.int j) = some (.bool (i == j)) := rfl
theorem v_eq_bb {i j : Bool} : dEq (.bool i) (.bool j) = some (.bool (i == j)) := rfl
theorem v_eq_ss {i j : Str} : dEq (.str i) (.str j) = some (.bool (i == j)) := rfl
theorem v_eq_nn : dEq .none .none = some (.bool true) := rfl
theorem v_ne_ii {i j : Int} : dNe (.int i) (.int j) = some (.bool (!(i == j))) := rfl
theorem v_ne_bb {i j : Bool} : dNe (.bool i) (.bool j) = some (.bool (!(i == j))) := rfl
theorem v_ne_ss {i j : Str} : dNe (.str i) (.str j) = some (.bool (!(i == j))) := rfl
theorem v_eq_ll {x y : List D} : dEq (.list x) (.list y) = if SeqAt.shaped (.list x) = true ∧ SeqAt.shaped (.list y) = true then some (.bool (PyData.eqv (.list x) (.list y))) else none := by
  unfold dEq eqD; simp only [scalD]; split <;> rfl
theorem v_eq_tt {x y : List D} : dEq (.tuple x) (.tuple y) = if SeqAt.shaped (.tuple x) = true ∧ SeqAt.shaped (.tuple y) = true then some (.bool (PyData.eqv (.tuple x) (.tuple y))) else none := by
  unfold dEq eqD; simp only [scalD]; split <;> rfl
theorem v_ne_ll {x y : List D} : dNe (.list x) (.list y) = if SeqAt.shaped (.list x) = true ∧ SeqAt.shaped (.list y) = true then some (.bool (!PyData.eqv (.list x) (.list y))) else none := by
  unfold dNe eqD; simp only [scalD]; split <;> rfl
theorem v_ne_tt {x y : List D} : dNe (.tuple x) (.tuple y) = if SeqAt.shaped (.tuple x) = true ∧ SeqAt.shaped (.tuple y) = true then some (.bool (!PyData.eqv (.tuple x) (.tuple y))) else none := by
  unfold dNe eqD; simp only [scalD]; split <;> rfl
theorem v_eq0 {neg : Bool} {x : List D} : dEq0 neg (.list x) (.list []) = some (.bool (if neg then !x.isEmpty else x.isEmpty)) := rfl
theorem v_in_t {neg : Bool} {es : List D} : dIn neg d (.tuple es) = if flatD d = true ∧ es.all flatD = true then some (.bool (if neg then !inS d es else inS d es)) else none := rfl
theorem v_in_l {neg : Bool} {es : List D} : dIn neg d (.list es) = if flatD d = true ∧ es.all flatD = true then some (.bool (if neg then !inS d es else inS d es)) else none := rfl
theorem v_flat_i {i : Int} : flatD (.int i) = true := rfl
theorem v_flat_s {i : Str} : flatD (.str i) = true := rfl
theorem v_flat_b {i : Bool} : flatD (.bool i) = true := rfl
theorem v_flat_n : flatD .none = true := rfl
theorem v_isB {neg a b : Bool} : dIsB neg (.bool a) (.bool b) = some (.bool (if neg then !(a == b) else (a == b))) := rfl
theorem v_isN_n {neg : Bool} : dIsN neg .none .none = some (.bool (!neg)) := rfl
theorem v_isN_i {neg : Bool} {i : Int} : dIsN neg (.int i) .none = some (.bool neg) := rfl
theorem v_isN_t {neg : Bool} {i : List D} : dIsN neg (.tuple i) .none = some (.bool neg) := rfl
theorem v_isN_l {neg : Bool} {i : List D} : dIsN neg (.list i) .none = some (.bool neg) := rfl
theorem v_isN_s {neg : Bool} {i : Str} : dIsN neg (.str i) .none = some (.bool neg) := rfl
theorem v_ix_l {es : List D} {i : Int} : dIx (.list es) (.int i) = atI es i := rfl
theorem v_ix_t {es : List D} {i : Int} : dIx (.tuple es) (.int i) = atI es i := rfl
theorem v_ix_s {z : Str} {i : Int} : dIx (.str z) (.int i) = if z.length ≤ sizeLine then (atI z.cps.toList i).map fun c => .str ⟨#[c]⟩ else none := rfl
theorem v_slN {es : List D} {lo hi : Option Int} : dSlN (.list es) lo hi = some (.l (cutD es lo hi)) := rfl
theorem v_slV_l {es : List D} {lo hi : Option Int} : dSlV (.list es) lo hi = some (.list (cutD es lo hi)) := rfl
theorem v_slV_t {es : List D} {lo hi : Option Int} : dSlV (.tuple es) lo hi = some (.tuple (cutD es lo hi)) := rfl
theorem v_slV_s {z : Str} {lo hi : Option Int} : dSlV (.str z) lo hi = if z.length ≤ sizeLine then some (.str (cutS z lo hi)) else none := rfl
theorem v_len_l {es : List D} : dLen1 [.list es] = some (.int es.length) := rfl
theorem v_len_t {es : List D} : dLen1 [.tuple es] = some (.int es.length) := rfl
theorem v_len_s {z : Str} : dLen1 [.str z] = if z.length ≤ sizeLine then some (.int z.length) else none := rfl
theorem v_len_d {es : List (D × D)} : dLenD [.dict es] = some (.int es.length) := rfl
theorem v_list_l {es : List D} : dList [.list es] = some (.l es) := rfl
theorem v_list_t {es : List D} : dList [.tuple es] = some (.l es) := rfl
theorem v_tuple_l {es : List D} : dTuple [.list es] = some (.tuple es) := rfl
theorem v_tuple_t {es : List D} : dTuple [.tuple es] = some (.tuple es) := rfl
theorem v_sorted {es : List D} : dSorted [.list es] = if sortOk es = true then some (.l (sortD es)) else none := rfl
theorem v_seqOf_l {es : List D} : seqOf (.list es) = some es := rfl
theorem v_seqOf_t {es : List D} : seqOf (.tuple es) = some es := rfl
theorem v_keyOf_i {i : Int} : PD.keyOf (.int i) = some (.inl i) := rfl
theorem v_keyOf_s {i : Str} : PD.keyOf (.str i) = some (.inr i) := rfl
theorem v_data_l {es : List D} : (Ob.l es).data = .list es := rfl
theorem v_data_d {es : List (Key × D)} : (Ob.d es).data = .dict (es.map fun p => (keyD p.1, p.2)) := rfl
/-! kinds -/
def isiR (T : String) (r : Res D) : Res D := r.bind fun d => match kitB (tyD d) T with
  | some b => .ok (.bool b)
  | none => .stuck
theorem v_isi {T : String} {f : Env → Res D} : dIsi T f ρ = isiR T (f ρ) := rfl
/-- what isinstance tells -/
def isiD (T : String) (d : D) : Bool := match T, d with
  | "int", .int _ => true | "int", .bool _ => true | "bool", .bool _ => true | "str", .str _ => true | "list", .list _ => true | "tuple", .tuple _ => true | "dict", .dict _ => true | _, _ => false
theorem v_isi_int : isiR "int" (.ok d) = .ok (.bool (isiD "int" d)) := by cases d <;> rfl
theorem v_isi_bool : isiR "bool" (.ok d) = .ok (.bool (isiD "bool" d)) := by cases d <;> rfl
theorem v_isi_str : isiR "str" (.ok d) = .ok (.bool (isiD "str" d)) := by cases d <;> rfl
theorem v_isi_list : isiR "list" (.ok d) = .ok (.bool (isiD "list" d)) := by cases d <;> rfl
theorem v_isi_tuple : isiR "tuple" (.ok d) = .ok (.bool (isiD "tuple" d)) := by cases d <;> rfl
theorem i_int_i {i : Int} : isiD "int" (.int i) = true := rfl
theorem i_bool_i {i : Int} : isiD "bool" (.int i) = false := rfl
theorem i_tuple_i {i : Int} : isiD "tuple" (.int i) = false := rfl
theorem i_tuple_t {i : List D} : isiD "tuple" (.tuple i) = true := rfl
theorem i_int_t {i : List D} : isiD "int" (.tuple i) = false := rfl
theorem i_list_l {i : List D} : isiD "list" (.list i) = true := rfl
theorem i_str_s {i : Str} : isiD "str" (.str i) = true := rfl
theorem i_bool_b {i : Bool} : isiD "bool" (.bool i) = true := rfl
/-! targets -/
theorem v_hTup {n : Nat} {t : List D → Env → Option Env} {ds : List D} : hTup n t (.tuple ds) ρ = if ds.length = n then t ds ρ else none := rfl
theorem v_hCons {h : D → Env → Option Env} {t : List D → Env → Option Env} {ds : List D} : hCons h t (d :: ds) ρ = (h d ρ).bind (t ds) := rfl
theorem v_hNil : hNil [] ρ = some ρ := rfl
/-! comprehensions: a mapped list -/
theorem lcF_map {h : D → Env → Option Env} {fe : Env → Res D} {ρ0 : Env} {g : D → D} : ∀ {ds : List D}, (∀ d ∈ ds, ∃ ρ1, h d ρ0 = some ρ1 ∧ fe ρ1 = .ok (g d)) → lcF h dYes fe ρ0 ds = some (ds.map g)
  | [], _ => rfl
  | d :: ds, hk => by
    obtain ⟨ρ1, h1, h2⟩ := hk d List.mem_cons_self
    have ih := lcF_map (h := h) (fe := fe) (ρ0 := ρ0) (g := g) fun x hx => hk x (List.mem_cons_of_mem _ hx)
    unfold lcF
    rw [h1]
    simp only [dYes, h2, ih, Option.map_some, List.map_cons]
theorem lcF_filter {h : D → Env → Option Env} {ft : Env → Res Bool} {fe : Env → Res D} {ρ0 : Env} {g : D → D} {p : D → Bool} : ∀ {ds : List D}, (∀ d ∈ ds, ∃ ρ1, h d ρ0 = some ρ1 ∧ ft ρ1 = .ok (p d) ∧ (p d = true → fe ρ1 = .ok (g d))) → lcF h ft fe ρ0 ds = some ((ds.filter p).map g)
  | [], _ => rfl
  | d :: ds, hk => by
    obtain ⟨ρ1, h1, h2, h3⟩ := hk d List.mem_cons_self
    have ih := lcF_filter (h := h) (ft := ft) (fe := fe) (ρ0 := ρ0) (g := g) (p := p) fun x hx => hk x (List.mem_cons_of_mem _ hx)
    unfold lcF
    rw [h1]
    simp only [h2]
    cases e : p d with
    | true => simp only [h3 e, ih, Option.map_some, List.filter_cons, e, if_true, List.map_cons]
    | false => simp only [ih, List.filter_cons, e, Bool.false_eq_true, if_false]
/-! for: the turns -/
theorem forF_nil {h : D → Env → Option Env} {fb : Env → Out} : forF h fb [] ρ = .nx ρ := rfl
/-- a for whose turns all go on: by an invariant environment -/
theorem forF_all {h : D → Env → Option Env} {fb : Env → Out} {S : Type} (E : S → Env) (step : S → D → S) (P : Nat → S → Prop) : ∀ (ds : List D) (k : Nat) (s : S), P k s →
    (∀ i s d, ds[i]? = some d → P (k + i) s → ∃ ρ1, h d (E s) = some ρ1 ∧ (fb ρ1 = .nx (E (step s d)) ∨ fb ρ1 = .ct (E (step s d))) ∧ P (k + i + 1) (step s d)) → forF h fb ds (E s) = .nx (E (ds.foldl step s))
  | [], k, s, _, _ => rfl
  | d :: ds, k, s, hp, hs => by
    obtain ⟨ρ1, h1, h2, h3⟩ := hs 0 s d rfl hp
    have ih := forF_all E step P ds (k + 1) (step s d) h3 fun i s' d' e p => by
      have := hs (i + 1) s' d' (by simpa using e) (by rw [show k + (i + 1) = k + 1 + i by omega]; exact p)
      rw [show k + (i + 1) = k + 1 + i by omega] at this
      exact this
    unfold forF
    rw [h1]
    rcases h2 with h2 | h2
    · simp only [h2]; exact ih
    · simp only [h2]; exact ih
/-! the words at an environment -/
theorem w_seq {f g : Env → Out} : dSeq f g ρ = (f ρ).seq g := rfl
theorem w_asg {f : Env → Res D} {h : D → Env → Option Env} : dAsg f h ρ = (f ρ).bindS fun d => outO (h d ρ) := rfl
theorem w_outO_s : outO (some ρ) = .nx ρ := rfl
theorem w_outO_n : outO none = .stuck := rfl
theorem w_ret {f : Env → Res D} : dRet f ρ = (f ρ).bindS fun d => .rt d ρ := rfl
theorem w_retN {f : Env → Res Ob} : dRetN f ρ = (f ρ).bindS fun d => .rn d ρ := rfl
theorem w_retV {i : Nat} : dRetV i ρ = match ρ[i]? with
  | some (.ow o) => .rn o ρ
  | some (.fr d) => .rt d ρ
  | _ => .stuck := rfl
theorem w_ret0 : dRet0 ρ = .rt .none ρ := rfl
theorem w_V {i : Nat} : dV i ρ = match ρ[i]? with
  | some (.fr d) => .ok d
  | _ => .stuck := rfl
theorem w_Vr {i : Nat} : dVr i ρ = match ρ[i]? with
  | some (.fr d) => .ok d
  | some (.ow o) => .ok o.data
  | some (.pm o) => .ok o.data
  | _ => .stuck := rfl
theorem w_C : dC d ρ = .ok d := rfl
theorem w_op {g : D → D → Option α} {fa fb : Env → Res D} : dOp g fa fb ρ = (fa ρ).bind fun d => (fb ρ).bind fun e => Res.of (g d e) := rfl
theorem w_un {g : D → Option α} {fa : Env → Res D} : dUn g fa ρ = (fa ρ).bind fun d => Res.of (g d) := rfl
theorem w_CB {g : List D → Option α} {fa : Env → Res (List D)} : dCB g fa ρ = (fa ρ).bind fun d => Res.of (g d) := rfl
theorem w_cons {f : Env → Res D} {fs : Env → Res (List D)} : dCons f fs ρ = (f ρ).bind fun d => (fs ρ).bind fun ds => .ok (d :: ds) := rfl
theorem w_nil : dNil ρ = .ok [] := rfl
theorem w_tup {fs : Env → Res (List D)} : dTup fs ρ = (fs ρ).bind fun ds => if ds.length ≤ sizeLine then .ok (.tuple ds) else .stuck := rfl
theorem w_lst {fs : Env → Res (List D)} : dLst fs ρ = (fs ρ).bind fun ds => if ds.length ≤ sizeLine then .ok (.l ds) else .stuck := rfl
theorem w_ob {f : Env → Res Ob} : dOb f ρ = (f ρ).bind fun o => .ok o.data := rfl
theorem w_call {f : List D → Res α} {fs : Env → Res (List D)} : dCall f fs ρ = (fs ρ).bind f := rfl
theorem w_new {i : Nat} {f : Env → Res Ob} : dNew i f ρ = (f ρ).bindS fun o => match ρ[i]? with
  | some (.pm _) => .stuck
  | _ => .nx (ρ.set i (.ow o)) := rfl
theorem w_app {i : Nat} {f : Env → Res D} : dApp i f ρ = match owL ρ i with
  | some ds => (f ρ).bindS fun d => if ds.length < sizeLine then .nx (putL ρ i (ds ++ [d])) else .stuck
  | none => .stuck := rfl
theorem w_ext {i : Nat} {f : Env → Res D} : dExt i f ρ = match owL ρ i with
  | some ds => (f ρ).bindS fun d => match seqOf d with
    | some es => if ds.length + es.length ≤ sizeLine then .nx (putL ρ i (ds ++ es)) else .stuck
    | none => .stuck
  | none => .stuck := rfl
theorem w_pop {i : Nat} {h : D → Env → Option Env} : dPop i h ρ = match owL ρ i with
  | some ds => match ds.getLast? with
    | some d => outO (h d (putL ρ i ds.dropLast))
    | none => .stuck
  | none => .stuck := rfl
theorem w_popD {i : Nat} : dPopD i ρ = match owL ρ i with
  | some ds => match ds.getLast? with
    | some _ => .nx (putL ρ i ds.dropLast)
    | none => .stuck
  | none => .stuck := rfl
theorem w_putAt {k : Nat} {fi fv : Env → Res D} : dPutAt k fi fv ρ = match owL ρ k with
  | some ds => (fv ρ).bindS fun d => (fi ρ).bindS fun i => match i with
    | .int n => match ixN ds.length n with
      | some j => .nx (putL ρ k (ds.set j d))
      | none => .stuck
    | _ => .stuck
  | none => .stuck := rfl
theorem w_aug {f : Int → Int → Int} {i : Nat} {fe : Env → Res D} : dAug f i fe ρ = match ρ[i]? with
  | some (.fr (.int n)) => (fe ρ).bindS fun d => match d with
    | .int m => .nx (ρ.set i (.fr (.int (f n m))))
    | _ => .stuck
  | _ => .stuck := rfl
theorem w_frz {i : Nat} {f : Env → Out} : dFrz i f ρ = f (frzE i ρ) := rfl
theorem w_ahead {js : List Nat} {f : Env → Out} : dAhead js f ρ = f (forgetE js ρ) := rfl
def forO (js : List Nat) : Out → Out
  | .nx ρ => .nx (forgetE js ρ)
  | .bk ρ => .bk (forgetE js ρ)
  | .ct ρ => .ct (forgetE js ρ)
  | o => o
theorem w_forget {js : List Nat} {f : Env → Out} : dForget js f ρ = forO js (f ρ) := by
  unfold dForget forO
  cases f ρ <;> rfl
theorem w_forO_nx {js : List Nat} : forO js (.nx ρ) = .nx (forgetE js ρ) := rfl
theorem w_forO_bk {js : List Nat} : forO js (.bk ρ) = .bk (forgetE js ρ) := rfl
theorem w_forO_ct {js : List Nat} : forO js (.ct ρ) = .ct (forgetE js ρ) := rfl
theorem w_forO_rt {js : List Nat} : forO js (.rt d ρ) = .rt d ρ := rfl
theorem w_forO_rn {js : List Nat} : forO js (.rn o ρ) = .rn o ρ := rfl
theorem w_forO_exc {js : List Nat} : forO js (.exc c) = .exc c := rfl
theorem w_drop {f : Env → Res D} : dDrop f ρ = (f ρ).bindS fun _ => .nx ρ := rfl
theorem w_next : dNext ρ = .nx ρ := rfl
theorem w_bk : dBk ρ = .bk ρ := rfl
theorem w_ct : dCt ρ = .ct ρ := rfl
theorem w_exc {c : Str} : dExc c ρ = .exc c := rfl
theorem w_lc {src : Env → Res (List D)} {h : D → Env → Option Env} {ft : Env → Res Bool} {fe : Env → Res D} {vs : List Nat} : dLc src h ft fe vs ρ = (src ρ).bind fun ds =>
  if noPm ρ vs = true then (Res.of (lcF h ft fe (wipeE vs ρ) ds)).bind fun ys => .ok (.l ys) else .stuck := rfl
def itlR (r : Res D) : Res (List D) := r.bind fun d => match d with
  | .list es => .ok es
  | _ => .stuck
theorem w_itL {f : Env → Res D} : dItL f ρ = itlR (f ρ) := rfl
theorem w_itl {es : List D} : itlR (.ok (.list es)) = .ok es := rfl
def ittR (r : Res D) : Res (List D) := r.bind fun d => match d with
  | .tuple es => .ok es
  | _ => .stuck
theorem w_itT {f : Env → Res D} : dItT f ρ = ittR (f ρ) := rfl
theorem w_itt {es : List D} : ittR (.ok (.tuple es)) = .ok es := rfl
def itvR (r : Res D) : Res (List D) := r.bind fun d => match d with
  | .list es => .ok es.reverse
  | _ => .stuck
theorem w_itV {f : Env → Res D} : dItV f ρ = itvR (f ρ) := rfl
theorem w_itv {es : List D} : itvR (.ok (.list es)) = .ok es.reverse := rfl
def rng1R (r : Res (List D)) : Res (List D) := r.bind fun ds => match ds with
  | [.int j] => if rgOk j = true then .ok (rgD 0 j.toNat) else .stuck
  | _ => .stuck
theorem w_rng1 {f : Env → Res (List D)} : dRng1 f ρ = rng1R (f ρ) := rfl
theorem w_rng1' {j : Int} : rng1R (.ok [.int j]) = if rgOk j = true then .ok (rgD 0 j.toNat) else .stuck := rfl
def rng2R (r : Res (List D)) : Res (List D) := r.bind fun ds => match ds with
  | [.int i, .int j] => if rgOk i = true ∧ rgOk j = true then .ok (rgD i (j - i).toNat) else .stuck
  | _ => .stuck
theorem w_rng2 {f : Env → Res (List D)} : dRng2 f ρ = rng2R (f ρ) := rfl
theorem w_rng2' {i j : Int} : rng2R (.ok [.int i, .int j]) = if rgOk i = true ∧ rgOk j = true then .ok (rgD i (j - i).toNat) else .stuck := rfl
def lrgR (r : Res D) : Res Ob := r.bind fun d => match d with
  | .int n => if rgOk n = true then .ok (.l (rgD 0 n.toNat)) else .stuck
  | _ => .stuck
theorem w_lrg1 {f : Env → Res D} : dLrg1 f ρ = lrgR (f ρ) := rfl
theorem w_lrg1' {n : Int} : lrgR (.ok (.int n)) = if rgOk n = true then .ok (.l (rgD 0 n.toNat)) else .stuck := rfl
theorem w_sl {g : D → Option Int → Option Int → Option α} {f : Env → Res D} {fl fh : Env → Res (Option Int)} : dSl g f fl fh ρ = (f ρ).bind fun d => (fl ρ).bind fun lo => (fh ρ).bind fun hi => Res.of (g d lo hi) := rfl
theorem w_no : dNo ρ = .ok none := rfl
def partR (r : Res D) : Res (Option Int) := r.bind fun d => match d with
  | .int i => .ok (some i)
  | _ => .stuck
theorem w_part {f : Env → Res D} : dPart f ρ = partR (f ρ) := rfl
theorem w_part' {i : Int} : partR (.ok (.int i)) = .ok (some i) := rfl
theorem w_newD : dNewD ρ = .ok (.d []) := rfl
theorem w_putD {i : Nat} {fk fv : Env → Res D} : dPutD i fk fv ρ = match owD ρ i with
  | some es => (fv ρ).bindS fun d => (fk ρ).bindS fun k => match PD.keyOf k with
    | some k => if es.length < sizeLine then .nx (putOD ρ i (putD es k d)) else .stuck
    | none => .stuck
  | none => .stuck := rfl
theorem w_inD {neg : Bool} {fk fd : Env → Res D} : dInD neg fk fd ρ = (fk ρ).bind fun k => (fd ρ).bind fun d => match PD.keyOf k, d with
  | some k, .dict es => .ok (.bool (if neg then !(lookK es k).isSome else (lookK es k).isSome))
  | _, _ => .stuck := rfl
theorem w_getD {fk fd : Env → Res D} : dGetD fd fk ρ = (fd ρ).bind fun d => (fk ρ).bind fun k => match PD.keyOf k, d with
  | some k, .dict es => match lookK es k with
    | some x => .ok x
    | none => .stuck
  | _, _ => .stuck := rfl
def maxR (r : Res D) : Res D := r.bind fun d => match d with
  | .dict es => match intsOf (es.map (·.1)) with
    | some (n :: ns) => .ok (.int (maxI (n :: ns)))
    | _ => .stuck
  | _ => .stuck
theorem w_maxD {f : Env → Res D} : dMaxD f ρ = maxR (f ρ) := rfl
theorem w_count {fa fb : Env → Res D} : dCount fa fb ρ = (fa ρ).bind fun d => match d with
  | .list es => match intsOf es with
    | some ns => (fb ρ).bind fun k => match k with
      | .int k => .ok (.int ((ns.count k : Nat) : Int))
      | _ => .stuck
    | none => .stuck
  | _ => .stuck := rfl
theorem w_for {src : Env → Res (List D)} {h : D → Env → Option Env} {fb : Env → Out} : dFor src h fb ρ = (src ρ).bindS fun ds => forF h fb ds ρ := rfl
theorem w_hSet {i : Nat} : hSet i d ρ = match ρ[i]? with
  | some (.pm _) => none
  | _ => some (ρ.set i (.fr d)) := rfl
def apI (ρ : Env) (i j : Nat) (es : List D) (k : Int) : Out := if ix63 k = true then match seqIndex? k es.length with
        | some m => match es[m]? with
          | some x => match owL (putL ρ j (es.eraseIdx m)) i with
            | some ds' => if ds'.length < sizeLine then .nx (putL (putL ρ j (es.eraseIdx m)) i (ds' ++ [x])) else .stuck
            | none => .stuck
          | none => .stuck
        | none => .stuck
        else .stuck
def apD (ρ : Env) (i j : Nat) (es : List D) (d : D) : Out := match d with
  | .int k => apI ρ i j es k
  | _ => .stuck
theorem w_apD {i j : Nat} {es : List D} {k : Int} : apD ρ i j es (.int k) = apI ρ i j es k := rfl
theorem w_appPop {i j : Nat} {f : Env → Res D} : dAppPop i j f ρ = match owL ρ i with
  | some ds => match owL ρ j with
    | some es => (f ρ).bindS (apD ρ i j es)
    | none => .stuck
  | none => .stuck := rfl
end
end PD

set_option Elab.async false
set_option linter.all false
set_option maxRecDepth 100000
/-! The data layer, whole numbers: lists of ints sorted, compared, counted. -/
namespace PD
open PySem PySem.Spec PyProof.Rows L2
def leI (a b : Int) : Bool := decide (a ≤ b)
theorem sortD_ints (ns : List Int) : sortD (ns.map PyData.int) = (ns.mergeSort leI).map .int := by
  unfold sortD
  symm
  refine List.map_mergeSort fun a _ b _ => ?_
  have := congrFun (congrFun (PySem.W.dataLe_int (fun i : Int => i)) a) b
  exact this.symm
theorem canLay_ints : ∀ ns : List Int, PyData.canLayAll0 (ns.map PyData.int) = true
  | [] => rfl
  | n :: ns => by rw [List.map_cons, PyData.canLayAll0, canLay_ints ns]; rfl
theorem depth_ints : ∀ ns : List Int, PyData.depthAll (ns.map PyData.int) = 0
  | [] => rfl
  | n :: ns => by rw [List.map_cons, PyData.depthAll, depth_ints ns]; rfl
theorem shaped_ints (ns : List Int) : SeqAt.shaped (.list (ns.map PyData.int)) = true := by
  unfold SeqAt.shaped PyData.canLay0 PyData.depth
  rw [canLay_ints, depth_ints]
  rfl
theorem eqv_ints : ∀ xs ys : List Int, PyData.eqvAll (xs.map PyData.int) (ys.map PyData.int) = decide (xs = ys)
  | [], [] => rfl
  | [], _ :: _ => rfl
  | _ :: _, [] => rfl
  | x :: xs, y :: ys => by
    rw [List.map_cons, List.map_cons, PyData.eqvAll, eqv_ints xs ys, Bool.eq_iff_iff]
    simp [PyData.eqv]
theorem eqvL_ints (xs ys : List Int) : PyData.eqv (.list (xs.map PyData.int)) (.list (ys.map PyData.int)) = decide (xs = ys) := by
  rw [PyData.eqv, eqv_ints]
theorem dEq_ints (xs ys : List Int) : dEq (.list (xs.map PyData.int)) (.list (ys.map PyData.int)) = some (.bool (decide (xs = ys))) := by
  rw [v_eq_ll, if_pos ⟨shaped_ints _, shaped_ints _⟩, eqvL_ints]
theorem sortOk_ints (ns : List Int) : sortOk (ns.map PyData.int) = true := by
  unfold sortOk
  rw [Bool.and_eq_true_iff, Bool.and_eq_true_iff, Bool.or_eq_true_iff]
  refine ⟨⟨?_, .inr ?_⟩, ?_⟩
  · rw [List.all_eq_true]; intro d hd
    rw [List.all_eq_true]; intro e he
    obtain ⟨a, _, rfl⟩ := List.mem_map.mp hd
    obtain ⟨b, _, rfl⟩ := List.mem_map.mp he
    rfl
  · rw [List.all_eq_true]; intro d hd
    obtain ⟨a, _, rfl⟩ := List.mem_map.mp hd
    rfl
  · rw [List.all_eq_true]; intro d hd
    obtain ⟨a, _, rfl⟩ := List.mem_map.mp hd
    rfl
def rgI (lo : Int) (n : Nat) : List Int := (List.range n).map fun (i : Nat) => lo + (i : Int)
theorem rgD_I (lo : Int) (n : Nat) : rgD lo n = (rgI lo n).map .int := by
  unfold rgD rgI; rw [List.map_map]; rfl
theorem rgI_len (lo : Int) (n : Nat) : (rgI lo n).length = n := by simp [rgI]
theorem rgI_succ (lo : Int) (n : Nat) : rgI lo (n + 1) = lo :: rgI (lo + 1) n := by
  unfold rgI
  rw [List.range_succ_eq_map, List.map_cons, List.map_map]
  simp only [Int.add_zero, Int.natCast_zero, List.cons.injEq]
  refine ⟨by simp, List.map_congr_left fun i _ => ?_⟩
  simp only [Function.comp]
  omega
theorem rgI_mem {lo : Int} {n : Nat} {x : Int} : x ∈ rgI lo n ↔ lo ≤ x ∧ x < lo + n := by
  unfold rgI
  rw [List.mem_map]
  constructor
  · rintro ⟨i, hi, rfl⟩
    have := List.mem_range.mp hi
    omega
  · rintro ⟨h1, h2⟩
    exact ⟨(x - lo).toNat, List.mem_range.mpr (by omega), by omega⟩
theorem rgI_nodup (n : Nat) : ∀ lo : Int, (rgI lo n).Nodup := by
  induction n with
  | zero => intro lo; exact List.nodup_nil
  | succ n ih =>
    intro lo
    rw [rgI_succ, List.nodup_cons]
    refine ⟨fun h => ?_, ih _⟩
    have := (rgI_mem.mp h).1
    omega
/-- a growing list of numbers that fits a range exactly is the range -/
theorem grow_rg : ∀ (s : List Int) (a : Int), s.Pairwise (· < ·) → (∀ x ∈ s, a ≤ x ∧ x < a + s.length) → s = rgI a s.length
  | [], _, _, _ => rfl
  | x :: s, a, hp, hb => by
    rw [List.pairwise_cons] at hp
    have h0 := hb x List.mem_cons_self
    simp only [List.length_cons] at hb h0 ⊢
    have ih := grow_rg s (a + 1) hp.2 fun y hy => by
      have := hp.1 y hy
      have := hb y (List.mem_cons_of_mem _ hy)
      omega
    rw [rgI_succ]
    cases s with
    | nil => simp only [List.length_nil] at h0 ⊢; rw [show x = a by omega]; rfl
    | cons y s =>
      have e : y = a + 1 := by
        have := congrArg List.head? ih
        rw [List.length_cons, rgI_succ] at this
        simpa using this
      have := hp.1 y List.mem_cons_self
      rw [← ih, show x = a by omega]
theorem sort_perm (ns : List Int) : (ns.mergeSort leI).Perm ns := List.mergeSort_perm ns leI
theorem sort_le (ns : List Int) : (ns.mergeSort leI).Pairwise (· ≤ ·) := by
  have := List.pairwise_mergeSort (le := leI) (fun a b c h1 h2 => by simp only [leI, decide_eq_true_eq] at *; omega) (fun a b => by simp only [leI, Bool.or_eq_true, decide_eq_true_eq]; omega) ns
  exact this.imp fun h => of_decide_eq_true h
/-- sorted to a range: all of them once -/
theorem sort_rg (ns : List Int) : ns.mergeSort leI = rgI 0 ns.length ↔ ns.Nodup ∧ ∀ x ∈ ns, 0 ≤ x ∧ x < ns.length := by
  constructor
  · intro h
    have p := sort_perm ns
    rw [h] at p
    refine ⟨p.nodup_iff.mp (rgI_nodup _ _), fun x hx => ?_⟩
    have := rgI_mem.mp (p.mem_iff.mpr hx)
    omega
  · rintro ⟨h1, h2⟩
    have p := sort_perm ns
    have hl := p.length_eq
    have hd : (ns.mergeSort leI).Nodup := p.nodup_iff.mpr h1
    have hp : (ns.mergeSort leI).Pairwise (· < ·) := by
      have := (sort_le ns).and hd
      exact this.imp fun ⟨a, b⟩ => by omega
    have := grow_rg _ 0 hp fun x hx => by
      have := h2 x (p.mem_iff.mp hx)
      rw [hl]; omega
    rw [hl] at this
    exact this
end PD

set_option Elab.async false
set_option linter.all false
set_option maxRecDepth 100000
/-! The data layer, lists: items, slices, turns of a for over a joined list. -/
namespace PD
open PySem PySem.Spec PyProof.Rows L2
theorem atI_nat {α : Type} (xs : List α) (i : Nat) (h : i < xs.length) : atI xs ((i : Nat) : Int) = some xs[i] := by
  unfold atI ixN
  rw [if_pos (by omega), if_pos (by omega)]
  simp [h]
theorem atI_int {α : Type} (xs : List α) (i : Int) (h0 : 0 ≤ i) (h : i < xs.length) : ∃ x, atI xs i = some x ∧ x ∈ xs ∧ xs[i.toNat]? = some x := by
  have hn : i.toNat < xs.length := by omega
  have := atI_nat xs i.toNat hn
  rw [Int.toNat_of_nonneg h0] at this
  exact ⟨_, this, List.getElem_mem _, List.getElem?_eq_getElem hn⟩
theorem atI_mid {α : Type} (A B : List α) (x : α) : atI (A ++ x :: B) ((A.length : Nat) : Int) = some x := by
  rw [atI_nat _ _ (by simp)]
  simp
theorem cut_to {α : Type} (xs : List α) (k : Nat) : cutD xs none (some (k : Int)) = xs.take k := by
  unfold cutD
  rw [HT.sIx_none, HT.sIx_nat, List.drop_zero, Nat.sub_zero, ← List.take_eq_take_min]
theorem cut_from {α : Type} (xs : List α) (k : Nat) : cutD xs (some (k : Int)) none = xs.drop k := by
  unfold cutD
  rw [HT.sIx_none, HT.sIx_nat]
  rcases Nat.le_total k xs.length with q | q
  · rw [Nat.min_eq_left q, List.take_of_length_le (by rw [List.length_drop]; omega)]
  · rw [Nat.min_eq_right q, List.drop_eq_nil_of_le q, List.drop_length]; simp
theorem cut_mid {α : Type} (xs : List α) (a b : Nat) : cutD xs (some (a : Int)) (some (b : Int)) = (xs.drop a).take (b - a) := by
  unfold cutD
  rw [HT.sIx_nat, HT.sIx_nat]
  rcases Nat.le_total a xs.length with q | q
  · rw [Nat.min_eq_left q]
    rcases Nat.le_total b xs.length with r | r
    · rw [Nat.min_eq_left r]
    · rw [Nat.min_eq_right r, List.take_of_length_le (by rw [List.length_drop]; omega), List.take_of_length_le (by rw [List.length_drop]; omega)]
  · rw [Nat.min_eq_right q, List.drop_eq_nil_of_le q, List.drop_length]; simp
theorem cut_map {α β : Type} (f : α → β) (xs : List α) (lo hi : Option Int) : cutD (xs.map f) lo hi = (cutD xs lo hi).map f := by
  unfold cutD
  rw [List.length_map, List.map_take, List.map_drop]
theorem seqIdx_nat {i n : Nat} (h : i < n) : seqIndex? ((i : Nat) : Int) n = some i := by
  have h0 : ¬ ((i : Nat) : Int) < 0 := by omega
  have h1 : decide ((0 : Int) ≤ (i : Int)) = true := decide_eq_true (by omega)
  have h2 : decide (((i : Nat) : Int) < (n : Int)) = true := decide_eq_true (by omega)
  simp only [seqIndex?, h0, if_false, h1, h2, Bool.and_true, if_true, Int.toNat_natCast]
theorem fits63 {i : Nat} (h : i < 16777216) : ix63 ((i : Nat) : Int) = true := ix63_iff.mpr ⟨Int.le_trans (by decide) (Int.natCast_nonneg i), Int.lt_of_lt_of_le (b := 16777216) (by omega) (by decide)⟩
theorem apI_go {ρ : Env} {i j : Nat} {es ds : List D} {k : Nat} {x : D} (h4 : es[k]? = some x) (hk : es.length ≤ 16777216) (h5 : owL (putL ρ j (es.eraseIdx k)) i = some ds) (h6 : ds.length < 16777216) : apI ρ i j es ((k : Nat) : Int) = .nx (putL (putL ρ j (es.eraseIdx k)) i (ds ++ [x])) := by
  have hlt : k < es.length := (List.getElem?_eq_some_iff.mp h4).1
  have hf : ix63 ((k : Nat) : Int) = true := fits63 (by omega)
  unfold apI
  rw [if_pos hf, seqIdx_nat hlt]
  simp only [h4, h5]
  rw [if_pos (by rw [sizeLine_eq]; exact h6)]
theorem appPop_apI {i j : Nat} {f : Env → Res D} {ρ : Env} {ds es : List D} {k : Int} (h1 : owL ρ i = some ds) (h2 : owL ρ j = some es) (h3 : f ρ = .ok (.int k))  : dAppPop i j f ρ = apI ρ i j es k := by
  rw [w_appPop, h1, h2]
  simp only [h3]
  exact w_apD
theorem appPop_go {i j : Nat} {f : Env → Res D} {ρ : Env} {ds es : List D} {k : Nat} {x : D} (h1 : owL ρ i = some ds) (h2 : owL ρ j = some es) (h3 : f ρ = .ok (.int ((k : Nat) : Int))) (h4 : es[k]? = some x) (hk : es.length ≤ 16777216)
    (h5 : owL (putL ρ j (es.eraseIdx k)) i = some ds) (h6 : ds.length < 16777216) : dAppPop i j f ρ = .nx (putL (putL ρ j (es.eraseIdx k)) i (ds ++ [x])) := (appPop_apI h1 h2 h3).trans (apI_go h4 hk h5 h6)
end PD

set_option Elab.async false
set_option linter.all false
set_option maxRecDepth 100000
set_option maxHeartbeats 4000000
namespace K33
open PySem PySem.Spec PyProof.Rows L2 PD
def topS (i : Nat) : Stmt := PySem.Challenge.pw_pagepart_k33_boxes_counted.main.body.getD i (.Pass ⟨0, 0, 0, 0⟩)
abbrev s_is_whole : Stmt := topS 12
abbrev s_is_tree : Stmt := topS 15
abbrev s_need_tree : Stmt := topS 16
abbrev s_count_boxes : Stmt := topS 17
abbrev s_boxes_of : Stmt := topS 18
abbrev s_written : Stmt := topS 19
abbrev s_show_tree : Stmt := topS 20
abbrev s__law_cell_at : Stmt := topS 22
abbrev s__law_whole : Stmt := topS 23
abbrev s__law_mix : Stmt := topS 24
abbrev s__law_join : Stmt := topS 25
abbrev s__law_tree : Stmt := topS 26
abbrev s__law_is : Stmt := topS 27
abbrev s__law_knots : Stmt := topS 28
abbrev s__law_put : Stmt := topS 29
abbrev s__law_other : Stmt := topS 30
abbrev s__law_wrong : Stmt := topS 31
abbrev s__law_count : Stmt := topS 32
abbrev s__law_refused : Stmt := topS 33
abbrev s__law_asked : Stmt := topS 34
abbrev s_law : Stmt := topS 35
abbrev TD : List Str := ["NoNeeds", "NoNumber", "NoPage", "NoPicture", "NoPlace", "NoRoom", "NoRow", "NoTexts", "NoTree"]
def SC (c : Str) : Option Bool := if c = "NoTree" then some true else none
/-- what the walks ask of the top -/
structure Txt (K : PySem.W.Frag) (mg : Str → Option Value) (cl : Str → Addr) : Prop where
  d_is_whole : DefAt K mg "is_whole" s_is_whole ["thing"]
  d_is_tree : DefAt K mg "is_tree" s_is_tree ["thing"]
  d_need_tree : DefAt K mg "need_tree" s_need_tree ["thing"]
  d_count_boxes : DefAt K mg "count_boxes" s_count_boxes ["tree"]
  d_boxes_of : DefAt K mg "boxes_of" s_boxes_of ["tree"]
  d_written : DefAt K mg "written" s_written ["tree"]
  d_show_tree : DefAt K mg "show_tree" s_show_tree ["tree"]
  d__law_cell_at : DefAt K mg "_law_cell_at" s__law_cell_at ["script", "k"]
  d__law_whole : DefAt K mg "_law_whole" s__law_whole ["found"]
  d__law_join : DefAt K mg "_law_join" s__law_join ["kind", "one", "other"]
  d__law_tree : DefAt K mg "_law_tree" s__law_tree ["cells"]
  d__law_is : DefAt K mg "_law_is" s__law_is ["thing"]
  d__law_knots : DefAt K mg "_law_knots" s__law_knots ["tree"]
  d__law_put : DefAt K mg "_law_put" s__law_put ["tree", "way", "new"]
  d__law_other : DefAt K mg "_law_other" s__law_other ["here", "many", "cell"]
  d__law_wrong : DefAt K mg "_law_wrong" s__law_wrong ["tree", "cell"]
  d__law_count : DefAt K mg "_law_count" s__law_count ["tree"]
  d__law_refused : DefAt K mg "_law_refused" s__law_refused ["thing", "way"]
  d__law_asked : DefAt K mg "_law_asked" s__law_asked ["thing"]
  d_law : DefAt K mg "law" s_law ["script"]
  z_ValueError : mg "ValueError" = none
  z_bool : mg "bool" = none
  z_int : mg "int" = none
  z_isinstance : mg "isinstance" = none
  z_len : mg "len" = none
  z_list : mg "list" = none
  z_max : mg "max" = none
  z_range : mg "range" = none
  z_reversed : mg "reversed" = none
  z_sorted : mg "sorted" = none
  z_str : mg "str" = none
  z_sum : mg "sum" = none
  z_tuple : mg "tuple" = none
  g_MOST_BOXES : ∃ t, mg "MOST_BOXES" = some (.int 24 t)
  c_NoTree : ExcAt K mg cl "NoTree"
  g_NoNeeds : mg "NoNeeds" = some (.ref (cl "NoNeeds"))
  g_NoNumber : mg "NoNumber" = some (.ref (cl "NoNumber"))
  g_NoPage : mg "NoPage" = some (.ref (cl "NoPage"))
  g_NoPicture : mg "NoPicture" = some (.ref (cl "NoPicture"))
  g_NoPlace : mg "NoPlace" = some (.ref (cl "NoPlace"))
  g_NoRoom : mg "NoRoom" = some (.ref (cl "NoRoom"))
  g_NoRow : mg "NoRow" = some (.ref (cl "NoRow"))
  g_NoTexts : mg "NoTexts" = some (.ref (cl "NoTexts"))
  g_NoTree : mg "NoTree" = some (.ref (cl "NoTree"))
  g_PartError : mg "PartError" = some (.ref (cl "PartError"))
  kit : ∀ c, SC c = some true → KitF K cl TD c
  exm : ∀ c b, SC c = some b → PySem.W.exmOne K (.ref (cl c)) (.ref (cl "PartError")) = some b
section
variable {P : Program} {w : World} {K : PySem.W.Frag} {mg : Str → Option Value} {base : Heap} {cl : Str → Addr}
abbrev N_is_whole : List Str := ["thing"]
theorem sc_is_whole : FnScope N_is_whole ["thing"] (defScope s_is_whole) := ⟨rfl, rfl, rfl, by decide +kernel, rfl, by decide +kernel, by decide +kernel⟩
noncomputable def F_is_whole : PD.Env → Out :=
  (dRet (dAndV (dIsi "int" (dVr 0)) (dNotV (dIsi "bool" (dVr 0)))))
noncomputable def f_is_whole : List D → Res D := funT 1 1 F_is_whole
theorem ok_is_whole (T : Txt K mg cl) : GFn P w K mg base cl "is_whole" (rlV K) 1 1 f_is_whole := by
  refine gfn_T (N := N_is_whole) (k := 0) (F := F_is_whole) T.d_is_whole sc_is_whole rfl fun f => ?_
  intro cdv A outer s H E hr
  have nd : (cxB P w K mg base N_is_whole "is_whole" (defScope s_is_whole) f cdv A outer s H E).N.Nodup := sc_is_whole.nd
  have tk : Takes (cxB P w K mg base N_is_whole "is_whole" (defScope s_is_whole) f cdv A outer s H E) (TW cl (wE cl E)) := tk_body
  have po : PassesOwn (model (cxB P w K mg base N_is_whole "is_whole" (defScope s_is_whole) f cdv A outer s H E).prog (cxB P w K mg base N_is_whole "is_whole" (defScope s_is_whole) f cdv A outer s H E).w) (cxB P w K mg base N_is_whole "is_whole" (defScope s_is_whole) f cdv A outer s H E).A (cxB P w K mg base N_is_whole "is_whole" (defScope s_is_whole) f cdv A outer s H E).env (cxB P w K mg base N_is_whole "is_whole" (defScope s_is_whole) f cdv A outer s H E).xe := po_body
  have hu64 : (cxB P w K mg base N_is_whole "is_whole" (defScope s_is_whole) f cdv A outer s H E).A.units + 64 < cLine := hr.units
  have hu : (cxB P w K mg base N_is_whole "is_whole" (defScope s_is_whole) f cdv A outer s H E).A.units + 1 < cLine := hu_of hr
  have h : XSs (cxB P w K mg base N_is_whole "is_whole" (defScope s_is_whole) f cdv A outer s H E) (wE cl E) (defBody s_is_whole) _ F_is_whole :=
    (sOne (sRet (xAnd (XV.r (xIsi (xR 0) T.z_isinstance T.z_int)) (xAnd1 (xNot (XV.r (xIsi (xR 0) T.z_isinstance T.z_bool)))))))
  exact ⟨_, h.ps, h.j⟩
abbrev N_is_tree : List Str := ["thing", "numbers", "pile", "here", "above", "kind", "parts", "part"]
theorem sc_is_tree : FnScope N_is_tree ["thing"] (defScope s_is_tree) := ⟨rfl, rfl, rfl, by decide +kernel, rfl, by decide +kernel, by decide +kernel⟩
noncomputable def C_is_tree_1 : PD.Env → Res Bool :=
  (dTest (dOp (dEq0 true) (dVr 2) (dOb (dLst dNil))))
noncomputable def B_is_tree_1 : PD.Env → Out :=
  (dForget [3, 4, 5, 6] (dSeq (dPop 2 (hTup 2 (hCons (hSet 3) (hCons (hSet 4) hNil)))) (dSeq (dIfS (dTest (dCall f_is_whole (dCons (dV 3) dNil))) (dSeq (dIfS (dOr (dTest (dOp dLt (dVr 3) (dC (.int 0)))) (dOr (dTest (dOp dGe (dVr 3) (dC (.int 24)))) (dTest (dInD false (dVr 3) (dVr 1))))) (dRet (dC (.bool false))) dNext) (dSeq (dPutD 1 (dVr 3) (dC (.bool true))) dCt)) dNext) (dSeq (dIfS (dOr (dNot (dTest (dIsi "tuple" (dVr 3)))) (dOr (dTest (dOp dNe (dCB dLen1 (dCons (dVr 3) dNil)) (dC (.int 2)))) (dNot (dTest (dIsi "str" (dOp dIx (dVr 3) (dC (.int 0)))))))) (dRet (dC (.bool false))) dNext) (dSeq (dAsg (dV 3) (hTup 2 (hCons (hSet 5) (hCons (hSet 6) hNil)))) (dSeq (dIfS (dOr (dTest (dOp (dIn true) (dVr 5) (dTup (dCons (dC (.str "|")) (dCons (dC (.str "-")) dNil))))) (dOr (dTest (dOp dEq (dVr 5) (dVr 4))) (dOr (dNot (dTest (dIsi "tuple" (dVr 6)))) (dTest (dOp dLt (dCB dLen1 (dCons (dVr 6) dNil)) (dC (.int 2))))))) (dRet (dC (.bool false))) dNext) (dExt 2 (dOb (dLc (dItT (dV 6)) (hSet 7) dYes (dTup (dCons (dV 7) (dCons (dV 5) dNil))) [7])))))))))
noncomputable def F_is_tree : PD.Env → Out :=
  (dSeq (dNew 1 (dNewD)) (dSeq (dNew 2 (dLst (dCons (dTup (dCons (dV 0) (dCons (dC (.str "")) dNil))) dNil))) (dSeq (dAhead [3, 4, 5, 6] (dWhile C_is_tree_1 B_is_tree_1)) (dRet (dOp dLt (dMaxD (dVr 1)) (dCB dLenD (dCons (dVr 1) dNil)))))))
noncomputable def f_is_tree : List D → Res D := funT 1 8 F_is_tree
theorem ok_is_tree (T : Txt K mg cl) (G_is_whole : GFn P w K mg base cl "is_whole" (rlV K) 1 1 f_is_whole) : GFn P w K mg base cl "is_tree" (rlV K) 2 1 f_is_tree := by
  refine gfn_T (N := N_is_tree) (k := 1) (F := F_is_tree) T.d_is_tree sc_is_tree rfl fun f => ?_
  intro cdv A outer s H E hr
  have nd : (cxB P w K mg base N_is_tree "is_tree" (defScope s_is_tree) f cdv A outer s H E).N.Nodup := sc_is_tree.nd
  have tk : Takes (cxB P w K mg base N_is_tree "is_tree" (defScope s_is_tree) f cdv A outer s H E) (TW cl (wE cl E)) := tk_body
  have po : PassesOwn (model (cxB P w K mg base N_is_tree "is_tree" (defScope s_is_tree) f cdv A outer s H E).prog (cxB P w K mg base N_is_tree "is_tree" (defScope s_is_tree) f cdv A outer s H E).w) (cxB P w K mg base N_is_tree "is_tree" (defScope s_is_tree) f cdv A outer s H E).A (cxB P w K mg base N_is_tree "is_tree" (defScope s_is_tree) f cdv A outer s H E).env (cxB P w K mg base N_is_tree "is_tree" (defScope s_is_tree) f cdv A outer s H E).xe := po_body
  have hu64 : (cxB P w K mg base N_is_tree "is_tree" (defScope s_is_tree) f cdv A outer s H E).A.units + 64 < cLine := hr.units
  have hu : (cxB P w K mg base N_is_tree "is_tree" (defScope s_is_tree) f cdv A outer s H E).A.units + 1 < cLine := hu_of hr
  have h : XSs (cxB P w K mg base N_is_tree "is_tree" (defScope s_is_tree) f cdv A outer s H E) (wE cl E) (defBody s_is_tree) _ F_is_tree :=
    (sCons (sNew 1 xNewD nd) (sCons (sNew 2 (xLst (aCons (xTup (aCons (xV 0) (aCons xStr aNil))) aNil)) nd) (sCons (sAhead [3, 4, 5, 6] (sWhile po (tCmp (op_ne0 hu64) dr_eq0 (xR 2) (XN.r (xLst aNil)) (nomark _)) (ssForget [3, 4, 5, 6] (sCons (sPop 2 (gTup' rfl (gsCons (gName' 3 nd) (gsCons (gName' 4 nd) gsNil)))) (sCons (sIf (tVal (XV.r (xCallG anti_V G_is_whole hr (by decide) tk (aCons (xV 3) aNil)))) (sCons (sIf (XW.t (wOr (tCmp op_lt dr_cmpI (xR 3) (XV.r xInt) (nomark _)) (wOr (tCmp op_ge dr_cmpI (xR 3) (XV.r (xGlobI T.g_MOST_BOXES)) (nomark _)) (wOr1 (tInD hu (xR 3) (xR 1)))))) (sOne (sRet xBl)) sNil) (sCons (sPutD 1 hu xBl (xR 3)) (sOne sCt))) sNil) (sCons (sIf (XW.t (wOr (tNot' (tVal (XV.r (xIsi (xR 3) T.z_isinstance T.z_tuple)))) (wOr (tCmp (op_neA hu64) dr_ne (XV.r (xCB call_lenA anti_V dr_len T.z_len PySem.boot_len (rCons (xR 3) rNil))) (XV.r xInt) (nomark _)) (wOr1 (tNot' (tVal (XV.r (xIsi (XV.r (xIx ix_seq dr_ix (xR 3) (XV.r xInt) (fun _ _ => rfl))) T.z_isinstance T.z_str)))))))) (sOne (sRet xBl)) sNil) (sCons (sSet (xV 3) (gTup' rfl (gsCons (gName' 5 nd) (gsCons (gName' 6 nd) gsNil)))) (sCons (sIf (XW.t (wOr (tCmp op_notIn_seq dr_in (xR 5) (XV.r (xTup (aCons xStr (aCons xStr aNil)))) (by rfl)) (wOr (tCmp (op_eqA hu64) dr_eq (xR 5) (xR 4) (nomark _)) (wOr (tNot' (tVal (XV.r (xIsi (xR 6) T.z_isinstance T.z_tuple)))) (wOr1 (tCmp op_lt dr_cmpI (XV.r (xCB call_lenA anti_V dr_len T.z_len PySem.boot_len (rCons (xR 6) rNil))) (XV.r xInt) (nomark _))))))) (sOne (sRet xBl)) sNil) (sOne (sExt 2 (XN.r (xLc (own := [("part", 7)]) rfl nd (iT (xV 6)) (blkOk_by (N := N_is_tree) (sc := defScope s_is_tree) (by decide +kernel)) (fun _ _ _ _ _ => (gName' 7 (by exact nd))) (fun _ _ _ _ _ => cYes) (fun _ _ _ _ _ => (X1.cast (xTup (aCons (xV 7) (aCons (xV 5) aNil))))) (by decide))))))))))))) (sOne (sRet (xCmp op_lt dr_cmpI (XV.r (xMaxD T.z_max (xR 1))) (XV.r (xCB call_lenDR anti_V dr_lenD T.z_len PySem.boot_len (rCons (xR 1) rNil))) (nomark _)))))))
  exact ⟨_, h.ps, h.j⟩
abbrev N_need_tree : List Str := ["thing"]
theorem sc_need_tree : FnScope N_need_tree ["thing"] (defScope s_need_tree) := ⟨rfl, rfl, rfl, by decide +kernel, rfl, by decide +kernel, by decide +kernel⟩
noncomputable def F_need_tree : PD.Env → Out :=
  (dSeq (dIfS (dNot (dTest (dCall f_is_tree (dCons (dV 0) dNil)))) (dExc "NoTree") dNext) (dRetV 0))
noncomputable def f_need_tree : List D → Res D := funT 1 1 F_need_tree
theorem ok_need_tree (T : Txt K mg cl) (G_is_tree : GFn P w K mg base cl "is_tree" (rlV K) 2 1 f_is_tree) : GFn P w K mg base cl "need_tree" (rlV K) 3 1 f_need_tree := by
  refine gfn_T (N := N_need_tree) (k := 2) (F := F_need_tree) T.d_need_tree sc_need_tree rfl fun f => ?_
  intro cdv A outer s H E hr
  have nd : (cxB P w K mg base N_need_tree "need_tree" (defScope s_need_tree) f cdv A outer s H E).N.Nodup := sc_need_tree.nd
  have tk : Takes (cxB P w K mg base N_need_tree "need_tree" (defScope s_need_tree) f cdv A outer s H E) (TW cl (wE cl E)) := tk_body
  have po : PassesOwn (model (cxB P w K mg base N_need_tree "need_tree" (defScope s_need_tree) f cdv A outer s H E).prog (cxB P w K mg base N_need_tree "need_tree" (defScope s_need_tree) f cdv A outer s H E).w) (cxB P w K mg base N_need_tree "need_tree" (defScope s_need_tree) f cdv A outer s H E).A (cxB P w K mg base N_need_tree "need_tree" (defScope s_need_tree) f cdv A outer s H E).env (cxB P w K mg base N_need_tree "need_tree" (defScope s_need_tree) f cdv A outer s H E).xe := po_body
  have hu64 : (cxB P w K mg base N_need_tree "need_tree" (defScope s_need_tree) f cdv A outer s H E).A.units + 64 < cLine := hr.units
  have hu : (cxB P w K mg base N_need_tree "need_tree" (defScope s_need_tree) f cdv A outer s H E).A.units + 1 < cLine := hu_of hr
  have h : XSs (cxB P w K mg base N_need_tree "need_tree" (defScope s_need_tree) f cdv A outer s H E) (wE cl E) (defBody s_need_tree) _ F_need_tree :=
    (sCons (sIf (tNot' (tVal (XV.r (xCallG anti_V G_is_tree hr (by decide) tk (aCons (xV 0) aNil))))) (sOne (ExcAt.raise T.c_NoTree tk)) sNil) (sOne (sRetV 0)))
  exact ⟨_, h.ps, h.j⟩
abbrev N_count_boxes : List Str := ["tree", "part"]
theorem sc_count_boxes : FnScope N_count_boxes ["tree"] (defScope s_count_boxes) := ⟨rfl, rfl, rfl, by decide +kernel, rfl, by decide +kernel, by decide +kernel⟩
noncomputable def F_count_boxes (g : List D → Res D) : PD.Env → Out :=
  (dSeq (dIfS (dTest (dCall f_is_whole (dCons (dV 0) dNil))) (dRet (dC (.int 1))) dNext) (dRet (dCB dSum1 (dCons (dOb (dLc (dItT (dOp dIx (dVr 0) (dC (.int 1)))) (hSet 1) dYes (dCall g (dCons (dV 1) dNil)) [1])) dNil))))
noncomputable def fr_count_boxes : Nat → List D → Res D
  | 0 => fun _ => .stuck
  | n + 1 => funT 1 2 (F_count_boxes (fr_count_boxes n))
noncomputable def f_count_boxes : List D → Res D := fr_count_boxes 30
theorem ok_count_boxes (T : Txt K mg cl) (G_is_whole : GFn P w K mg base cl "is_whole" (rlV K) 1 1 f_is_whole) : GFn P w K mg base cl "count_boxes" (rlV K) 32 1 f_count_boxes := by
  have all : ∀ n, GFn P w K mg base cl "count_boxes" (rlV K) (n + 2) 1 (fr_count_boxes n) := fun n => by
    induction n with
    | zero => exact gfn_0 1 T.d_count_boxes sc_count_boxes rfl
    | succ n ih =>
      refine gfn_T (N := N_count_boxes) (k := n + 2) (F := F_count_boxes (fr_count_boxes n)) T.d_count_boxes sc_count_boxes rfl fun f => ?_
      intro cdv A outer s H E hr
      have nd : (cxB P w K mg base N_count_boxes "count_boxes" (defScope s_count_boxes) f cdv A outer s H E).N.Nodup := sc_count_boxes.nd
      have tk : Takes (cxB P w K mg base N_count_boxes "count_boxes" (defScope s_count_boxes) f cdv A outer s H E) (TW cl (wE cl E)) := tk_body
      have po : PassesOwn (model (cxB P w K mg base N_count_boxes "count_boxes" (defScope s_count_boxes) f cdv A outer s H E).prog (cxB P w K mg base N_count_boxes "count_boxes" (defScope s_count_boxes) f cdv A outer s H E).w) (cxB P w K mg base N_count_boxes "count_boxes" (defScope s_count_boxes) f cdv A outer s H E).A (cxB P w K mg base N_count_boxes "count_boxes" (defScope s_count_boxes) f cdv A outer s H E).env (cxB P w K mg base N_count_boxes "count_boxes" (defScope s_count_boxes) f cdv A outer s H E).xe := po_body
      have hu64 : (cxB P w K mg base N_count_boxes "count_boxes" (defScope s_count_boxes) f cdv A outer s H E).A.units + 64 < cLine := hr.units
      have hu : (cxB P w K mg base N_count_boxes "count_boxes" (defScope s_count_boxes) f cdv A outer s H E).A.units + 1 < cLine := hu_of hr
      have h : XSs (cxB P w K mg base N_count_boxes "count_boxes" (defScope s_count_boxes) f cdv A outer s H E) (wE cl E) (defBody s_count_boxes) _ (F_count_boxes (fr_count_boxes n)) :=
        (sCons (sIf (tVal (XV.r (xCallG anti_V G_is_whole hr (by omega) tk (aCons (xV 0) aNil)))) (sOne (sRet xInt)) sNil) (sOne (sRet (xSum1 rfl T.z_sum (rCons (XN.r (xLc (own := [("part", 1)]) rfl nd (iT (xIx ix_seq dr_ix (xR 0) (XV.r xInt) (fun _ _ => rfl))) (blkOk_by (N := N_count_boxes) (sc := defScope s_count_boxes) (by decide +kernel)) (fun _ _ _ _ _ => (gName' 1 (by exact nd))) (fun _ _ _ _ _ => cYes) (fun _ _ _ _ _ => (X1.cast (xCallG anti_V ih (by exact hr) (Nat.le_refl _) tk0 (aCons (xV 1) aNil)))) (by decide))) rNil)))))
      exact ⟨_, h.ps, h.j⟩
  exact all 30
abbrev N_boxes_of : List Str := ["tree"]
theorem sc_boxes_of : FnScope N_boxes_of ["tree"] (defScope s_boxes_of) := ⟨rfl, rfl, rfl, by decide +kernel, rfl, by decide +kernel, by decide +kernel⟩
noncomputable def F_boxes_of : PD.Env → Out :=
  (dRet (dCall f_count_boxes (dCons (dCall f_need_tree (dCons (dV 0) dNil)) dNil)))
noncomputable def f_boxes_of : List D → Res D := funT 1 1 F_boxes_of
theorem ok_boxes_of (T : Txt K mg cl) (G_count_boxes : GFn P w K mg base cl "count_boxes" (rlV K) 32 1 f_count_boxes) (G_need_tree : GFn P w K mg base cl "need_tree" (rlV K) 3 1 f_need_tree) : GFn P w K mg base cl "boxes_of" (rlV K) 33 1 f_boxes_of := by
  refine gfn_T (N := N_boxes_of) (k := 32) (F := F_boxes_of) T.d_boxes_of sc_boxes_of rfl fun f => ?_
  intro cdv A outer s H E hr
  have nd : (cxB P w K mg base N_boxes_of "boxes_of" (defScope s_boxes_of) f cdv A outer s H E).N.Nodup := sc_boxes_of.nd
  have tk : Takes (cxB P w K mg base N_boxes_of "boxes_of" (defScope s_boxes_of) f cdv A outer s H E) (TW cl (wE cl E)) := tk_body
  have po : PassesOwn (model (cxB P w K mg base N_boxes_of "boxes_of" (defScope s_boxes_of) f cdv A outer s H E).prog (cxB P w K mg base N_boxes_of "boxes_of" (defScope s_boxes_of) f cdv A outer s H E).w) (cxB P w K mg base N_boxes_of "boxes_of" (defScope s_boxes_of) f cdv A outer s H E).A (cxB P w K mg base N_boxes_of "boxes_of" (defScope s_boxes_of) f cdv A outer s H E).env (cxB P w K mg base N_boxes_of "boxes_of" (defScope s_boxes_of) f cdv A outer s H E).xe := po_body
  have hu64 : (cxB P w K mg base N_boxes_of "boxes_of" (defScope s_boxes_of) f cdv A outer s H E).A.units + 64 < cLine := hr.units
  have hu : (cxB P w K mg base N_boxes_of "boxes_of" (defScope s_boxes_of) f cdv A outer s H E).A.units + 1 < cLine := hu_of hr
  have h : XSs (cxB P w K mg base N_boxes_of "boxes_of" (defScope s_boxes_of) f cdv A outer s H E) (wE cl E) (defBody s_boxes_of) _ F_boxes_of :=
    (sOne (sRet (xCallG anti_V G_count_boxes hr (by decide) tk (aCons (xCallG anti_V G_need_tree hr (by decide) tk (aCons (xV 0) aNil)) aNil))))
  exact ⟨_, h.ps, h.j⟩
abbrev N_written : List Str := ["tree", "part"]
theorem sc_written : FnScope N_written ["tree"] (defScope s_written) := ⟨rfl, rfl, rfl, by decide +kernel, rfl, by decide +kernel, by decide +kernel⟩
noncomputable def F_written (g : List D → Res D) : PD.Env → Out :=
  (dSeq (dIfS (dTest (dCall f_is_whole (dCons (dV 0) dNil))) (dRet (dCB dStr1 (dCons (dVr 0) dNil))) dNext) (dRet (dOp dAdd (dOp dAdd (dOp dAdd (dC (.str "(")) (dOp dIx (dVr 0) (dC (.int 0)))) (dJoin (dC (.str " ")) (dOb (dLc (dItT (dOp dIx (dVr 0) (dC (.int 1)))) (hSet 1) dYes (dCall g (dCons (dV 1) dNil)) [1])))) (dC (.str ")")))))
noncomputable def fr_written : Nat → List D → Res D
  | 0 => fun _ => .stuck
  | n + 1 => funT 1 2 (F_written (fr_written n))
noncomputable def f_written : List D → Res D := fr_written 30
theorem ok_written (T : Txt K mg cl) (G_is_whole : GFn P w K mg base cl "is_whole" (rlV K) 1 1 f_is_whole) : GFn P w K mg base cl "written" (rlV K) 32 1 f_written := by
  have all : ∀ n, GFn P w K mg base cl "written" (rlV K) (n + 2) 1 (fr_written n) := fun n => by
    induction n with
    | zero => exact gfn_0 1 T.d_written sc_written rfl
    | succ n ih =>
      refine gfn_T (N := N_written) (k := n + 2) (F := F_written (fr_written n)) T.d_written sc_written rfl fun f => ?_
      intro cdv A outer s H E hr
      have nd : (cxB P w K mg base N_written "written" (defScope s_written) f cdv A outer s H E).N.Nodup := sc_written.nd
      have tk : Takes (cxB P w K mg base N_written "written" (defScope s_written) f cdv A outer s H E) (TW cl (wE cl E)) := tk_body
      have po : PassesOwn (model (cxB P w K mg base N_written "written" (defScope s_written) f cdv A outer s H E).prog (cxB P w K mg base N_written "written" (defScope s_written) f cdv A outer s H E).w) (cxB P w K mg base N_written "written" (defScope s_written) f cdv A outer s H E).A (cxB P w K mg base N_written "written" (defScope s_written) f cdv A outer s H E).env (cxB P w K mg base N_written "written" (defScope s_written) f cdv A outer s H E).xe := po_body
      have hu64 : (cxB P w K mg base N_written "written" (defScope s_written) f cdv A outer s H E).A.units + 64 < cLine := hr.units
      have hu : (cxB P w K mg base N_written "written" (defScope s_written) f cdv A outer s H E).A.units + 1 < cLine := hu_of hr
      have h : XSs (cxB P w K mg base N_written "written" (defScope s_written) f cdv A outer s H E) (wE cl E) (defBody s_written) _ (F_written (fr_written n)) :=
        (sCons (sIf (tVal (XV.r (xCallG anti_V G_is_whole hr (by omega) tk (aCons (xV 0) aNil)))) (sOne (sRet (xStr1 T.z_str (rCons (xR 0) rNil)))) sNil) (sOne (sRet (xOp op_addA anti_V dr_add (XV.r (xOp op_addA anti_V dr_add (XV.r (xOp op_addA anti_V dr_add (XV.r xStr) (XV.r (xIx ix_seq dr_ix (xR 0) (XV.r xInt) (fun _ _ => rfl))))) (XV.r (xJoin (XV.r xStr) (XN.r (xLc (own := [("part", 1)]) rfl nd (iT (xIx ix_seq dr_ix (xR 0) (XV.r xInt) (fun _ _ => rfl))) (blkOk_by (N := N_written) (sc := defScope s_written) (by decide +kernel)) (fun _ _ _ _ _ => (gName' 1 (by exact nd))) (fun _ _ _ _ _ => cYes) (fun _ _ _ _ _ => (X1.cast (xCallG anti_V ih (by exact hr) (Nat.le_refl _) tk0 (aCons (xV 1) aNil)))) (by decide))))))) (XV.r xStr)))))
      exact ⟨_, h.ps, h.j⟩
  exact all 30
abbrev N_show_tree : List Str := ["tree"]
theorem sc_show_tree : FnScope N_show_tree ["tree"] (defScope s_show_tree) := ⟨rfl, rfl, rfl, by decide +kernel, rfl, by decide +kernel, by decide +kernel⟩
noncomputable def F_show_tree : PD.Env → Out :=
  (dRet (dCall f_written (dCons (dCall f_need_tree (dCons (dV 0) dNil)) dNil)))
noncomputable def f_show_tree : List D → Res D := funT 1 1 F_show_tree
theorem ok_show_tree (T : Txt K mg cl) (G_need_tree : GFn P w K mg base cl "need_tree" (rlV K) 3 1 f_need_tree) (G_written : GFn P w K mg base cl "written" (rlV K) 32 1 f_written) : GFn P w K mg base cl "show_tree" (rlV K) 33 1 f_show_tree := by
  refine gfn_T (N := N_show_tree) (k := 32) (F := F_show_tree) T.d_show_tree sc_show_tree rfl fun f => ?_
  intro cdv A outer s H E hr
  have nd : (cxB P w K mg base N_show_tree "show_tree" (defScope s_show_tree) f cdv A outer s H E).N.Nodup := sc_show_tree.nd
  have tk : Takes (cxB P w K mg base N_show_tree "show_tree" (defScope s_show_tree) f cdv A outer s H E) (TW cl (wE cl E)) := tk_body
  have po : PassesOwn (model (cxB P w K mg base N_show_tree "show_tree" (defScope s_show_tree) f cdv A outer s H E).prog (cxB P w K mg base N_show_tree "show_tree" (defScope s_show_tree) f cdv A outer s H E).w) (cxB P w K mg base N_show_tree "show_tree" (defScope s_show_tree) f cdv A outer s H E).A (cxB P w K mg base N_show_tree "show_tree" (defScope s_show_tree) f cdv A outer s H E).env (cxB P w K mg base N_show_tree "show_tree" (defScope s_show_tree) f cdv A outer s H E).xe := po_body
  have hu64 : (cxB P w K mg base N_show_tree "show_tree" (defScope s_show_tree) f cdv A outer s H E).A.units + 64 < cLine := hr.units
  have hu : (cxB P w K mg base N_show_tree "show_tree" (defScope s_show_tree) f cdv A outer s H E).A.units + 1 < cLine := hu_of hr
  have h : XSs (cxB P w K mg base N_show_tree "show_tree" (defScope s_show_tree) f cdv A outer s H E) (wE cl E) (defBody s_show_tree) _ F_show_tree :=
    (sOne (sRet (xCallG anti_V G_written hr (by decide) tk (aCons (xCallG anti_V G_need_tree hr (by decide) tk (aCons (xV 0) aNil)) aNil))))
  exact ⟨_, h.ps, h.j⟩
abbrev N__law_cell_at : List Str := ["script", "k"]
theorem sc__law_cell_at : FnScope N__law_cell_at ["script", "k"] (defScope s__law_cell_at) := ⟨rfl, rfl, rfl, by decide +kernel, rfl, by decide +kernel, by decide +kernel⟩
noncomputable def F__law_cell_at : PD.Env → Out :=
  (dSeq (dIfS (dTest (dOp dLt (dVr 1) (dCB dLen1 (dCons (dVr 0) dNil)))) (dRet (dOp dIx (dVr 0) (dVr 1))) dNext) (dRet (dC (.int 0))))
noncomputable def f__law_cell_at : List D → Res D := funT 2 2 F__law_cell_at
theorem ok__law_cell_at (T : Txt K mg cl) : GFn P w K mg base cl "_law_cell_at" (rlV K) 1 2 f__law_cell_at := by
  refine gfn_T (N := N__law_cell_at) (k := 0) (F := F__law_cell_at) T.d__law_cell_at sc__law_cell_at rfl fun f => ?_
  intro cdv A outer s H E hr
  have nd : (cxB P w K mg base N__law_cell_at "_law_cell_at" (defScope s__law_cell_at) f cdv A outer s H E).N.Nodup := sc__law_cell_at.nd
  have tk : Takes (cxB P w K mg base N__law_cell_at "_law_cell_at" (defScope s__law_cell_at) f cdv A outer s H E) (TW cl (wE cl E)) := tk_body
  have po : PassesOwn (model (cxB P w K mg base N__law_cell_at "_law_cell_at" (defScope s__law_cell_at) f cdv A outer s H E).prog (cxB P w K mg base N__law_cell_at "_law_cell_at" (defScope s__law_cell_at) f cdv A outer s H E).w) (cxB P w K mg base N__law_cell_at "_law_cell_at" (defScope s__law_cell_at) f cdv A outer s H E).A (cxB P w K mg base N__law_cell_at "_law_cell_at" (defScope s__law_cell_at) f cdv A outer s H E).env (cxB P w K mg base N__law_cell_at "_law_cell_at" (defScope s__law_cell_at) f cdv A outer s H E).xe := po_body
  have hu64 : (cxB P w K mg base N__law_cell_at "_law_cell_at" (defScope s__law_cell_at) f cdv A outer s H E).A.units + 64 < cLine := hr.units
  have hu : (cxB P w K mg base N__law_cell_at "_law_cell_at" (defScope s__law_cell_at) f cdv A outer s H E).A.units + 1 < cLine := hu_of hr
  have h : XSs (cxB P w K mg base N__law_cell_at "_law_cell_at" (defScope s__law_cell_at) f cdv A outer s H E) (wE cl E) (defBody s__law_cell_at) _ F__law_cell_at :=
    (sCons (sIf (tCmp op_lt dr_cmpI (xR 1) (XV.r (xCB call_lenA anti_V dr_len T.z_len PySem.boot_len (rCons (xR 0) rNil))) (nomark _)) (sOne (sRet (xIx ix_seq dr_ix (xR 0) (xR 1) (fun _ _ => rfl)))) sNil) (sOne (sRet xInt)))
  exact ⟨_, h.ps, h.j⟩
abbrev N__law_whole : List Str := ["found"]
theorem sc__law_whole : FnScope N__law_whole ["found"] (defScope s__law_whole) := ⟨rfl, rfl, rfl, by decide +kernel, rfl, by decide +kernel, by decide +kernel⟩
noncomputable def F__law_whole : PD.Env → Out :=
  (dRet (dAndV (dIsi "int" (dVr 0)) (dNotV (dIsi "bool" (dVr 0)))))
noncomputable def f__law_whole : List D → Res D := funT 1 1 F__law_whole
theorem ok__law_whole (T : Txt K mg cl) : GFn P w K mg base cl "_law_whole" (rlV K) 1 1 f__law_whole := by
  refine gfn_T (N := N__law_whole) (k := 0) (F := F__law_whole) T.d__law_whole sc__law_whole rfl fun f => ?_
  intro cdv A outer s H E hr
  have nd : (cxB P w K mg base N__law_whole "_law_whole" (defScope s__law_whole) f cdv A outer s H E).N.Nodup := sc__law_whole.nd
  have tk : Takes (cxB P w K mg base N__law_whole "_law_whole" (defScope s__law_whole) f cdv A outer s H E) (TW cl (wE cl E)) := tk_body
  have po : PassesOwn (model (cxB P w K mg base N__law_whole "_law_whole" (defScope s__law_whole) f cdv A outer s H E).prog (cxB P w K mg base N__law_whole "_law_whole" (defScope s__law_whole) f cdv A outer s H E).w) (cxB P w K mg base N__law_whole "_law_whole" (defScope s__law_whole) f cdv A outer s H E).A (cxB P w K mg base N__law_whole "_law_whole" (defScope s__law_whole) f cdv A outer s H E).env (cxB P w K mg base N__law_whole "_law_whole" (defScope s__law_whole) f cdv A outer s H E).xe := po_body
  have hu64 : (cxB P w K mg base N__law_whole "_law_whole" (defScope s__law_whole) f cdv A outer s H E).A.units + 64 < cLine := hr.units
  have hu : (cxB P w K mg base N__law_whole "_law_whole" (defScope s__law_whole) f cdv A outer s H E).A.units + 1 < cLine := hu_of hr
  have h : XSs (cxB P w K mg base N__law_whole "_law_whole" (defScope s__law_whole) f cdv A outer s H E) (wE cl E) (defBody s__law_whole) _ F__law_whole :=
    (sOne (sRet (xAnd (XV.r (xIsi (xR 0) T.z_isinstance T.z_int)) (xAnd1 (xNot (XV.r (xIsi (xR 0) T.z_isinstance T.z_bool)))))))
  exact ⟨_, h.ps, h.j⟩
abbrev N__law_join : List Str := ["kind", "one", "other", "parts", "tree"]
theorem sc__law_join : FnScope N__law_join ["kind", "one", "other"] (defScope s__law_join) := ⟨rfl, rfl, rfl, by decide +kernel, rfl, by decide +kernel, by decide +kernel⟩
noncomputable def B__law_join_1 : PD.Env → Out :=
  (dForget [4] (dIfS (dAnd (dTest (dIsi "tuple" (dVr 4))) (dTest (dOp dEq (dOp dIx (dVr 4) (dC (.int 0))) (dVr 0)))) (dExt 3 (dOp dIx (dVr 4) (dC (.int 1)))) (dApp 3 (dV 4))))
noncomputable def F__law_join : PD.Env → Out :=
  (dSeq (dNew 3 (dLst dNil)) (dSeq (dAhead [4] (dFor (dItT (dTup (dCons (dV 1) (dCons (dV 2) dNil)))) (hSet 4) B__law_join_1)) (dRet (dTup (dCons (dV 0) (dCons (dCB dTuple (dCons (dVr 3) dNil)) dNil))))))
noncomputable def f__law_join : List D → Res D := funT 3 5 F__law_join
theorem ok__law_join (T : Txt K mg cl) : GFn P w K mg base cl "_law_join" (rlV K) 1 3 f__law_join := by
  refine gfn_T (N := N__law_join) (k := 0) (F := F__law_join) T.d__law_join sc__law_join rfl fun f => ?_
  intro cdv A outer s H E hr
  have nd : (cxB P w K mg base N__law_join "_law_join" (defScope s__law_join) f cdv A outer s H E).N.Nodup := sc__law_join.nd
  have tk : Takes (cxB P w K mg base N__law_join "_law_join" (defScope s__law_join) f cdv A outer s H E) (TW cl (wE cl E)) := tk_body
  have po : PassesOwn (model (cxB P w K mg base N__law_join "_law_join" (defScope s__law_join) f cdv A outer s H E).prog (cxB P w K mg base N__law_join "_law_join" (defScope s__law_join) f cdv A outer s H E).w) (cxB P w K mg base N__law_join "_law_join" (defScope s__law_join) f cdv A outer s H E).A (cxB P w K mg base N__law_join "_law_join" (defScope s__law_join) f cdv A outer s H E).env (cxB P w K mg base N__law_join "_law_join" (defScope s__law_join) f cdv A outer s H E).xe := po_body
  have hu64 : (cxB P w K mg base N__law_join "_law_join" (defScope s__law_join) f cdv A outer s H E).A.units + 64 < cLine := hr.units
  have hu : (cxB P w K mg base N__law_join "_law_join" (defScope s__law_join) f cdv A outer s H E).A.units + 1 < cLine := hu_of hr
  have h : XSs (cxB P w K mg base N__law_join "_law_join" (defScope s__law_join) f cdv A outer s H E) (wE cl E) (defBody s__law_join) _ F__law_join :=
    (sCons (sNew 3 (xLst aNil) nd) (sCons (sAhead [4] (sFor po rfl (iT (xTup (aCons (xV 1) (aCons (xV 2) aNil)))) (gName' 4 nd) (ssForget [4] (sOne (sIf (XW.t (wAnd (tVal (XV.r (xIsi (xR 4) T.z_isinstance T.z_tuple))) (wAnd1 (tCmp (op_eqA hu64) dr_eq (XV.r (xIx ix_seq dr_ix (xR 4) (XV.r xInt) (fun _ _ => rfl))) (xR 0) (nomark _))))) (sOne (sExt 3 (XV.r (xIx ix_seq dr_ix (xR 4) (XV.r xInt) (fun _ _ => rfl))))) (sOne (sApp 3 (xV 4)))))))) (sOne (sRet (xTup (aCons (xV 0) (aCons (xCT call_tuple_of anti_V dr_tuple T.z_tuple (by decide +kernel) (rCons (xR 3) rNil)) aNil)))))))
  exact ⟨_, h.ps, h.j⟩
abbrev N__law_tree : List Str := ["cells", "left", "items", "cell", "at", "tree"]
theorem sc__law_tree : FnScope N__law_tree ["cells"] (defScope s__law_tree) := ⟨rfl, rfl, rfl, by decide +kernel, rfl, by decide +kernel, by decide +kernel⟩
noncomputable def B__law_tree_2 : PD.Env → Out :=
  (dForget [3, 4, 5] (dSeq (dAsg (dOp dMod (dOp dDiv (dVr 3) (dC (.int 2))) (dOp dSub (dCB dLen1 (dCons (dVr 2) dNil)) (dC (.int 1)))) (hSet 4)) (dSeq (dAsg (dCall f__law_join (dCons (dOp dIx (dC (.str "|-")) (dOp dMod (dVr 3) (dC (.int 2)))) (dCons (dOp dIx (dVr 2) (dVr 4)) (dCons (dOp dIx (dVr 2) (dOp dAdd (dVr 4) (dC (.int 1)))) dNil)))) (hSet 5)) (dNew 2 (dOp dCat (dOp dAdd (dSl dSlV (dVr 2) dNo (dPart (dVr 4))) (dOb (dLst (dCons (dV 5) dNil)))) (dSl dSlV (dVr 2) (dPart (dOp dAdd (dVr 4) (dC (.int 2)))) dNo))))))
noncomputable def B__law_tree_1 : PD.Env → Out :=
  (dForget [3] (dAppPop 2 1 (dOp dMod (dOp dDiv (dVr 3) (dC (.int 64))) (dCB dLen1 (dCons (dVr 1) dNil)))))
noncomputable def F__law_tree : PD.Env → Out :=
  (dSeq (dNew 1 (dLrg1 (dOp dAdd (dCB dLen1 (dCons (dVr 0) dNil)) (dC (.int 1))))) (dSeq (dNew 2 (dLst dNil)) (dSeq (dAhead [3] (dFor (dItL (dOp dAdd (dVr 0) (dOb (dLst (dCons (dC (.int 0)) dNil))))) (hSet 3) B__law_tree_1)) (dSeq (dAhead [3, 4, 5] (dFor (dItL (dV 0)) (hSet 3) B__law_tree_2)) (dRet (dOp dIx (dVr 2) (dC (.int 0))))))))
noncomputable def f__law_tree : List D → Res D := funT 1 6 F__law_tree
theorem ok__law_tree (T : Txt K mg cl) (G__law_join : GFn P w K mg base cl "_law_join" (rlV K) 1 3 f__law_join) : GFn P w K mg base cl "_law_tree" (rlV K) 2 1 f__law_tree := by
  refine gfn_T (N := N__law_tree) (k := 1) (F := F__law_tree) T.d__law_tree sc__law_tree rfl fun f => ?_
  intro cdv A outer s H E hr
  have nd : (cxB P w K mg base N__law_tree "_law_tree" (defScope s__law_tree) f cdv A outer s H E).N.Nodup := sc__law_tree.nd
  have tk : Takes (cxB P w K mg base N__law_tree "_law_tree" (defScope s__law_tree) f cdv A outer s H E) (TW cl (wE cl E)) := tk_body
  have po : PassesOwn (model (cxB P w K mg base N__law_tree "_law_tree" (defScope s__law_tree) f cdv A outer s H E).prog (cxB P w K mg base N__law_tree "_law_tree" (defScope s__law_tree) f cdv A outer s H E).w) (cxB P w K mg base N__law_tree "_law_tree" (defScope s__law_tree) f cdv A outer s H E).A (cxB P w K mg base N__law_tree "_law_tree" (defScope s__law_tree) f cdv A outer s H E).env (cxB P w K mg base N__law_tree "_law_tree" (defScope s__law_tree) f cdv A outer s H E).xe := po_body
  have hu64 : (cxB P w K mg base N__law_tree "_law_tree" (defScope s__law_tree) f cdv A outer s H E).A.units + 64 < cLine := hr.units
  have hu : (cxB P w K mg base N__law_tree "_law_tree" (defScope s__law_tree) f cdv A outer s H E).A.units + 1 < cLine := hu_of hr
  have h : XSs (cxB P w K mg base N__law_tree "_law_tree" (defScope s__law_tree) f cdv A outer s H E) (wE cl E) (defBody s__law_tree) _ F__law_tree :=
    (sCons (sNew 1 (xLrg1 rfl T.z_list T.z_range (XV.r (xOp op_addA anti_V dr_add (XV.r (xCB call_lenA anti_V dr_len T.z_len PySem.boot_len (rCons (xR 0) rNil))) (XV.r xInt)))) nd) (sCons (sNew 2 (xLst aNil) nd) (sCons (sAhead [3] (sFor po rfl (iL (xOp op_addA anti_V dr_add (xR 0) (XN.r (xLst (aCons xInt aNil))))) (gName' 3 nd) (ssForget [3] (sOne (sAppPop 2 1 (XV.r (xOp op_mod anti_V dr_mod (XV.r (xOp op_fdivW anti_V dr_div (xR 3) (XV.r xInt))) (XV.r (xCB call_lenA anti_V dr_len T.z_len PySem.boot_len (rCons (xR 1) rNil)))))))))) (sCons (sAhead [3, 4, 5] (sFor po rfl (iL (xV 0)) (gName' 3 nd) (ssForget [3, 4, 5] (sCons (sSet (xOp op_mod anti_V dr_mod (XV.r (xOp op_fdivW anti_V dr_div (xR 3) (XV.r xInt))) (XV.r (xOp op_sub anti_V dr_sub (XV.r (xCB call_lenA anti_V dr_len T.z_len PySem.boot_len (rCons (xR 2) rNil))) (XV.r xInt)))) (gName' 4 nd)) (sCons (sSet (xCallG anti_V G__law_join hr (by decide) tk (aCons (xIx ix_seq dr_ix (XV.r xStr) (XV.r (xOp op_mod anti_V dr_mod (xR 3) (XV.r xInt))) (fun _ _ => rfl)) (aCons (xIx ix_seq dr_ix (xR 2) (xR 4) (fun _ _ => rfl)) (aCons (xIx ix_seq dr_ix (xR 2) (XV.r (xOp op_addA anti_V dr_add (xR 4) (XV.r xInt))) (fun _ _ => rfl)) aNil)))) (gName' 5 nd)) (sOne (sNew 2 (xOp op_catG anti_N dr_cat (XV.r (xOp op_addA anti_V dr_add (XV.r (xSl sl_any anti_V dr_slV (xR 2) oNo (oSo (xR 4)))) (XN.r (xLst (aCons (xV 5) aNil))))) (XV.r (xSl sl_any anti_V dr_slV (xR 2) (oSo (XV.r (xOp op_addA anti_V dr_add (xR 4) (XV.r xInt)))) oNo))) nd))))))) (sOne (sRet (xIx ix_seq dr_ix (xR 2) (XV.r xInt) (fun _ _ => rfl))))))))
  exact ⟨_, h.ps, h.j⟩
abbrev N__law_is : List Str := ["thing", "pile", "numbers", "here", "above", "part"]
theorem sc__law_is : FnScope N__law_is ["thing"] (defScope s__law_is) := ⟨rfl, rfl, rfl, by decide +kernel, rfl, by decide +kernel, by decide +kernel⟩
noncomputable def B__law_is_2 : PD.Env → Out :=
  (dForget [5] (dApp 1 (dTup (dCons (dV 5) (dCons (dOp dIx (dVr 3) (dC (.int 0))) dNil)))))
noncomputable def C__law_is_1 : PD.Env → Res Bool :=
  (dTest (dOp (dEq0 true) (dVr 1) (dOb (dLst dNil))))
noncomputable def B__law_is_1 : PD.Env → Out :=
  (dForget [3, 4, 5] (dSeq (dPop 1 (hTup 2 (hCons (hSet 3) (hCons (hSet 4) hNil)))) (dIfS (dTest (dCall f__law_whole (dCons (dV 3) dNil))) (dSeq (dApp 2 (dV 3)) (dIfS (dOr (dTest (dOp dGt (dCB dLen1 (dCons (dVr 2) dNil)) (dC (.int 24)))) (dTest (dOp dGt (dCount (dVr 2) (dVr 3)) (dC (.int 1))))) (dRet (dC (.bool false))) dNext)) (dSeq (dIfS (dOr (dNot (dTest (dIsi "tuple" (dVr 3)))) (dOr (dTest (dOp dNe (dCB dLen1 (dCons (dVr 3) dNil)) (dC (.int 2)))) (dNot (dTest (dIsi "str" (dOp dIx (dVr 3) (dC (.int 0)))))))) (dRet (dC (.bool false))) dNext) (dSeq (dIfS (dOr (dTest (dOp (dIn true) (dOp dIx (dVr 3) (dC (.int 0))) (dOb (dLst (dCons (dC (.str "|")) (dCons (dC (.str "-")) dNil)))))) (dOr (dTest (dOp dEq (dOp dIx (dVr 3) (dC (.int 0))) (dVr 4))) (dOr (dNot (dTest (dIsi "tuple" (dOp dIx (dVr 3) (dC (.int 1)))))) (dTest (dOp dLt (dCB dLen1 (dCons (dOp dIx (dVr 3) (dC (.int 1))) dNil)) (dC (.int 2))))))) (dRet (dC (.bool false))) dNext) (dAhead [5] (dFor (dItT (dOp dIx (dVr 3) (dC (.int 1)))) (hSet 5) B__law_is_2)))))))
noncomputable def F__law_is : PD.Env → Out :=
  (dSeq (dNew 1 (dLst (dCons (dTup (dCons (dV 0) (dCons (dC (.str "")) dNil))) dNil))) (dSeq (dNew 2 (dLst dNil)) (dSeq (dAhead [3, 4, 5] (dWhile C__law_is_1 B__law_is_1)) (dRet (dAndV (dOp dLt (dCB dLen1 (dCons (dVr 2) dNil)) (dC (.int 25))) (dOp dEq (dOb (dCB dSorted (dCons (dVr 2) dNil))) (dOb (dLrg1 (dCB dLen1 (dCons (dVr 2) dNil))))))))))
noncomputable def f__law_is : List D → Res D := funT 1 6 F__law_is
theorem ok__law_is (T : Txt K mg cl) (G__law_whole : GFn P w K mg base cl "_law_whole" (rlV K) 1 1 f__law_whole) : GFn P w K mg base cl "_law_is" (rlV K) 2 1 f__law_is := by
  refine gfn_T (N := N__law_is) (k := 1) (F := F__law_is) T.d__law_is sc__law_is rfl fun f => ?_
  intro cdv A outer s H E hr
  have nd : (cxB P w K mg base N__law_is "_law_is" (defScope s__law_is) f cdv A outer s H E).N.Nodup := sc__law_is.nd
  have tk : Takes (cxB P w K mg base N__law_is "_law_is" (defScope s__law_is) f cdv A outer s H E) (TW cl (wE cl E)) := tk_body
  have po : PassesOwn (model (cxB P w K mg base N__law_is "_law_is" (defScope s__law_is) f cdv A outer s H E).prog (cxB P w K mg base N__law_is "_law_is" (defScope s__law_is) f cdv A outer s H E).w) (cxB P w K mg base N__law_is "_law_is" (defScope s__law_is) f cdv A outer s H E).A (cxB P w K mg base N__law_is "_law_is" (defScope s__law_is) f cdv A outer s H E).env (cxB P w K mg base N__law_is "_law_is" (defScope s__law_is) f cdv A outer s H E).xe := po_body
  have hu64 : (cxB P w K mg base N__law_is "_law_is" (defScope s__law_is) f cdv A outer s H E).A.units + 64 < cLine := hr.units
  have hu : (cxB P w K mg base N__law_is "_law_is" (defScope s__law_is) f cdv A outer s H E).A.units + 1 < cLine := hu_of hr
  have h : XSs (cxB P w K mg base N__law_is "_law_is" (defScope s__law_is) f cdv A outer s H E) (wE cl E) (defBody s__law_is) _ F__law_is :=
    (sCons (sNew 1 (xLst (aCons (xTup (aCons (xV 0) (aCons xStr aNil))) aNil)) nd) (sCons (sNew 2 (xLst aNil) nd) (sCons (sAhead [3, 4, 5] (sWhile po (tCmp (op_ne0 hu64) dr_eq0 (xR 1) (XN.r (xLst aNil)) (nomark _)) (ssForget [3, 4, 5] (sCons (sPop 1 (gTup' rfl (gsCons (gName' 3 nd) (gsCons (gName' 4 nd) gsNil)))) (sOne (sIf (tVal (XV.r (xCallG anti_V G__law_whole hr (by decide) tk (aCons (xV 3) aNil)))) (sCons (sApp 2 (xV 3)) (sOne (sIf (XW.t (wOr (tCmp op_gt dr_cmpI (XV.r (xCB call_lenA anti_V dr_len T.z_len PySem.boot_len (rCons (xR 2) rNil))) (XV.r xInt) (nomark _)) (wOr1 (tCmp op_gt dr_cmpI (XV.r (xCount (xR 2) (xR 3))) (XV.r xInt) (nomark _))))) (sOne (sRet xBl)) sNil))) (sCons (sIf (XW.t (wOr (tNot' (tVal (XV.r (xIsi (xR 3) T.z_isinstance T.z_tuple)))) (wOr (tCmp (op_neA hu64) dr_ne (XV.r (xCB call_lenA anti_V dr_len T.z_len PySem.boot_len (rCons (xR 3) rNil))) (XV.r xInt) (nomark _)) (wOr1 (tNot' (tVal (XV.r (xIsi (XV.r (xIx ix_seq dr_ix (xR 3) (XV.r xInt) (fun _ _ => rfl))) T.z_isinstance T.z_str)))))))) (sOne (sRet xBl)) sNil) (sCons (sIf (XW.t (wOr (tCmp op_notIn_seq dr_in (XV.r (xIx ix_seq dr_ix (xR 3) (XV.r xInt) (fun _ _ => rfl))) (XN.r (xLst (aCons xStr (aCons xStr aNil)))) (by rfl)) (wOr (tCmp (op_eqA hu64) dr_eq (XV.r (xIx ix_seq dr_ix (xR 3) (XV.r xInt) (fun _ _ => rfl))) (xR 4) (nomark _)) (wOr (tNot' (tVal (XV.r (xIsi (XV.r (xIx ix_seq dr_ix (xR 3) (XV.r xInt) (fun _ _ => rfl))) T.z_isinstance T.z_tuple)))) (wOr1 (tCmp op_lt dr_cmpI (XV.r (xCB call_lenA anti_V dr_len T.z_len PySem.boot_len (rCons (XV.r (xIx ix_seq dr_ix (xR 3) (XV.r xInt) (fun _ _ => rfl))) rNil))) (XV.r xInt) (nomark _))))))) (sOne (sRet xBl)) sNil) (sOne (sAhead [5] (sFor po rfl (iT (xIx ix_seq dr_ix (xR 3) (XV.r xInt) (fun _ _ => rfl))) (gName' 5 nd) (ssForget [5] (sOne (sApp 1 (xTup (aCons (xV 5) (aCons (xIx ix_seq dr_ix (xR 3) (XV.r xInt) (fun _ _ => rfl)) aNil))))))))))))))))) (sOne (sRet (xAnd (XV.r (xCmp op_lt dr_cmpI (XV.r (xCB call_lenA anti_V dr_len T.z_len PySem.boot_len (rCons (xR 2) rNil))) (XV.r xInt) (nomark _))) (xAnd1 (xCmp (op_eqA hu64) dr_eq (XN.r (xCB (call_sortedD hu64) anti_N dr_sorted T.z_sorted (by decide +kernel) (rCons (xR 2) rNil))) (XN.r (xLrg1 rfl T.z_list T.z_range (XV.r (xCB call_lenA anti_V dr_len T.z_len PySem.boot_len (rCons (xR 2) rNil))))) (nomark _)))))))))
  exact ⟨_, h.ps, h.j⟩
abbrev N__law_knots : List Str := ["tree", "found", "pile", "here", "way", "k"]
theorem sc__law_knots : FnScope N__law_knots ["tree"] (defScope s__law_knots) := ⟨rfl, rfl, rfl, by decide +kernel, rfl, by decide +kernel, by decide +kernel⟩
noncomputable def B__law_knots_2 : PD.Env → Out :=
  (dForget [5] (dApp 2 (dTup (dCons (dOp dIx (dOp dIx (dVr 3) (dC (.int 1))) (dVr 5)) (dCons (dOp dAdd (dVr 4) (dOb (dLst (dCons (dV 5) dNil)))) dNil)))))
noncomputable def C__law_knots_1 : PD.Env → Res Bool :=
  (dTest (dOp (dEq0 true) (dVr 2) (dOb (dLst dNil))))
noncomputable def B__law_knots_1 : PD.Env → Out :=
  (dForget [3, 4, 5] (dSeq (dPop 2 (hTup 2 (hCons (hSet 3) (hCons (hSet 4) hNil)))) (dSeq (dApp 1 (dTup (dCons (dV 3) (dCons (dV 4) dNil)))) (dIfS (dTest (dIsi "tuple" (dVr 3))) (dAhead [5] (dFor (dRng1 (dCons (dCB dLen1 (dCons (dOp dIx (dVr 3) (dC (.int 1))) dNil)) dNil)) (hSet 5) B__law_knots_2)) dNext))))
noncomputable def F__law_knots : PD.Env → Out :=
  (dSeq (dNew 1 (dLst dNil)) (dSeq (dNew 2 (dLst (dCons (dTup (dCons (dV 0) (dCons (dOb (dLst dNil)) dNil))) dNil))) (dSeq (dAhead [3, 4, 5] (dWhile C__law_knots_1 B__law_knots_1)) (dRetV 1))))
noncomputable def f__law_knots : List D → Res Ob := funN 1 6 F__law_knots
theorem ok__law_knots (T : Txt K mg cl) : GFn P w K mg base cl "_law_knots" (rlN K) 1 1 f__law_knots := by
  refine gfn_N (N := N__law_knots) (k := 0) (F := F__law_knots) T.d__law_knots sc__law_knots rfl fun f => ?_
  intro cdv A outer s H E hr
  have nd : (cxB P w K mg base N__law_knots "_law_knots" (defScope s__law_knots) f cdv A outer s H E).N.Nodup := sc__law_knots.nd
  have tk : Takes (cxB P w K mg base N__law_knots "_law_knots" (defScope s__law_knots) f cdv A outer s H E) (TW cl (wE cl E)) := tk_body
  have po : PassesOwn (model (cxB P w K mg base N__law_knots "_law_knots" (defScope s__law_knots) f cdv A outer s H E).prog (cxB P w K mg base N__law_knots "_law_knots" (defScope s__law_knots) f cdv A outer s H E).w) (cxB P w K mg base N__law_knots "_law_knots" (defScope s__law_knots) f cdv A outer s H E).A (cxB P w K mg base N__law_knots "_law_knots" (defScope s__law_knots) f cdv A outer s H E).env (cxB P w K mg base N__law_knots "_law_knots" (defScope s__law_knots) f cdv A outer s H E).xe := po_body
  have hu64 : (cxB P w K mg base N__law_knots "_law_knots" (defScope s__law_knots) f cdv A outer s H E).A.units + 64 < cLine := hr.units
  have hu : (cxB P w K mg base N__law_knots "_law_knots" (defScope s__law_knots) f cdv A outer s H E).A.units + 1 < cLine := hu_of hr
  have h : XSs (cxB P w K mg base N__law_knots "_law_knots" (defScope s__law_knots) f cdv A outer s H E) (wE cl E) (defBody s__law_knots) _ F__law_knots :=
    (sCons (sNew 1 (xLst aNil) nd) (sCons (sNew 2 (xLst (aCons (xTup (aCons (xV 0) (aCons (XN.v (xLst aNil)) aNil))) aNil)) nd) (sCons (sAhead [3, 4, 5] (sWhile po (tCmp (op_ne0 hu64) dr_eq0 (xR 2) (XN.r (xLst aNil)) (nomark _)) (ssForget [3, 4, 5] (sCons (sPop 2 (gTup' rfl (gsCons (gName' 3 nd) (gsCons (gName' 4 nd) gsNil)))) (sCons (sApp 1 (xTup (aCons (xV 3) (aCons (xV 4) aNil)))) (sOne (sIf (tVal (XV.r (xIsi (xR 3) T.z_isinstance T.z_tuple))) (sOne (sAhead [5] (sFor po rfl (iR1 T.z_range (rCons (XV.r (xCB call_lenA anti_V dr_len T.z_len PySem.boot_len (rCons (XV.r (xIx ix_seq dr_ix (xR 3) (XV.r xInt) (fun _ _ => rfl))) rNil))) rNil)) (gName' 5 nd) (ssForget [5] (sOne (sApp 2 (xTup (aCons (xIx ix_seq dr_ix (XV.r (xIx ix_seq dr_ix (xR 3) (XV.r xInt) (fun _ _ => rfl))) (xR 5) (fun _ _ => rfl)) (aCons (xOp op_addA anti_V dr_add (xR 4) (XN.r (xLst (aCons (xV 5) aNil)))) aNil))))))))) sNil))))))) (sOne (sRetV 1)))))
  exact ⟨_, h.ps, h.j⟩
abbrev N__law_put : List Str := ["tree", "way", "new", "above", "here", "k", "made", "knot"]
theorem sc__law_put : FnScope N__law_put ["tree", "way", "new"] (defScope s__law_put) := ⟨rfl, rfl, rfl, by decide +kernel, rfl, by decide +kernel, by decide +kernel⟩
noncomputable def B__law_put_2 : PD.Env → Out :=
  (dForget [7, 5] (dAsg (dTup (dCons (dOp dIx (dVr 7) (dC (.int 0))) (dCons (dOp dAdd (dOp dAdd (dSl dSlV (dOp dIx (dVr 7) (dC (.int 1))) dNo (dPart (dVr 5))) (dTup (dCons (dV 6) dNil))) (dSl dSlV (dOp dIx (dVr 7) (dC (.int 1))) (dPart (dOp dAdd (dVr 5) (dC (.int 1)))) dNo)) dNil))) (hSet 6)))
noncomputable def B__law_put_1 : PD.Env → Out :=
  (dForget [5] (dSeq (dApp 3 (dTup (dCons (dV 4) (dCons (dV 5) dNil)))) (dAsg (dOp dIx (dOp dIx (dVr 4) (dC (.int 1))) (dVr 5)) (hSet 4))))
noncomputable def F__law_put : PD.Env → Out :=
  (dSeq (dNew 3 (dLst dNil)) (dSeq (dAsg (dV 0) (hSet 4)) (dSeq (dAhead [5] (dFor (dItL (dV 1)) (hSet 5) B__law_put_1)) (dSeq (dAsg (dV 2) (hSet 6)) (dSeq (dFrz 3 (dAhead [7, 5] (dFor (dItV (dV 3)) (hTup 2 (hCons (hSet 7) (hCons (hSet 5) hNil))) B__law_put_2))) (dRetV 6))))))
noncomputable def f__law_put : List D → Res D := funT 3 8 F__law_put
theorem ok__law_put (T : Txt K mg cl) : GFn P w K mg base cl "_law_put" (rlV K) 1 3 f__law_put := by
  refine gfn_T (N := N__law_put) (k := 0) (F := F__law_put) T.d__law_put sc__law_put rfl fun f => ?_
  intro cdv A outer s H E hr
  have nd : (cxB P w K mg base N__law_put "_law_put" (defScope s__law_put) f cdv A outer s H E).N.Nodup := sc__law_put.nd
  have tk : Takes (cxB P w K mg base N__law_put "_law_put" (defScope s__law_put) f cdv A outer s H E) (TW cl (wE cl E)) := tk_body
  have po : PassesOwn (model (cxB P w K mg base N__law_put "_law_put" (defScope s__law_put) f cdv A outer s H E).prog (cxB P w K mg base N__law_put "_law_put" (defScope s__law_put) f cdv A outer s H E).w) (cxB P w K mg base N__law_put "_law_put" (defScope s__law_put) f cdv A outer s H E).A (cxB P w K mg base N__law_put "_law_put" (defScope s__law_put) f cdv A outer s H E).env (cxB P w K mg base N__law_put "_law_put" (defScope s__law_put) f cdv A outer s H E).xe := po_body
  have hu64 : (cxB P w K mg base N__law_put "_law_put" (defScope s__law_put) f cdv A outer s H E).A.units + 64 < cLine := hr.units
  have hu : (cxB P w K mg base N__law_put "_law_put" (defScope s__law_put) f cdv A outer s H E).A.units + 1 < cLine := hu_of hr
  have h : XSs (cxB P w K mg base N__law_put "_law_put" (defScope s__law_put) f cdv A outer s H E) (wE cl E) (defBody s__law_put) _ F__law_put :=
    (sCons (sNew 3 (xLst aNil) nd) (sCons (sSet (xV 0) (gName' 4 nd)) (sCons (sAhead [5] (sFor po rfl (iL (xV 1)) (gName' 5 nd) (ssForget [5] (sCons (sApp 3 (xTup (aCons (xV 4) (aCons (xV 5) aNil)))) (sOne (sSet (xIx ix_seq dr_ix (XV.r (xIx ix_seq dr_ix (xR 4) (XV.r xInt) (fun _ _ => rfl))) (xR 5) (fun _ _ => rfl)) (gName' 4 nd))))))) (sCons (sSet (xV 2) (gName' 6 nd)) (sCons (sFrz 3 (sAhead [7, 5] (sFor po rfl (iRv T.z_reversed (xV 3)) (gTup' rfl (gsCons (gName' 7 nd) (gsCons (gName' 5 nd) gsNil))) (ssForget [7, 5] (sOne (sSet (xTup (aCons (xIx ix_seq dr_ix (xR 7) (XV.r xInt) (fun _ _ => rfl)) (aCons (xOp op_addA anti_V dr_add (XV.r (xOp op_addA anti_V dr_add (XV.r (xSl sl_any anti_V dr_slV (XV.r (xIx ix_seq dr_ix (xR 7) (XV.r xInt) (fun _ _ => rfl))) oNo (oSo (xR 5)))) (XV.r (xTup (aCons (xV 6) aNil))))) (XV.r (xSl sl_any anti_V dr_slV (XV.r (xIx ix_seq dr_ix (xR 7) (XV.r xInt) (fun _ _ => rfl))) (oSo (XV.r (xOp op_addA anti_V dr_add (xR 5) (XV.r xInt)))) oNo))) aNil))) (gName' 6 nd))))))) (sOne (sRetV 6)))))))
  exact ⟨_, h.ps, h.j⟩
abbrev N__law_other : List Str := ["here", "many", "cell", "kind", "parts", "some"]
theorem sc__law_other : FnScope N__law_other ["here", "many", "cell"] (defScope s__law_other) := ⟨rfl, rfl, rfl, by decide +kernel, rfl, by decide +kernel, by decide +kernel⟩
noncomputable def F__law_other : PD.Env → Out :=
  (dSeq (dAsg (dC (.str "|")) (hSet 3)) (dSeq (dAsg (dTup (dCons (dV 0) (dCons (dV 1) dNil))) (hSet 4)) (dSeq (dIfS (dTest (dIsi "tuple" (dVr 0))) (dAsg (dV 0) (hTup 2 (hCons (hSet 3) (hCons (hSet 4) hNil)))) dNext) (dSeq (dAsg (dOb (dLst (dCons (dTup (dCons (dV 3) (dCons (dSl dSlV (dVr 4) dNo (dPart (dC (.int 1)))) dNil))) (dCons (dTup (dCons (dV 3) (dCons (dTup dNil) dNil))) (dCons (dTup (dCons (dC (.str "|")) (dCons (dV 4) dNil))) (dCons (dTup (dCons (dC (.str "-")) (dCons (dV 4) dNil))) (dCons (dTup (dCons (dC (.str "")) (dCons (dV 4) dNil))) (dCons (dTup (dCons (dC (.str "|-")) (dCons (dV 4) dNil))) (dCons (dTup (dCons (dC (.int 0)) (dCons (dV 4) dNil))) (dCons (dV 1) dNil)))))))))) (hSet 5)) (dSeq (dAsg (dOp dAdd (dVr 5) (dOb (dLst (dCons (dTup (dCons (dC .none) (dCons (dV 4) dNil))) (dCons (dTup (dCons (dV 3) (dCons (dOb (dCB dList (dCons (dVr 4) dNil))) dNil))) (dCons (dTup (dCons (dV 3) (dCons (dV 4) (dCons (dC (.int 0)) dNil)))) (dCons (dOb (dLst (dCons (dV 3) (dCons (dV 4) dNil)))) (dCons (dTup dNil) (dCons (dOb (dLst dNil)) (dCons (dC (.str "0")) (dCons (dC (.str "")) (dCons (dUn dNeg (dC (.int 1))) (dCons (dOb (dNewD)) (dCons (dC .none) dNil)))))))))))))) (hSet 5)) (dSeq (dAsg (dOp dAdd (dVr 5) (dOb (dLst (dCons (dC (.bool true)) (dCons (dC (.bool false)) (dCons (dTup (dCons (dV 4) (dCons (dV 3) dNil))) (dCons (dTup (dCons (dV 3) (dCons (dC (.int 0)) dNil))) (dCons (dTup (dCons (dC (.str "+")) (dCons (dV 4) dNil))) (dCons (dC (.int 0)) (dCons (dOp dSub (dVr 1) (dC (.int 1))) (dCons (dOp dAdd (dVr 1) (dC (.int 1))) (dCons (dTup (dCons (dC (.str "|")) (dCons (dTup (dCons (dV 1) (dCons (dOp dAdd (dVr 1) (dC (.int 1))) dNil))) dNil))) dNil)))))))))))) (hSet 5)) (dSeq (dAsg (dOp dAdd (dVr 5) (dOb (dLst (dCons (dTup (dCons (dC (.str "-")) (dCons (dTup (dCons (dV 1) (dCons (dV 0) dNil))) dNil))) (dCons (dTup (dCons (dV 1) dNil)) (dCons (dTup (dCons (dV 1) (dCons (dV 1) dNil))) (dCons (dOp dPow (dC (.int 10)) (dC (.int 30))) (dCons (dTup (dCons (dOb (dLst (dCons (dV 3) dNil))) (dCons (dV 4) dNil))) (dCons (dTup (dCons (dC (.str "|")) (dCons (dTup (dCons (dC (.str "|")) (dCons (dC (.str "-")) dNil))) dNil))) (dCons (dC (.int 24)) (dCons (dC (.int 23)) dNil))))))))))) (hSet 5)) (dRet (dOp dIx (dVr 5) (dOp dMod (dVr 2) (dCB dLen1 (dCons (dVr 5) dNil))))))))))))
noncomputable def f__law_other : List D → Res D := funT 3 6 F__law_other
theorem ok__law_other (T : Txt K mg cl) : GFn P w K mg base cl "_law_other" (rlV K) 1 3 f__law_other := by
  refine gfn_T (N := N__law_other) (k := 0) (F := F__law_other) T.d__law_other sc__law_other rfl fun f => ?_
  intro cdv A outer s H E hr
  have nd : (cxB P w K mg base N__law_other "_law_other" (defScope s__law_other) f cdv A outer s H E).N.Nodup := sc__law_other.nd
  have tk : Takes (cxB P w K mg base N__law_other "_law_other" (defScope s__law_other) f cdv A outer s H E) (TW cl (wE cl E)) := tk_body
  have po : PassesOwn (model (cxB P w K mg base N__law_other "_law_other" (defScope s__law_other) f cdv A outer s H E).prog (cxB P w K mg base N__law_other "_law_other" (defScope s__law_other) f cdv A outer s H E).w) (cxB P w K mg base N__law_other "_law_other" (defScope s__law_other) f cdv A outer s H E).A (cxB P w K mg base N__law_other "_law_other" (defScope s__law_other) f cdv A outer s H E).env (cxB P w K mg base N__law_other "_law_other" (defScope s__law_other) f cdv A outer s H E).xe := po_body
  have hu64 : (cxB P w K mg base N__law_other "_law_other" (defScope s__law_other) f cdv A outer s H E).A.units + 64 < cLine := hr.units
  have hu : (cxB P w K mg base N__law_other "_law_other" (defScope s__law_other) f cdv A outer s H E).A.units + 1 < cLine := hu_of hr
  have h : XSs (cxB P w K mg base N__law_other "_law_other" (defScope s__law_other) f cdv A outer s H E) (wE cl E) (defBody s__law_other) _ F__law_other :=
    (sCons (sSet xStr (gName' 3 nd)) (sCons (sSet (xTup (aCons (xV 0) (aCons (xV 1) aNil))) (gName' 4 nd)) (sCons (sIf (tVal (XV.r (xIsi (xR 0) T.z_isinstance T.z_tuple))) (sOne (sSet (xV 0) (gTup' rfl (gsCons (gName' 3 nd) (gsCons (gName' 4 nd) gsNil))))) sNil) (sCons (sSet (XN.v (xLst (aCons (xTup (aCons (xV 3) (aCons (xSl sl_any anti_V dr_slV (xR 4) oNo (oSo (XV.r xInt))) aNil))) (aCons (xTup (aCons (xV 3) (aCons (xTup aNil) aNil))) (aCons (xTup (aCons xStr (aCons (xV 4) aNil))) (aCons (xTup (aCons xStr (aCons (xV 4) aNil))) (aCons (xTup (aCons xStr (aCons (xV 4) aNil))) (aCons (xTup (aCons xStr (aCons (xV 4) aNil))) (aCons (xTup (aCons xInt (aCons (xV 4) aNil))) (aCons (xV 1) aNil)))))))))) (gName' 5 nd)) (sCons (sSet (xOp op_addA anti_V dr_add (xR 5) (XN.r (xLst (aCons (xTup (aCons xNon (aCons (xV 4) aNil))) (aCons (xTup (aCons (xV 3) (aCons (XN.v (xCT call_list_of anti_N dr_list T.z_list (by decide +kernel) (rCons (xR 4) rNil))) aNil))) (aCons (xTup (aCons (xV 3) (aCons (xV 4) (aCons xInt aNil)))) (aCons (XN.v (xLst (aCons (xV 3) (aCons (xV 4) aNil)))) (aCons (xTup aNil) (aCons (XN.v (xLst aNil)) (aCons xStr (aCons xStr (aCons (xNeg (XV.r xInt)) (aCons (XN.v xNewD) (aCons xNon aNil)))))))))))))) (gName' 5 nd)) (sCons (sSet (xOp op_addA anti_V dr_add (xR 5) (XN.r (xLst (aCons xBl (aCons xBl (aCons (xTup (aCons (xV 4) (aCons (xV 3) aNil))) (aCons (xTup (aCons (xV 3) (aCons xInt aNil))) (aCons (xTup (aCons xStr (aCons (xV 4) aNil))) (aCons xInt (aCons (xOp op_sub anti_V dr_sub (xR 1) (XV.r xInt)) (aCons (xOp op_addA anti_V dr_add (xR 1) (XV.r xInt)) (aCons (xTup (aCons xStr (aCons (xTup (aCons (xV 1) (aCons (xOp op_addA anti_V dr_add (xR 1) (XV.r xInt)) aNil))) aNil))) aNil)))))))))))) (gName' 5 nd)) (sCons (sSet (xOp op_addA anti_V dr_add (xR 5) (XN.r (xLst (aCons (xTup (aCons xStr (aCons (xTup (aCons (xV 1) (aCons (xV 0) aNil))) aNil))) (aCons (xTup (aCons (xV 1) aNil)) (aCons (xTup (aCons (xV 1) (aCons (xV 1) aNil))) (aCons (xOp op_pow anti_V dr_pow (XV.r xInt) (XV.r xInt)) (aCons (xTup (aCons (XN.v (xLst (aCons (xV 3) aNil))) (aCons (xV 4) aNil))) (aCons (xTup (aCons xStr (aCons (xTup (aCons xStr (aCons xStr aNil))) aNil))) (aCons xInt (aCons xInt aNil))))))))))) (gName' 5 nd)) (sOne (sRet (xIx ix_seq dr_ix (xR 5) (XV.r (xOp op_mod anti_V dr_mod (xR 2) (XV.r (xCB call_lenA anti_V dr_len T.z_len PySem.boot_len (rCons (xR 5) rNil))))) (fun _ _ => rfl)))))))))))
  exact ⟨_, h.ps, h.j⟩
abbrev N__law_wrong : List Str := ["tree", "cell", "knots", "here", "way"]
theorem sc__law_wrong : FnScope N__law_wrong ["tree", "cell"] (defScope s__law_wrong) := ⟨rfl, rfl, rfl, by decide +kernel, rfl, by decide +kernel, by decide +kernel⟩
noncomputable def F__law_wrong : PD.Env → Out :=
  (dSeq (dAsg (dOb (dCall f__law_knots (dCons (dV 0) dNil))) (hSet 2)) (dSeq (dAsg (dOp dIx (dVr 2) (dOp dMod (dOp dDiv (dVr 1) (dC (.int 36))) (dCB dLen1 (dCons (dVr 2) dNil)))) (hTup 2 (hCons (hSet 3) (hCons (hSet 4) hNil)))) (dRet (dCall f__law_put (dCons (dV 0) (dCons (dV 4) (dCons (dCall f__law_other (dCons (dV 3) (dCons (dOp dDiv (dOp dAdd (dCB dLen1 (dCons (dVr 2) dNil)) (dC (.int 1))) (dC (.int 2))) (dCons (dV 1) dNil)))) dNil)))))))
noncomputable def f__law_wrong : List D → Res D := funT 2 5 F__law_wrong
theorem ok__law_wrong (T : Txt K mg cl) (G__law_knots : GFn P w K mg base cl "_law_knots" (rlN K) 1 1 f__law_knots) (G__law_other : GFn P w K mg base cl "_law_other" (rlV K) 1 3 f__law_other) (G__law_put : GFn P w K mg base cl "_law_put" (rlV K) 1 3 f__law_put) : GFn P w K mg base cl "_law_wrong" (rlV K) 2 2 f__law_wrong := by
  refine gfn_T (N := N__law_wrong) (k := 1) (F := F__law_wrong) T.d__law_wrong sc__law_wrong rfl fun f => ?_
  intro cdv A outer s H E hr
  have nd : (cxB P w K mg base N__law_wrong "_law_wrong" (defScope s__law_wrong) f cdv A outer s H E).N.Nodup := sc__law_wrong.nd
  have tk : Takes (cxB P w K mg base N__law_wrong "_law_wrong" (defScope s__law_wrong) f cdv A outer s H E) (TW cl (wE cl E)) := tk_body
  have po : PassesOwn (model (cxB P w K mg base N__law_wrong "_law_wrong" (defScope s__law_wrong) f cdv A outer s H E).prog (cxB P w K mg base N__law_wrong "_law_wrong" (defScope s__law_wrong) f cdv A outer s H E).w) (cxB P w K mg base N__law_wrong "_law_wrong" (defScope s__law_wrong) f cdv A outer s H E).A (cxB P w K mg base N__law_wrong "_law_wrong" (defScope s__law_wrong) f cdv A outer s H E).env (cxB P w K mg base N__law_wrong "_law_wrong" (defScope s__law_wrong) f cdv A outer s H E).xe := po_body
  have hu64 : (cxB P w K mg base N__law_wrong "_law_wrong" (defScope s__law_wrong) f cdv A outer s H E).A.units + 64 < cLine := hr.units
  have hu : (cxB P w K mg base N__law_wrong "_law_wrong" (defScope s__law_wrong) f cdv A outer s H E).A.units + 1 < cLine := hu_of hr
  have h : XSs (cxB P w K mg base N__law_wrong "_law_wrong" (defScope s__law_wrong) f cdv A outer s H E) (wE cl E) (defBody s__law_wrong) _ F__law_wrong :=
    (sCons (sSet (XN.v (xCallG anti_N G__law_knots hr (by decide) tk (aCons (xV 0) aNil))) (gName' 2 nd)) (sCons (sSet (xIx ix_seq dr_ix (xR 2) (XV.r (xOp op_mod anti_V dr_mod (XV.r (xOp op_fdivW anti_V dr_div (xR 1) (XV.r xInt))) (XV.r (xCB call_lenA anti_V dr_len T.z_len PySem.boot_len (rCons (xR 2) rNil))))) (fun _ _ => rfl)) (gTup' rfl (gsCons (gName' 3 nd) (gsCons (gName' 4 nd) gsNil)))) (sOne (sRet (xCallG anti_V G__law_put hr (by decide) tk (aCons (xV 0) (aCons (xV 4) (aCons (xCallG anti_V G__law_other hr (by decide) tk (aCons (xV 3) (aCons (xOp op_fdivW anti_V dr_div (XV.r (xOp op_addA anti_V dr_add (XV.r (xCB call_lenA anti_V dr_len T.z_len PySem.boot_len (rCons (xR 2) rNil))) (XV.r xInt))) (XV.r xInt)) (aCons (xV 1) aNil)))) aNil))))))))
  exact ⟨_, h.ps, h.j⟩
abbrev N__law_count : List Str := ["tree", "here", "way"]
theorem sc__law_count : FnScope N__law_count ["tree"] (defScope s__law_count) := ⟨rfl, rfl, rfl, by decide +kernel, rfl, by decide +kernel, by decide +kernel⟩
noncomputable def F__law_count : PD.Env → Out :=
  (dRet (dCB dLen1 (dCons (dOb (dLc (dItL (dOb (dCall f__law_knots (dCons (dV 0) dNil)))) (hTup 2 (hCons (hSet 1) (hCons (hSet 2) hNil))) (dTest (dCall f__law_whole (dCons (dV 1) dNil))) (dV 1) [1, 2])) dNil)))
noncomputable def f__law_count : List D → Res D := funT 1 3 F__law_count
theorem ok__law_count (T : Txt K mg cl) (G__law_knots : GFn P w K mg base cl "_law_knots" (rlN K) 1 1 f__law_knots) (G__law_whole : GFn P w K mg base cl "_law_whole" (rlV K) 1 1 f__law_whole) : GFn P w K mg base cl "_law_count" (rlV K) 2 1 f__law_count := by
  refine gfn_T (N := N__law_count) (k := 1) (F := F__law_count) T.d__law_count sc__law_count rfl fun f => ?_
  intro cdv A outer s H E hr
  have nd : (cxB P w K mg base N__law_count "_law_count" (defScope s__law_count) f cdv A outer s H E).N.Nodup := sc__law_count.nd
  have tk : Takes (cxB P w K mg base N__law_count "_law_count" (defScope s__law_count) f cdv A outer s H E) (TW cl (wE cl E)) := tk_body
  have po : PassesOwn (model (cxB P w K mg base N__law_count "_law_count" (defScope s__law_count) f cdv A outer s H E).prog (cxB P w K mg base N__law_count "_law_count" (defScope s__law_count) f cdv A outer s H E).w) (cxB P w K mg base N__law_count "_law_count" (defScope s__law_count) f cdv A outer s H E).A (cxB P w K mg base N__law_count "_law_count" (defScope s__law_count) f cdv A outer s H E).env (cxB P w K mg base N__law_count "_law_count" (defScope s__law_count) f cdv A outer s H E).xe := po_body
  have hu64 : (cxB P w K mg base N__law_count "_law_count" (defScope s__law_count) f cdv A outer s H E).A.units + 64 < cLine := hr.units
  have hu : (cxB P w K mg base N__law_count "_law_count" (defScope s__law_count) f cdv A outer s H E).A.units + 1 < cLine := hu_of hr
  have h : XSs (cxB P w K mg base N__law_count "_law_count" (defScope s__law_count) f cdv A outer s H E) (wE cl E) (defBody s__law_count) _ F__law_count :=
    (sOne (sRet (xCB call_lenA anti_V dr_len T.z_len PySem.boot_len (rCons (XN.r (xLc (own := [("here", 1), ("way", 2)]) rfl nd (iL (XN.v (xCallG anti_N G__law_knots hr (by decide) tk (aCons (xV 0) aNil)))) (blkOk_by (N := N__law_count) (sc := defScope s__law_count) (by decide +kernel)) (fun _ _ _ _ _ => (XG.cast (gTup' rfl (gsCons (gName' 1 (by exact nd)) (gsCons (gName' 2 (by exact nd)) gsNil))))) (fun _ _ _ _ _ => (cIf (XT.cast (tVal (XV.r (xCallG anti_V G__law_whole (by exact hr) (by decide) tk0 (aCons (xV 1) aNil))))))) (fun _ _ _ _ _ => (X1.cast (xV 1))) (by decide))) rNil))))
  exact ⟨_, h.ps, h.j⟩
abbrev N__law_refused : List Str := ["thing", "way", "caught", "e"]
theorem sc__law_refused : FnScope N__law_refused ["thing", "way"] (defScope s__law_refused) := ⟨rfl, rfl, rfl, by decide +kernel, rfl, by decide +kernel, by decide +kernel⟩
noncomputable def F__law_refused : PD.Env → Out :=
  (dSeq (dAsg (dC (.bool false)) (hSet 2)) (dSeq (dTry SC 3 (dIfE (dTest (dOp dEq (dVr 1) (dC (.int 0)))) (dCallE f_boxes_of (dCons (dV 0) dNil)) (dCallE f_show_tree (dCons (dV 0) dNil))) (fun c a => (dSeq (dAsg (dAndV (dIsX 3 a (c == "NoTree")) (dIsX 3 a true)) (hSet 2)) (dIfS (dTest (dIsX 3 a ((["NoNeeds", "NoNumber", "NoPage", "NoPicture", "NoPlace", "NoRoom", "NoRow", "NoTexts"] : List Str).any fun d => c == d))) (dAsg (dC (.bool false)) (hSet 2)) dNext)))) (dRetV 2)))
noncomputable def f__law_refused : List D → Res D := funT 2 4 F__law_refused
theorem ok__law_refused (T : Txt K mg cl) (G_boxes_of : GFn P w K mg base cl "boxes_of" (rlV K) 33 1 f_boxes_of) (G_show_tree : GFn P w K mg base cl "show_tree" (rlV K) 33 1 f_show_tree) : GFn P w K mg base cl "_law_refused" (rlV K) 34 2 f__law_refused := by
  refine gfn_T (N := N__law_refused) (k := 33) (F := F__law_refused) T.d__law_refused sc__law_refused rfl fun f => ?_
  intro cdv A outer s H E hr
  have nd : (cxB P w K mg base N__law_refused "_law_refused" (defScope s__law_refused) f cdv A outer s H E).N.Nodup := sc__law_refused.nd
  have tk : Takes (cxB P w K mg base N__law_refused "_law_refused" (defScope s__law_refused) f cdv A outer s H E) (TW cl (wE cl E)) := tk_body
  have po : PassesOwn (model (cxB P w K mg base N__law_refused "_law_refused" (defScope s__law_refused) f cdv A outer s H E).prog (cxB P w K mg base N__law_refused "_law_refused" (defScope s__law_refused) f cdv A outer s H E).w) (cxB P w K mg base N__law_refused "_law_refused" (defScope s__law_refused) f cdv A outer s H E).A (cxB P w K mg base N__law_refused "_law_refused" (defScope s__law_refused) f cdv A outer s H E).env (cxB P w K mg base N__law_refused "_law_refused" (defScope s__law_refused) f cdv A outer s H E).xe := po_body
  have hu64 : (cxB P w K mg base N__law_refused "_law_refused" (defScope s__law_refused) f cdv A outer s H E).A.units + 64 < cLine := hr.units
  have hu : (cxB P w K mg base N__law_refused "_law_refused" (defScope s__law_refused) f cdv A outer s H E).A.units + 1 < cLine := hu_of hr
  have h : XSs (cxB P w K mg base N__law_refused "_law_refused" (defScope s__law_refused) f cdv A outer s H E) (wE cl E) (defBody s__law_refused) _ F__law_refused :=
    (sCons (sSet xBl (gName' 2 nd)) (sCons (sTry SC 3 rfl rfl nd ⟨rfl, by decide, .inl T.g_PartError⟩ tk T.exm (eOne (eIf (fun _ _ => (XT.cast (tCmp (op_eqA (by exact hu64)) dr_eq (xR 1) (XV.r xInt) (nomark _)))) (eOne (eCall G_boxes_of (by exact hr) (by decide) (fun _ _ => (XA.cast (aCons (xV 0) aNil))))) (eOne (eCall G_show_tree (by exact hr) (by decide) (fun _ _ => (XA.cast (aCons (xV 0) aNil))))))) (fun c a oe pn eS hz hf => (XSs.cast (sCons (sSet (xAnd (XV.r (xIsX 3 (T.kit c eS) hz hf T.g_NoTree T.z_isinstance (by decide))) (xAnd1 (xIsXV 3 (T.kit c eS) hz hf T.z_ValueError T.z_isinstance))) (gName' 2 (by exact nd))) (sOne (sIf (tVal (XV.r (xIsXT (es := ["NoNeeds", "NoNumber", "NoPage", "NoPicture", "NoPlace", "NoRoom", "NoRow", "NoTexts"]) 3 (T.kit c eS) hz hf T.z_isinstance (clCons T.g_NoNeeds (clCons T.g_NoNumber (clCons T.g_NoPage (clCons T.g_NoPicture (clCons T.g_NoPlace (clCons T.g_NoRoom (clCons T.g_NoRow (clCons T.g_NoTexts clNil)))))))) (by decide) (by decide)))) (sOne (sSet xBl (gName' 2 (by exact nd)))) sNil)))))) (sOne (sRetV 2))))
  exact ⟨_, h.ps, h.j⟩
abbrev N__law_asked : List Str := ["thing", "found"]
theorem sc__law_asked : FnScope N__law_asked ["thing"] (defScope s__law_asked) := ⟨rfl, rfl, rfl, by decide +kernel, rfl, by decide +kernel, by decide +kernel⟩
noncomputable def F__law_asked : PD.Env → Out :=
  (dSeq (dIfS (dNot (dTest (dCall f__law_is (dCons (dV 0) dNil)))) (dRet (dAndV (dCall f__law_refused (dCons (dV 0) (dCons (dC (.int 0)) dNil))) (dCall f__law_refused (dCons (dV 0) (dCons (dC (.int 1)) dNil))))) dNext) (dSeq (dAsg (dCall f_boxes_of (dCons (dV 0) dNil)) (hSet 1)) (dRet (dAndV (dCall f__law_whole (dCons (dV 1) dNil)) (dAndV (dOp dEq (dVr 1) (dCall f__law_count (dCons (dV 0) dNil))) (dIsi "str" (dCall f_show_tree (dCons (dV 0) dNil))))))))
noncomputable def f__law_asked : List D → Res D := funT 1 2 F__law_asked
theorem ok__law_asked (T : Txt K mg cl) (G__law_count : GFn P w K mg base cl "_law_count" (rlV K) 2 1 f__law_count) (G__law_is : GFn P w K mg base cl "_law_is" (rlV K) 2 1 f__law_is) (G__law_refused : GFn P w K mg base cl "_law_refused" (rlV K) 34 2 f__law_refused) (G__law_whole : GFn P w K mg base cl "_law_whole" (rlV K) 1 1 f__law_whole) (G_boxes_of : GFn P w K mg base cl "boxes_of" (rlV K) 33 1 f_boxes_of) (G_show_tree : GFn P w K mg base cl "show_tree" (rlV K) 33 1 f_show_tree) : GFn P w K mg base cl "_law_asked" (rlV K) 35 1 f__law_asked := by
  refine gfn_T (N := N__law_asked) (k := 34) (F := F__law_asked) T.d__law_asked sc__law_asked rfl fun f => ?_
  intro cdv A outer s H E hr
  have nd : (cxB P w K mg base N__law_asked "_law_asked" (defScope s__law_asked) f cdv A outer s H E).N.Nodup := sc__law_asked.nd
  have tk : Takes (cxB P w K mg base N__law_asked "_law_asked" (defScope s__law_asked) f cdv A outer s H E) (TW cl (wE cl E)) := tk_body
  have po : PassesOwn (model (cxB P w K mg base N__law_asked "_law_asked" (defScope s__law_asked) f cdv A outer s H E).prog (cxB P w K mg base N__law_asked "_law_asked" (defScope s__law_asked) f cdv A outer s H E).w) (cxB P w K mg base N__law_asked "_law_asked" (defScope s__law_asked) f cdv A outer s H E).A (cxB P w K mg base N__law_asked "_law_asked" (defScope s__law_asked) f cdv A outer s H E).env (cxB P w K mg base N__law_asked "_law_asked" (defScope s__law_asked) f cdv A outer s H E).xe := po_body
  have hu64 : (cxB P w K mg base N__law_asked "_law_asked" (defScope s__law_asked) f cdv A outer s H E).A.units + 64 < cLine := hr.units
  have hu : (cxB P w K mg base N__law_asked "_law_asked" (defScope s__law_asked) f cdv A outer s H E).A.units + 1 < cLine := hu_of hr
  have h : XSs (cxB P w K mg base N__law_asked "_law_asked" (defScope s__law_asked) f cdv A outer s H E) (wE cl E) (defBody s__law_asked) _ F__law_asked :=
    (sCons (sIf (tNot' (tVal (XV.r (xCallG anti_V G__law_is hr (by decide) tk (aCons (xV 0) aNil))))) (sOne (sRet (xAnd (XV.r (xCallG anti_V G__law_refused hr (by decide) tk (aCons (xV 0) (aCons xInt aNil)))) (xAnd1 (xCallG anti_V G__law_refused hr (by decide) tk (aCons (xV 0) (aCons xInt aNil))))))) sNil) (sCons (sSet (xCallG anti_V G_boxes_of hr (by decide) tk (aCons (xV 0) aNil)) (gName' 1 nd)) (sOne (sRet (xAnd (XV.r (xCallG anti_V G__law_whole hr (by decide) tk (aCons (xV 1) aNil))) (xAnd (XV.r (xCmp (op_eqA hu64) dr_eq (xR 1) (XV.r (xCallG anti_V G__law_count hr (by decide) tk (aCons (xV 0) aNil))) (nomark _))) (xAnd1 (xIsi (XV.r (xCallG anti_V G_show_tree hr (by decide) tk (aCons (xV 0) aNil))) T.z_isinstance T.z_str))))))))
  exact ⟨_, h.ps, h.j⟩
abbrev N_law : List Str := ["script", "tree", "cell", "thing"]
theorem sc_law : FnScope N_law ["script"] (defScope s_law) := ⟨rfl, rfl, rfl, by decide +kernel, rfl, by decide +kernel, by decide +kernel⟩
noncomputable def B_law_2 : PD.Env → Out :=
  (dForget [3] (dIfS (dNot (dTest (dCall f__law_asked (dCons (dV 3) dNil)))) (dRet (dC (.bool false))) dNext))
noncomputable def B_law_1 : PD.Env → Out :=
  (dForget [2] (dIfS (dNot (dTest (dCall f__law_asked (dCons (dCall f__law_wrong (dCons (dV 1) (dCons (dV 2) dNil))) dNil)))) (dRet (dC (.bool false))) dNext))
noncomputable def F_law : PD.Env → Out :=
  (dSeq (dAsg (dCall f__law_tree (dCons (dSl dSlV (dVr 0) (dPart (dC (.int 2))) (dPart (dC (.int 25)))) dNil)) (hSet 1)) (dSeq (dIfS (dOr (dTest (dOp dNe (dCall f_boxes_of (dCons (dV 1) dNil)) (dOp dAdd (dCB dLen1 (dCons (dSl dSlV (dVr 0) (dPart (dC (.int 2))) (dPart (dC (.int 25)))) dNil)) (dC (.int 1))))) (dNot (dTest (dCall f__law_asked (dCons (dV 1) dNil))))) (dRet (dC (.bool false))) dNext) (dSeq (dAhead [2] (dFor (dItL (dOb (dLst (dCons (dCall f__law_cell_at (dCons (dV 0) (dCons (dC (.int 0)) dNil))) (dCons (dCall f__law_cell_at (dCons (dV 0) (dCons (dC (.int 1)) dNil))) (dCons (dCall f__law_cell_at (dCons (dV 0) (dCons (dC (.int 25)) dNil))) dNil)))))) (hSet 2) B_law_1)) (dSeq (dAhead [3] (dFor (dItL (dOb (dLst (dCons (dOb (dLst (dCons (dV 1) dNil))) (dCons (dTup (dCons (dV 1) dNil)) (dCons (dTup (dCons (dC (.str "|")) (dCons (dOb (dLst (dCons (dC (.int 0)) (dCons (dC (.int 1)) dNil)))) dNil))) (dCons (dTup (dCons (dC (.int 0)) (dCons (dC (.int 1)) dNil))) (dCons (dC .none) (dCons (dC (.str "0")) (dCons (dC (.int 1)) (dCons (dC (.bool true)) (dCons (dOb (dLst dNil)) (dCons (dOb (dNewD)) dNil))))))))))))) (hSet 3) B_law_2)) (dRet (dCall f__law_asked (dCons (dV 1) dNil)))))))
noncomputable def f_law : List D → Res D := funT 1 4 F_law
theorem body_law (T : Txt K mg cl) (G__law_asked : GFn P w K mg base cl "_law_asked" (rlV K) 35 1 f__law_asked) (G__law_cell_at : GFn P w K mg base cl "_law_cell_at" (rlV K) 1 2 f__law_cell_at) (G__law_tree : GFn P w K mg base cl "_law_tree" (rlV K) 2 1 f__law_tree) (G__law_wrong : GFn P w K mg base cl "_law_wrong" (rlV K) 2 2 f__law_wrong) (G_boxes_of : GFn P w K mg base cl "boxes_of" (rlV K) 33 1 f_boxes_of) : ∀ f, Body P w K mg base cl 35 N_law "law" s_law f F_law := by
  intro f
  intro cdv A outer s H E hr
  have nd : (cxB P w K mg base N_law "law" (defScope s_law) f cdv A outer s H E).N.Nodup := sc_law.nd
  have tk : Takes (cxB P w K mg base N_law "law" (defScope s_law) f cdv A outer s H E) (TW cl (wE cl E)) := tk_body
  have po : PassesOwn (model (cxB P w K mg base N_law "law" (defScope s_law) f cdv A outer s H E).prog (cxB P w K mg base N_law "law" (defScope s_law) f cdv A outer s H E).w) (cxB P w K mg base N_law "law" (defScope s_law) f cdv A outer s H E).A (cxB P w K mg base N_law "law" (defScope s_law) f cdv A outer s H E).env (cxB P w K mg base N_law "law" (defScope s_law) f cdv A outer s H E).xe := po_body
  have hu64 : (cxB P w K mg base N_law "law" (defScope s_law) f cdv A outer s H E).A.units + 64 < cLine := hr.units
  have hu : (cxB P w K mg base N_law "law" (defScope s_law) f cdv A outer s H E).A.units + 1 < cLine := hu_of hr
  have h : XSs (cxB P w K mg base N_law "law" (defScope s_law) f cdv A outer s H E) (wE cl E) (defBody s_law) _ F_law :=
    (sCons (sSet (xCallG anti_V G__law_tree hr (by decide) tk (aCons (xSl sl_any anti_V dr_slV (xR 0) (oSo (XV.r xInt)) (oSo (XV.r xInt))) aNil)) (gName' 1 nd)) (sCons (sIf (XW.t (wOr (tCmp (op_neA hu64) dr_ne (XV.r (xCallG anti_V G_boxes_of hr (by decide) tk (aCons (xV 1) aNil))) (XV.r (xOp op_addA anti_V dr_add (XV.r (xCB call_lenA anti_V dr_len T.z_len PySem.boot_len (rCons (XV.r (xSl sl_any anti_V dr_slV (xR 0) (oSo (XV.r xInt)) (oSo (XV.r xInt)))) rNil))) (XV.r xInt))) (nomark _)) (wOr1 (tNot' (tVal (XV.r (xCallG anti_V G__law_asked hr (by decide) tk (aCons (xV 1) aNil)))))))) (sOne (sRet xBl)) sNil) (sCons (sAhead [2] (sFor po rfl (iL (XN.v (xLst (aCons (xCallG anti_V G__law_cell_at hr (by decide) tk (aCons (xV 0) (aCons xInt aNil))) (aCons (xCallG anti_V G__law_cell_at hr (by decide) tk (aCons (xV 0) (aCons xInt aNil))) (aCons (xCallG anti_V G__law_cell_at hr (by decide) tk (aCons (xV 0) (aCons xInt aNil))) aNil)))))) (gName' 2 nd) (ssForget [2] (sOne (sIf (tNot' (tVal (XV.r (xCallG anti_V G__law_asked hr (by decide) tk (aCons (xCallG anti_V G__law_wrong hr (by decide) tk (aCons (xV 1) (aCons (xV 2) aNil))) aNil))))) (sOne (sRet xBl)) sNil))))) (sCons (sAhead [3] (sFor po rfl (iL (XN.v (xLst (aCons (XN.v (xLst (aCons (xV 1) aNil))) (aCons (xTup (aCons (xV 1) aNil)) (aCons (xTup (aCons xStr (aCons (XN.v (xLst (aCons xInt (aCons xInt aNil)))) aNil))) (aCons (xTup (aCons xInt (aCons xInt aNil))) (aCons xNon (aCons xStr (aCons xInt (aCons xBl (aCons (XN.v (xLst aNil)) (aCons (XN.v xNewD) aNil))))))))))))) (gName' 3 nd) (ssForget [3] (sOne (sIf (tNot' (tVal (XV.r (xCallG anti_V G__law_asked hr (by decide) tk (aCons (xV 3) aNil))))) (sOne (sRet xBl)) sNil))))) (sOne (sRet (xCallG anti_V G__law_asked hr (by decide) tk (aCons (xV 1) aNil))))))))
  exact ⟨_, h.ps, h.j⟩
theorem all_law (T : Txt K mg cl) : LawFn P w K mg cl "law" "script" 36 f_law := by
  refine law_T T.d_law sc_law fun base f => ?_
  have G_is_whole := ok_is_whole (P := P) (w := w) (base := base) (cl := cl) T
  have G_is_tree := ok_is_tree (P := P) (w := w) (base := base) (cl := cl) T G_is_whole
  have G_need_tree := ok_need_tree (P := P) (w := w) (base := base) (cl := cl) T G_is_tree
  have G_count_boxes := ok_count_boxes (P := P) (w := w) (base := base) (cl := cl) T G_is_whole
  have G_boxes_of := ok_boxes_of (P := P) (w := w) (base := base) (cl := cl) T G_count_boxes G_need_tree
  have G_written := ok_written (P := P) (w := w) (base := base) (cl := cl) T G_is_whole
  have G_show_tree := ok_show_tree (P := P) (w := w) (base := base) (cl := cl) T G_need_tree G_written
  have G__law_cell_at := ok__law_cell_at (P := P) (w := w) (base := base) (cl := cl) T
  have G__law_whole := ok__law_whole (P := P) (w := w) (base := base) (cl := cl) T
  have G__law_join := ok__law_join (P := P) (w := w) (base := base) (cl := cl) T
  have G__law_tree := ok__law_tree (P := P) (w := w) (base := base) (cl := cl) T G__law_join
  have G__law_is := ok__law_is (P := P) (w := w) (base := base) (cl := cl) T G__law_whole
  have G__law_knots := ok__law_knots (P := P) (w := w) (base := base) (cl := cl) T
  have G__law_put := ok__law_put (P := P) (w := w) (base := base) (cl := cl) T
  have G__law_other := ok__law_other (P := P) (w := w) (base := base) (cl := cl) T
  have G__law_wrong := ok__law_wrong (P := P) (w := w) (base := base) (cl := cl) T G__law_knots G__law_other G__law_put
  have G__law_count := ok__law_count (P := P) (w := w) (base := base) (cl := cl) T G__law_knots G__law_whole
  have G__law_refused := ok__law_refused (P := P) (w := w) (base := base) (cl := cl) T G_boxes_of G_show_tree
  have G__law_asked := ok__law_asked (P := P) (w := w) (base := base) (cl := cl) T G__law_count G__law_is G__law_refused G__law_whole G_boxes_of G_show_tree
  exact body_law T G__law_asked G__law_cell_at G__law_tree G__law_wrong G_boxes_of f
end
end K33

set_option Elab.async false
set_option linter.all false
set_option maxRecDepth 100000
set_option maxHeartbeats 1000000
namespace K33
open PySem L2 PD
def isW : D → Bool
  | .int _ => true
  | _ => false
theorem ev_is_whole (d : D) : f_is_whole [d] = .ok (.bool (isW d)) := by
  cases d <;> rfl
theorem ev_law_whole (d : D) : f__law_whole [d] = .ok (.bool (isW d)) := by
  cases d <;> rfl
/-! the knots of a thing -/
inductive Knot where
  | num (n : Int)
  | more (k : Str) (ps : List D)
  | bad
def kGood (k a : Str) (ps : List D) : Bool := (k == ("|" : Str) || k == ("-" : Str)) && !(k == a) && decide (2 ≤ ps.length)
def knot (d : D) (a : Str) : Knot := match d with
  | .int n => .num n
  | .tuple [.str k, .tuple ps] => if kGood k a ps = true then .more k ps else .bad
  | _ => .bad
def pl (l : List (D × Str)) : List D := l.map fun p => .tuple [p.1, .str p.2]
theorem pl_app (l m : List (D × Str)) : pl (l ++ m) = pl l ++ pl m := List.map_append
def ρT (t : D) (es : List (Key × D)) (l : List D) : PD.Env := [.fr t, .ow (.d es), .ow (.l l), .un, .un, .un, .un, .un]
theorem getLast_app {α : Type} (l : List α) (a : α) : (l ++ [a]).getLast? = some a := by simp
theorem dropLast_app {α : Type} (l : List α) (a : α) : (l ++ [a]).dropLast = l := by simp
theorem condT_eq (t : D) (es : List (Key × D)) (l : List D) : C_is_tree_1 (ρT t es l) = .ok (!l.isEmpty) := by
  unfold C_is_tree_1 ρT
  simp only [PD.v_bind_ok, PD.v_bind_exc, PD.v_bind_stuck, PD.v_bindS_ok, PD.v_bindS_exc, PD.v_bindS_stuck, PD.v_of_some, PD.v_of_none, PD.v_seq_nx, PD.v_seq_rt, PD.v_seq_rn, PD.v_seq_bk, PD.v_seq_ct, PD.v_seq_exc, PD.v_seq_stuck, PD.v_ifS, PD.v_sel_t, PD.v_sel_f, PD.v_sel_exc, PD.v_sel_stuck, PD.v_if, PD.v_and, PD.v_or, PD.v_selR_t, PD.v_selR_f, PD.v_selR_exc, PD.v_selR_stuck, PD.v_not, PD.v_notR, PD.v_notR_exc, PD.v_test, PD.v_testR, PD.v_testR_exc, PD.v_andV, PD.v_orV, PD.v_selV_t, PD.v_selV_f, PD.v_notV, PD.v_notV', PD.v_chain, PD.v_chain_t, PD.v_chain_f, PD.v_add_i, PD.v_add_s, PD.v_add_l, PD.v_add_t, PD.v_cat, PD.v_sub, PD.v_mul, PD.v_div, PD.v_mod, PD.v_pow, PD.v_neg, PD.v_cmp, PD.v_eq_ii, PD.v_eq_bb, PD.v_eq_ss, PD.v_eq_nn, PD.v_ne_ii, PD.v_ne_bb, PD.v_ne_ss, PD.v_eq_ll, PD.v_eq_tt, PD.v_ne_ll, PD.v_ne_tt, PD.v_eq0, PD.v_in_t, PD.v_in_l, PD.v_flat_i, PD.v_flat_s, PD.v_flat_b, PD.v_flat_n, PD.v_isB, PD.v_isN_n, PD.v_isN_i, PD.v_isN_t, PD.v_isN_l, PD.v_isN_s, PD.v_ix_l, PD.v_ix_t, PD.v_ix_s, PD.v_slN, PD.v_slV_l, PD.v_slV_t, PD.v_slV_s, PD.v_len_l, PD.v_len_t, PD.v_len_s, PD.v_len_d, PD.v_list_l, PD.v_list_t, PD.v_tuple_l, PD.v_tuple_t, PD.v_sorted, PD.v_seqOf_l, PD.v_seqOf_t, PD.v_keyOf_i, PD.v_keyOf_s, PD.v_data_l, PD.v_data_d, PD.v_isi, PD.v_isi_int, PD.v_isi_bool, PD.v_isi_str, PD.v_isi_list, PD.v_isi_tuple, PD.i_int_i, PD.i_bool_i, PD.i_tuple_i, PD.i_tuple_t, PD.i_int_t, PD.i_list_l, PD.i_str_s, PD.i_bool_b, PD.v_hTup, PD.v_hCons, PD.v_hNil, PD.w_seq, PD.w_asg, PD.w_outO_s, PD.w_outO_n, PD.w_ret, PD.w_retN, PD.w_retV, PD.w_ret0, PD.w_V, PD.w_Vr, PD.w_C, PD.w_op, PD.w_un, PD.w_CB, PD.w_cons, PD.w_nil, PD.w_tup, PD.w_lst, PD.w_ob, PD.w_call, PD.w_new, PD.w_app, PD.w_ext, PD.w_pop, PD.w_popD, PD.w_putAt, PD.w_aug, PD.w_frz, PD.w_ahead, PD.w_forget, PD.w_forO_nx, PD.w_forO_bk, PD.w_forO_ct, PD.w_forO_rt, PD.w_forO_rn, PD.w_forO_exc, PD.w_drop, PD.w_next, PD.w_bk, PD.w_ct, PD.w_exc, PD.w_lc, PD.w_itL, PD.w_itl, PD.w_itT, PD.w_itt, PD.w_itV, PD.w_itv, PD.w_rng1, PD.w_rng1', PD.w_rng2, PD.w_rng2', PD.w_lrg1, PD.w_lrg1', PD.w_sl, PD.w_no, PD.w_part, PD.w_part', PD.w_newD, PD.w_putD, PD.w_inD, PD.w_getD, PD.w_maxD, PD.w_count, PD.w_for, PD.w_hSet, PD.w_appPop, PD.w_apD, forgetE, owL, putL, owD, putOD, frzE, initE, noPm, wipeE, sizeLine_eq, List.getElem?_cons_zero, List.getElem?_cons_succ, List.set_cons_zero, List.set_cons_succ, List.map_cons, List.map_nil, List.length_cons, List.length_nil, List.replicate, List.cons_append, List.nil_append, Option.bind_some, Option.bind_none, Option.map_some, Option.map_none, ite_true, ite_false, if_true, if_false, reduceCtorEq, Nat.reduceAdd, Nat.reduceSub, Nat.reduceLeDiff, Bool.and_true, Bool.true_and, Bool.and_false, Bool.false_and, Bool.or_true, Bool.true_or, Bool.or_false, Bool.false_or, Bool.not_true, Bool.not_false, decide_true, decide_false, Bool.false_eq_true, Int.reduceEq, Int.reduceBEq, Option.isSome_some, Option.isSome_none, List.all_cons, List.all_nil, and_self, and_true, true_and]
def bT (es : List (Key × D)) (n : Int) : Bool := decide (n < 0) || (decide (24 ≤ n) || (lookK (es.map fun p => (keyD p.1, p.2)) (.inl n)).isSome)
theorem bodyT_num (t : D) (es : List (Key × D)) (l : List D) (n : Int) (a : Str) (hz : es.length < 16777216) : B_is_tree_1 (ρT t es (l ++ [.tuple [.int n, .str a]])) =
    if bT es n = true then .rt (.bool false) [.fr t, .ow (.d es), .ow (.l l), .fr (.int n), .fr (.str a), .un, .un, .un] else .ct (ρT t (putD es (.inl n) (.bool true)) l) := by
  unfold B_is_tree_1 ρT bT
  by_cases h1 : n < 0
  · simp only [PD.v_bind_ok, PD.v_bind_exc, PD.v_bind_stuck, PD.v_bindS_ok, PD.v_bindS_exc, PD.v_bindS_stuck, PD.v_of_some, PD.v_of_none, PD.v_seq_nx, PD.v_seq_rt, PD.v_seq_rn, PD.v_seq_bk, PD.v_seq_ct, PD.v_seq_exc, PD.v_seq_stuck, PD.v_ifS, PD.v_sel_t, PD.v_sel_f, PD.v_sel_exc, PD.v_sel_stuck, PD.v_if, PD.v_and, PD.v_or, PD.v_selR_t, PD.v_selR_f, PD.v_selR_exc, PD.v_selR_stuck, PD.v_not, PD.v_notR, PD.v_notR_exc, PD.v_test, PD.v_testR, PD.v_testR_exc, PD.v_andV, PD.v_orV, PD.v_selV_t, PD.v_selV_f, PD.v_notV, PD.v_notV', PD.v_chain, PD.v_chain_t, PD.v_chain_f, PD.v_add_i, PD.v_add_s, PD.v_add_l, PD.v_add_t, PD.v_cat, PD.v_sub, PD.v_mul, PD.v_div, PD.v_mod, PD.v_pow, PD.v_neg, PD.v_cmp, PD.v_eq_ii, PD.v_eq_bb, PD.v_eq_ss, PD.v_eq_nn, PD.v_ne_ii, PD.v_ne_bb, PD.v_ne_ss, PD.v_eq_ll, PD.v_eq_tt, PD.v_ne_ll, PD.v_ne_tt, PD.v_eq0, PD.v_in_t, PD.v_in_l, PD.v_flat_i, PD.v_flat_s, PD.v_flat_b, PD.v_flat_n, PD.v_isB, PD.v_isN_n, PD.v_isN_i, PD.v_isN_t, PD.v_isN_l, PD.v_isN_s, PD.v_ix_l, PD.v_ix_t, PD.v_ix_s, PD.v_slN, PD.v_slV_l, PD.v_slV_t, PD.v_slV_s, PD.v_len_l, PD.v_len_t, PD.v_len_s, PD.v_len_d, PD.v_list_l, PD.v_list_t, PD.v_tuple_l, PD.v_tuple_t, PD.v_sorted, PD.v_seqOf_l, PD.v_seqOf_t, PD.v_keyOf_i, PD.v_keyOf_s, PD.v_data_l, PD.v_data_d, PD.v_isi, PD.v_isi_int, PD.v_isi_bool, PD.v_isi_str, PD.v_isi_list, PD.v_isi_tuple, PD.i_int_i, PD.i_bool_i, PD.i_tuple_i, PD.i_tuple_t, PD.i_int_t, PD.i_list_l, PD.i_str_s, PD.i_bool_b, PD.v_hTup, PD.v_hCons, PD.v_hNil, PD.w_seq, PD.w_asg, PD.w_outO_s, PD.w_outO_n, PD.w_ret, PD.w_retN, PD.w_retV, PD.w_ret0, PD.w_V, PD.w_Vr, PD.w_C, PD.w_op, PD.w_un, PD.w_CB, PD.w_cons, PD.w_nil, PD.w_tup, PD.w_lst, PD.w_ob, PD.w_call, PD.w_new, PD.w_app, PD.w_ext, PD.w_pop, PD.w_popD, PD.w_putAt, PD.w_aug, PD.w_frz, PD.w_ahead, PD.w_forget, PD.w_forO_nx, PD.w_forO_bk, PD.w_forO_ct, PD.w_forO_rt, PD.w_forO_rn, PD.w_forO_exc, PD.w_drop, PD.w_next, PD.w_bk, PD.w_ct, PD.w_exc, PD.w_lc, PD.w_itL, PD.w_itl, PD.w_itT, PD.w_itt, PD.w_itV, PD.w_itv, PD.w_rng1, PD.w_rng1', PD.w_rng2, PD.w_rng2', PD.w_lrg1, PD.w_lrg1', PD.w_sl, PD.w_no, PD.w_part, PD.w_part', PD.w_newD, PD.w_putD, PD.w_inD, PD.w_getD, PD.w_maxD, PD.w_count, PD.w_for, PD.w_hSet, PD.w_appPop, PD.w_apD, forgetE, owL, putL, owD, putOD, frzE, initE, noPm, wipeE, sizeLine_eq, List.getElem?_cons_zero, List.getElem?_cons_succ, List.set_cons_zero, List.set_cons_succ, List.map_cons, List.map_nil, List.length_cons, List.length_nil, List.replicate, List.cons_append, List.nil_append, Option.bind_some, Option.bind_none, Option.map_some, Option.map_none, ite_true, ite_false, if_true, if_false, reduceCtorEq, Nat.reduceAdd, Nat.reduceSub, Nat.reduceLeDiff, Bool.and_true, Bool.true_and, Bool.and_false, Bool.false_and, Bool.or_true, Bool.true_or, Bool.or_false, Bool.false_or, Bool.not_true, Bool.not_false, decide_true, decide_false, Bool.false_eq_true, Int.reduceEq, Int.reduceBEq, Option.isSome_some, Option.isSome_none, List.all_cons, List.all_nil, and_self, and_true, true_and, getLast_app, dropLast_app, ev_is_whole, isW, h1]
  · by_cases h2 : 24 ≤ n
    · simp only [PD.v_bind_ok, PD.v_bind_exc, PD.v_bind_stuck, PD.v_bindS_ok, PD.v_bindS_exc, PD.v_bindS_stuck, PD.v_of_some, PD.v_of_none, PD.v_seq_nx, PD.v_seq_rt, PD.v_seq_rn, PD.v_seq_bk, PD.v_seq_ct, PD.v_seq_exc, PD.v_seq_stuck, PD.v_ifS, PD.v_sel_t, PD.v_sel_f, PD.v_sel_exc, PD.v_sel_stuck, PD.v_if, PD.v_and, PD.v_or, PD.v_selR_t, PD.v_selR_f, PD.v_selR_exc, PD.v_selR_stuck, PD.v_not, PD.v_notR, PD.v_notR_exc, PD.v_test, PD.v_testR, PD.v_testR_exc, PD.v_andV, PD.v_orV, PD.v_selV_t, PD.v_selV_f, PD.v_notV, PD.v_notV', PD.v_chain, PD.v_chain_t, PD.v_chain_f, PD.v_add_i, PD.v_add_s, PD.v_add_l, PD.v_add_t, PD.v_cat, PD.v_sub, PD.v_mul, PD.v_div, PD.v_mod, PD.v_pow, PD.v_neg, PD.v_cmp, PD.v_eq_ii, PD.v_eq_bb, PD.v_eq_ss, PD.v_eq_nn, PD.v_ne_ii, PD.v_ne_bb, PD.v_ne_ss, PD.v_eq_ll, PD.v_eq_tt, PD.v_ne_ll, PD.v_ne_tt, PD.v_eq0, PD.v_in_t, PD.v_in_l, PD.v_flat_i, PD.v_flat_s, PD.v_flat_b, PD.v_flat_n, PD.v_isB, PD.v_isN_n, PD.v_isN_i, PD.v_isN_t, PD.v_isN_l, PD.v_isN_s, PD.v_ix_l, PD.v_ix_t, PD.v_ix_s, PD.v_slN, PD.v_slV_l, PD.v_slV_t, PD.v_slV_s, PD.v_len_l, PD.v_len_t, PD.v_len_s, PD.v_len_d, PD.v_list_l, PD.v_list_t, PD.v_tuple_l, PD.v_tuple_t, PD.v_sorted, PD.v_seqOf_l, PD.v_seqOf_t, PD.v_keyOf_i, PD.v_keyOf_s, PD.v_data_l, PD.v_data_d, PD.v_isi, PD.v_isi_int, PD.v_isi_bool, PD.v_isi_str, PD.v_isi_list, PD.v_isi_tuple, PD.i_int_i, PD.i_bool_i, PD.i_tuple_i, PD.i_tuple_t, PD.i_int_t, PD.i_list_l, PD.i_str_s, PD.i_bool_b, PD.v_hTup, PD.v_hCons, PD.v_hNil, PD.w_seq, PD.w_asg, PD.w_outO_s, PD.w_outO_n, PD.w_ret, PD.w_retN, PD.w_retV, PD.w_ret0, PD.w_V, PD.w_Vr, PD.w_C, PD.w_op, PD.w_un, PD.w_CB, PD.w_cons, PD.w_nil, PD.w_tup, PD.w_lst, PD.w_ob, PD.w_call, PD.w_new, PD.w_app, PD.w_ext, PD.w_pop, PD.w_popD, PD.w_putAt, PD.w_aug, PD.w_frz, PD.w_ahead, PD.w_forget, PD.w_forO_nx, PD.w_forO_bk, PD.w_forO_ct, PD.w_forO_rt, PD.w_forO_rn, PD.w_forO_exc, PD.w_drop, PD.w_next, PD.w_bk, PD.w_ct, PD.w_exc, PD.w_lc, PD.w_itL, PD.w_itl, PD.w_itT, PD.w_itt, PD.w_itV, PD.w_itv, PD.w_rng1, PD.w_rng1', PD.w_rng2, PD.w_rng2', PD.w_lrg1, PD.w_lrg1', PD.w_sl, PD.w_no, PD.w_part, PD.w_part', PD.w_newD, PD.w_putD, PD.w_inD, PD.w_getD, PD.w_maxD, PD.w_count, PD.w_for, PD.w_hSet, PD.w_appPop, PD.w_apD, forgetE, owL, putL, owD, putOD, frzE, initE, noPm, wipeE, sizeLine_eq, List.getElem?_cons_zero, List.getElem?_cons_succ, List.set_cons_zero, List.set_cons_succ, List.map_cons, List.map_nil, List.length_cons, List.length_nil, List.replicate, List.cons_append, List.nil_append, Option.bind_some, Option.bind_none, Option.map_some, Option.map_none, ite_true, ite_false, if_true, if_false, reduceCtorEq, Nat.reduceAdd, Nat.reduceSub, Nat.reduceLeDiff, Bool.and_true, Bool.true_and, Bool.and_false, Bool.false_and, Bool.or_true, Bool.true_or, Bool.or_false, Bool.false_or, Bool.not_true, Bool.not_false, decide_true, decide_false, Bool.false_eq_true, Int.reduceEq, Int.reduceBEq, Option.isSome_some, Option.isSome_none, List.all_cons, List.all_nil, and_self, and_true, true_and, getLast_app, dropLast_app, ev_is_whole, isW, h1, h2]
    · cases h3 : (lookK (es.map fun p => (keyD p.1, p.2)) (.inl n)).isSome
      · simp only [PD.v_bind_ok, PD.v_bind_exc, PD.v_bind_stuck, PD.v_bindS_ok, PD.v_bindS_exc, PD.v_bindS_stuck, PD.v_of_some, PD.v_of_none, PD.v_seq_nx, PD.v_seq_rt, PD.v_seq_rn, PD.v_seq_bk, PD.v_seq_ct, PD.v_seq_exc, PD.v_seq_stuck, PD.v_ifS, PD.v_sel_t, PD.v_sel_f, PD.v_sel_exc, PD.v_sel_stuck, PD.v_if, PD.v_and, PD.v_or, PD.v_selR_t, PD.v_selR_f, PD.v_selR_exc, PD.v_selR_stuck, PD.v_not, PD.v_notR, PD.v_notR_exc, PD.v_test, PD.v_testR, PD.v_testR_exc, PD.v_andV, PD.v_orV, PD.v_selV_t, PD.v_selV_f, PD.v_notV, PD.v_notV', PD.v_chain, PD.v_chain_t, PD.v_chain_f, PD.v_add_i, PD.v_add_s, PD.v_add_l, PD.v_add_t, PD.v_cat, PD.v_sub, PD.v_mul, PD.v_div, PD.v_mod, PD.v_pow, PD.v_neg, PD.v_cmp, PD.v_eq_ii, PD.v_eq_bb, PD.v_eq_ss, PD.v_eq_nn, PD.v_ne_ii, PD.v_ne_bb, PD.v_ne_ss, PD.v_eq_ll, PD.v_eq_tt, PD.v_ne_ll, PD.v_ne_tt, PD.v_eq0, PD.v_in_t, PD.v_in_l, PD.v_flat_i, PD.v_flat_s, PD.v_flat_b, PD.v_flat_n, PD.v_isB, PD.v_isN_n, PD.v_isN_i, PD.v_isN_t, PD.v_isN_l, PD.v_isN_s, PD.v_ix_l, PD.v_ix_t, PD.v_ix_s, PD.v_slN, PD.v_slV_l, PD.v_slV_t, PD.v_slV_s, PD.v_len_l, PD.v_len_t, PD.v_len_s, PD.v_len_d, PD.v_list_l, PD.v_list_t, PD.v_tuple_l, PD.v_tuple_t, PD.v_sorted, PD.v_seqOf_l, PD.v_seqOf_t, PD.v_keyOf_i, PD.v_keyOf_s, PD.v_data_l, PD.v_data_d, PD.v_isi, PD.v_isi_int, PD.v_isi_bool, PD.v_isi_str, PD.v_isi_list, PD.v_isi_tuple, PD.i_int_i, PD.i_bool_i, PD.i_tuple_i, PD.i_tuple_t, PD.i_int_t, PD.i_list_l, PD.i_str_s, PD.i_bool_b, PD.v_hTup, PD.v_hCons, PD.v_hNil, PD.w_seq, PD.w_asg, PD.w_outO_s, PD.w_outO_n, PD.w_ret, PD.w_retN, PD.w_retV, PD.w_ret0, PD.w_V, PD.w_Vr, PD.w_C, PD.w_op, PD.w_un, PD.w_CB, PD.w_cons, PD.w_nil, PD.w_tup, PD.w_lst, PD.w_ob, PD.w_call, PD.w_new, PD.w_app, PD.w_ext, PD.w_pop, PD.w_popD, PD.w_putAt, PD.w_aug, PD.w_frz, PD.w_ahead, PD.w_forget, PD.w_forO_nx, PD.w_forO_bk, PD.w_forO_ct, PD.w_forO_rt, PD.w_forO_rn, PD.w_forO_exc, PD.w_drop, PD.w_next, PD.w_bk, PD.w_ct, PD.w_exc, PD.w_lc, PD.w_itL, PD.w_itl, PD.w_itT, PD.w_itt, PD.w_itV, PD.w_itv, PD.w_rng1, PD.w_rng1', PD.w_rng2, PD.w_rng2', PD.w_lrg1, PD.w_lrg1', PD.w_sl, PD.w_no, PD.w_part, PD.w_part', PD.w_newD, PD.w_putD, PD.w_inD, PD.w_getD, PD.w_maxD, PD.w_count, PD.w_for, PD.w_hSet, PD.w_appPop, PD.w_apD, forgetE, owL, putL, owD, putOD, frzE, initE, noPm, wipeE, sizeLine_eq, List.getElem?_cons_zero, List.getElem?_cons_succ, List.set_cons_zero, List.set_cons_succ, List.map_cons, List.map_nil, List.length_cons, List.length_nil, List.replicate, List.cons_append, List.nil_append, Option.bind_some, Option.bind_none, Option.map_some, Option.map_none, ite_true, ite_false, if_true, if_false, reduceCtorEq, Nat.reduceAdd, Nat.reduceSub, Nat.reduceLeDiff, Bool.and_true, Bool.true_and, Bool.and_false, Bool.false_and, Bool.or_true, Bool.true_or, Bool.or_false, Bool.false_or, Bool.not_true, Bool.not_false, decide_true, decide_false, Bool.false_eq_true, Int.reduceEq, Int.reduceBEq, Option.isSome_some, Option.isSome_none, List.all_cons, List.all_nil, and_self, and_true, true_and, getLast_app, dropLast_app, ev_is_whole, isW, h1, h2, h3, hz]
      · simp only [PD.v_bind_ok, PD.v_bind_exc, PD.v_bind_stuck, PD.v_bindS_ok, PD.v_bindS_exc, PD.v_bindS_stuck, PD.v_of_some, PD.v_of_none, PD.v_seq_nx, PD.v_seq_rt, PD.v_seq_rn, PD.v_seq_bk, PD.v_seq_ct, PD.v_seq_exc, PD.v_seq_stuck, PD.v_ifS, PD.v_sel_t, PD.v_sel_f, PD.v_sel_exc, PD.v_sel_stuck, PD.v_if, PD.v_and, PD.v_or, PD.v_selR_t, PD.v_selR_f, PD.v_selR_exc, PD.v_selR_stuck, PD.v_not, PD.v_notR, PD.v_notR_exc, PD.v_test, PD.v_testR, PD.v_testR_exc, PD.v_andV, PD.v_orV, PD.v_selV_t, PD.v_selV_f, PD.v_notV, PD.v_notV', PD.v_chain, PD.v_chain_t, PD.v_chain_f, PD.v_add_i, PD.v_add_s, PD.v_add_l, PD.v_add_t, PD.v_cat, PD.v_sub, PD.v_mul, PD.v_div, PD.v_mod, PD.v_pow, PD.v_neg, PD.v_cmp, PD.v_eq_ii, PD.v_eq_bb, PD.v_eq_ss, PD.v_eq_nn, PD.v_ne_ii, PD.v_ne_bb, PD.v_ne_ss, PD.v_eq_ll, PD.v_eq_tt, PD.v_ne_ll, PD.v_ne_tt, PD.v_eq0, PD.v_in_t, PD.v_in_l, PD.v_flat_i, PD.v_flat_s, PD.v_flat_b, PD.v_flat_n, PD.v_isB, PD.v_isN_n, PD.v_isN_i, PD.v_isN_t, PD.v_isN_l, PD.v_isN_s, PD.v_ix_l, PD.v_ix_t, PD.v_ix_s, PD.v_slN, PD.v_slV_l, PD.v_slV_t, PD.v_slV_s, PD.v_len_l, PD.v_len_t, PD.v_len_s, PD.v_len_d, PD.v_list_l, PD.v_list_t, PD.v_tuple_l, PD.v_tuple_t, PD.v_sorted, PD.v_seqOf_l, PD.v_seqOf_t, PD.v_keyOf_i, PD.v_keyOf_s, PD.v_data_l, PD.v_data_d, PD.v_isi, PD.v_isi_int, PD.v_isi_bool, PD.v_isi_str, PD.v_isi_list, PD.v_isi_tuple, PD.i_int_i, PD.i_bool_i, PD.i_tuple_i, PD.i_tuple_t, PD.i_int_t, PD.i_list_l, PD.i_str_s, PD.i_bool_b, PD.v_hTup, PD.v_hCons, PD.v_hNil, PD.w_seq, PD.w_asg, PD.w_outO_s, PD.w_outO_n, PD.w_ret, PD.w_retN, PD.w_retV, PD.w_ret0, PD.w_V, PD.w_Vr, PD.w_C, PD.w_op, PD.w_un, PD.w_CB, PD.w_cons, PD.w_nil, PD.w_tup, PD.w_lst, PD.w_ob, PD.w_call, PD.w_new, PD.w_app, PD.w_ext, PD.w_pop, PD.w_popD, PD.w_putAt, PD.w_aug, PD.w_frz, PD.w_ahead, PD.w_forget, PD.w_forO_nx, PD.w_forO_bk, PD.w_forO_ct, PD.w_forO_rt, PD.w_forO_rn, PD.w_forO_exc, PD.w_drop, PD.w_next, PD.w_bk, PD.w_ct, PD.w_exc, PD.w_lc, PD.w_itL, PD.w_itl, PD.w_itT, PD.w_itt, PD.w_itV, PD.w_itv, PD.w_rng1, PD.w_rng1', PD.w_rng2, PD.w_rng2', PD.w_lrg1, PD.w_lrg1', PD.w_sl, PD.w_no, PD.w_part, PD.w_part', PD.w_newD, PD.w_putD, PD.w_inD, PD.w_getD, PD.w_maxD, PD.w_count, PD.w_for, PD.w_hSet, PD.w_appPop, PD.w_apD, forgetE, owL, putL, owD, putOD, frzE, initE, noPm, wipeE, sizeLine_eq, List.getElem?_cons_zero, List.getElem?_cons_succ, List.set_cons_zero, List.set_cons_succ, List.map_cons, List.map_nil, List.length_cons, List.length_nil, List.replicate, List.cons_append, List.nil_append, Option.bind_some, Option.bind_none, Option.map_some, Option.map_none, ite_true, ite_false, if_true, if_false, reduceCtorEq, Nat.reduceAdd, Nat.reduceSub, Nat.reduceLeDiff, Bool.and_true, Bool.true_and, Bool.and_false, Bool.false_and, Bool.or_true, Bool.true_or, Bool.or_false, Bool.false_or, Bool.not_true, Bool.not_false, decide_true, decide_false, Bool.false_eq_true, Int.reduceEq, Int.reduceBEq, Option.isSome_some, Option.isSome_none, List.all_cons, List.all_nil, and_self, and_true, true_and, getLast_app, dropLast_app, ev_is_whole, isW, h1, h2, h3]
theorem inS_kinds (k : Str) : inS (.str k) [.str "|", .str "-"] = (k == ("|" : Str) || k == ("-" : Str)) := by
  unfold inS
  simp only [List.any_cons, List.any_nil, PyData.eqv, Bool.or_false]
  have c : ∀ a b : Str, (a == b) = (b == a) := fun a b => by rw [Bool.eq_iff_iff]; simp only [beq_iff_eq]; exact eq_comm
  rw [c "|" k, c "-" k]
theorem lc_push (ρ0 : PD.Env) (h : D → PD.Env → Option PD.Env) (fe : PD.Env → Res D) (k : Str) (hk : ∀ d, ∃ ρ1, h d ρ0 = some ρ1 ∧ fe ρ1 = .ok (.tuple [d, .str k])) : ∀ ps : List D, lcF h dYes fe ρ0 ps = some (ps.map fun d => .tuple [d, .str k])
  | [] => rfl
  | d :: ps => by
    obtain ⟨ρ1, h1, h2⟩ := hk d
    unfold lcF
    rw [h1]
    simp only [dYes, h2, lc_push ρ0 h fe k hk ps, Option.map_some, List.map_cons]
theorem atI_0 {α : Type} (x : α) (r : List α) : atI (x :: r) 0 = some x := by simp [atI, ixN]
theorem atI_1 {α : Type} (x y : α) (r : List α) : atI (x :: y :: r) 1 = some y := by
  have : (1 : Int) < ((x :: y :: r).length : Int) := by simp only [List.length_cons]; omega
  unfold atI ixN
  rw [if_pos (by decide), if_pos this]
  rfl
def IsFalse (o : Out) : Prop := ∃ ρ, o = .rt (.bool false) ρ
theorem bodyT_not (t : D) (es : List (Key × D)) (l : List D) (d : D) (a : Str) (hi : ∀ n, d ≠ .int n) (ht : ∀ ds, d ≠ .tuple ds) : IsFalse (B_is_tree_1 (ρT t es (l ++ [.tuple [d, .str a]]))) := by
  unfold B_is_tree_1 ρT IsFalse
  have hw : isW d = false := by cases d <;> first | rfl | exact absurd rfl (hi _)
  have hk : isiD "tuple" d = false := by cases d <;> first | rfl | exact absurd rfl (ht _)
  simp only [PD.v_bind_ok, PD.v_bind_exc, PD.v_bind_stuck, PD.v_bindS_ok, PD.v_bindS_exc, PD.v_bindS_stuck, PD.v_of_some, PD.v_of_none, PD.v_seq_nx, PD.v_seq_rt, PD.v_seq_rn, PD.v_seq_bk, PD.v_seq_ct, PD.v_seq_exc, PD.v_seq_stuck, PD.v_ifS, PD.v_sel_t, PD.v_sel_f, PD.v_sel_exc, PD.v_sel_stuck, PD.v_if, PD.v_and, PD.v_or, PD.v_selR_t, PD.v_selR_f, PD.v_selR_exc, PD.v_selR_stuck, PD.v_not, PD.v_notR, PD.v_notR_exc, PD.v_test, PD.v_testR, PD.v_testR_exc, PD.v_andV, PD.v_orV, PD.v_selV_t, PD.v_selV_f, PD.v_notV, PD.v_notV', PD.v_chain, PD.v_chain_t, PD.v_chain_f, PD.v_add_i, PD.v_add_s, PD.v_add_l, PD.v_add_t, PD.v_cat, PD.v_sub, PD.v_mul, PD.v_div, PD.v_mod, PD.v_pow, PD.v_neg, PD.v_cmp, PD.v_eq_ii, PD.v_eq_bb, PD.v_eq_ss, PD.v_eq_nn, PD.v_ne_ii, PD.v_ne_bb, PD.v_ne_ss, PD.v_eq_ll, PD.v_eq_tt, PD.v_ne_ll, PD.v_ne_tt, PD.v_eq0, PD.v_in_t, PD.v_in_l, PD.v_flat_i, PD.v_flat_s, PD.v_flat_b, PD.v_flat_n, PD.v_isB, PD.v_isN_n, PD.v_isN_i, PD.v_isN_t, PD.v_isN_l, PD.v_isN_s, PD.v_ix_l, PD.v_ix_t, PD.v_ix_s, PD.v_slN, PD.v_slV_l, PD.v_slV_t, PD.v_slV_s, PD.v_len_l, PD.v_len_t, PD.v_len_s, PD.v_len_d, PD.v_list_l, PD.v_list_t, PD.v_tuple_l, PD.v_tuple_t, PD.v_sorted, PD.v_seqOf_l, PD.v_seqOf_t, PD.v_keyOf_i, PD.v_keyOf_s, PD.v_data_l, PD.v_data_d, PD.v_isi, PD.v_isi_int, PD.v_isi_bool, PD.v_isi_str, PD.v_isi_list, PD.v_isi_tuple, PD.i_int_i, PD.i_bool_i, PD.i_tuple_i, PD.i_tuple_t, PD.i_int_t, PD.i_list_l, PD.i_str_s, PD.i_bool_b, PD.v_hTup, PD.v_hCons, PD.v_hNil, PD.w_seq, PD.w_asg, PD.w_outO_s, PD.w_outO_n, PD.w_ret, PD.w_retN, PD.w_retV, PD.w_ret0, PD.w_V, PD.w_Vr, PD.w_C, PD.w_op, PD.w_un, PD.w_CB, PD.w_cons, PD.w_nil, PD.w_tup, PD.w_lst, PD.w_ob, PD.w_call, PD.w_new, PD.w_app, PD.w_ext, PD.w_pop, PD.w_popD, PD.w_putAt, PD.w_aug, PD.w_frz, PD.w_ahead, PD.w_forget, PD.w_forO_nx, PD.w_forO_bk, PD.w_forO_ct, PD.w_forO_rt, PD.w_forO_rn, PD.w_forO_exc, PD.w_drop, PD.w_next, PD.w_bk, PD.w_ct, PD.w_exc, PD.w_lc, PD.w_itL, PD.w_itl, PD.w_itT, PD.w_itt, PD.w_itV, PD.w_itv, PD.w_rng1, PD.w_rng1', PD.w_rng2, PD.w_rng2', PD.w_lrg1, PD.w_lrg1', PD.w_sl, PD.w_no, PD.w_part, PD.w_part', PD.w_newD, PD.w_putD, PD.w_inD, PD.w_getD, PD.w_maxD, PD.w_count, PD.w_for, PD.w_hSet, PD.w_appPop, PD.w_apD, forgetE, owL, putL, owD, putOD, frzE, initE, noPm, wipeE, sizeLine_eq, List.getElem?_cons_zero, List.getElem?_cons_succ, List.set_cons_zero, List.set_cons_succ, List.map_cons, List.map_nil, List.length_cons, List.length_nil, List.replicate, List.cons_append, List.nil_append, Option.bind_some, Option.bind_none, Option.map_some, Option.map_none, ite_true, ite_false, if_true, if_false, reduceCtorEq, Nat.reduceAdd, Nat.reduceSub, Nat.reduceLeDiff, Bool.and_true, Bool.true_and, Bool.and_false, Bool.false_and, Bool.or_true, Bool.true_or, Bool.or_false, Bool.false_or, Bool.not_true, Bool.not_false, decide_true, decide_false, Bool.false_eq_true, Int.reduceEq, Int.reduceBEq, Option.isSome_some, Option.isSome_none, List.all_cons, List.all_nil, and_self, and_true, true_and, getLast_app, dropLast_app, ev_is_whole, hw, hk]
  exact ⟨_, rfl⟩
theorem bodyT_len (t : D) (es : List (Key × D)) (l : List D) (ds : List D) (a : Str) (h : ds.length ≠ 2) : IsFalse (B_is_tree_1 (ρT t es (l ++ [.tuple [.tuple ds, .str a]]))) := by
  unfold B_is_tree_1 ρT IsFalse
  have h2 : (((ds.length : Nat) : Int) == 2) = false := by rw [beq_eq_false_iff_ne]; omega
  simp only [PD.v_bind_ok, PD.v_bind_exc, PD.v_bind_stuck, PD.v_bindS_ok, PD.v_bindS_exc, PD.v_bindS_stuck, PD.v_of_some, PD.v_of_none, PD.v_seq_nx, PD.v_seq_rt, PD.v_seq_rn, PD.v_seq_bk, PD.v_seq_ct, PD.v_seq_exc, PD.v_seq_stuck, PD.v_ifS, PD.v_sel_t, PD.v_sel_f, PD.v_sel_exc, PD.v_sel_stuck, PD.v_if, PD.v_and, PD.v_or, PD.v_selR_t, PD.v_selR_f, PD.v_selR_exc, PD.v_selR_stuck, PD.v_not, PD.v_notR, PD.v_notR_exc, PD.v_test, PD.v_testR, PD.v_testR_exc, PD.v_andV, PD.v_orV, PD.v_selV_t, PD.v_selV_f, PD.v_notV, PD.v_notV', PD.v_chain, PD.v_chain_t, PD.v_chain_f, PD.v_add_i, PD.v_add_s, PD.v_add_l, PD.v_add_t, PD.v_cat, PD.v_sub, PD.v_mul, PD.v_div, PD.v_mod, PD.v_pow, PD.v_neg, PD.v_cmp, PD.v_eq_ii, PD.v_eq_bb, PD.v_eq_ss, PD.v_eq_nn, PD.v_ne_ii, PD.v_ne_bb, PD.v_ne_ss, PD.v_eq_ll, PD.v_eq_tt, PD.v_ne_ll, PD.v_ne_tt, PD.v_eq0, PD.v_in_t, PD.v_in_l, PD.v_flat_i, PD.v_flat_s, PD.v_flat_b, PD.v_flat_n, PD.v_isB, PD.v_isN_n, PD.v_isN_i, PD.v_isN_t, PD.v_isN_l, PD.v_isN_s, PD.v_ix_l, PD.v_ix_t, PD.v_ix_s, PD.v_slN, PD.v_slV_l, PD.v_slV_t, PD.v_slV_s, PD.v_len_l, PD.v_len_t, PD.v_len_s, PD.v_len_d, PD.v_list_l, PD.v_list_t, PD.v_tuple_l, PD.v_tuple_t, PD.v_sorted, PD.v_seqOf_l, PD.v_seqOf_t, PD.v_keyOf_i, PD.v_keyOf_s, PD.v_data_l, PD.v_data_d, PD.v_isi, PD.v_isi_int, PD.v_isi_bool, PD.v_isi_str, PD.v_isi_list, PD.v_isi_tuple, PD.i_int_i, PD.i_bool_i, PD.i_tuple_i, PD.i_tuple_t, PD.i_int_t, PD.i_list_l, PD.i_str_s, PD.i_bool_b, PD.v_hTup, PD.v_hCons, PD.v_hNil, PD.w_seq, PD.w_asg, PD.w_outO_s, PD.w_outO_n, PD.w_ret, PD.w_retN, PD.w_retV, PD.w_ret0, PD.w_V, PD.w_Vr, PD.w_C, PD.w_op, PD.w_un, PD.w_CB, PD.w_cons, PD.w_nil, PD.w_tup, PD.w_lst, PD.w_ob, PD.w_call, PD.w_new, PD.w_app, PD.w_ext, PD.w_pop, PD.w_popD, PD.w_putAt, PD.w_aug, PD.w_frz, PD.w_ahead, PD.w_forget, PD.w_forO_nx, PD.w_forO_bk, PD.w_forO_ct, PD.w_forO_rt, PD.w_forO_rn, PD.w_forO_exc, PD.w_drop, PD.w_next, PD.w_bk, PD.w_ct, PD.w_exc, PD.w_lc, PD.w_itL, PD.w_itl, PD.w_itT, PD.w_itt, PD.w_itV, PD.w_itv, PD.w_rng1, PD.w_rng1', PD.w_rng2, PD.w_rng2', PD.w_lrg1, PD.w_lrg1', PD.w_sl, PD.w_no, PD.w_part, PD.w_part', PD.w_newD, PD.w_putD, PD.w_inD, PD.w_getD, PD.w_maxD, PD.w_count, PD.w_for, PD.w_hSet, PD.w_appPop, PD.w_apD, forgetE, owL, putL, owD, putOD, frzE, initE, noPm, wipeE, sizeLine_eq, List.getElem?_cons_zero, List.getElem?_cons_succ, List.set_cons_zero, List.set_cons_succ, List.map_cons, List.map_nil, List.length_cons, List.length_nil, List.replicate, List.cons_append, List.nil_append, Option.bind_some, Option.bind_none, Option.map_some, Option.map_none, ite_true, ite_false, if_true, if_false, reduceCtorEq, Nat.reduceAdd, Nat.reduceSub, Nat.reduceLeDiff, Bool.and_true, Bool.true_and, Bool.and_false, Bool.false_and, Bool.or_true, Bool.true_or, Bool.or_false, Bool.false_or, Bool.not_true, Bool.not_false, decide_true, decide_false, Bool.false_eq_true, Int.reduceEq, Int.reduceBEq, Option.isSome_some, Option.isSome_none, List.all_cons, List.all_nil, and_self, and_true, true_and, getLast_app, dropLast_app, ev_is_whole, isW, h2]
  exact ⟨_, rfl⟩
theorem int_two : (((2 : Nat) : Int) == 2) = true := rfl
theorem bodyT_head (t : D) (es : List (Key × D)) (l : List D) (x y : D) (a : Str) (h : ∀ k, x ≠ .str k) : IsFalse (B_is_tree_1 (ρT t es (l ++ [.tuple [.tuple [x, y], .str a]]))) := by
  unfold B_is_tree_1 ρT IsFalse
  have h2 : isiD "str" x = false := by cases x <;> first | rfl | exact absurd rfl (h _)
  simp only [PD.v_bind_ok, PD.v_bind_exc, PD.v_bind_stuck, PD.v_bindS_ok, PD.v_bindS_exc, PD.v_bindS_stuck, PD.v_of_some, PD.v_of_none, PD.v_seq_nx, PD.v_seq_rt, PD.v_seq_rn, PD.v_seq_bk, PD.v_seq_ct, PD.v_seq_exc, PD.v_seq_stuck, PD.v_ifS, PD.v_sel_t, PD.v_sel_f, PD.v_sel_exc, PD.v_sel_stuck, PD.v_if, PD.v_and, PD.v_or, PD.v_selR_t, PD.v_selR_f, PD.v_selR_exc, PD.v_selR_stuck, PD.v_not, PD.v_notR, PD.v_notR_exc, PD.v_test, PD.v_testR, PD.v_testR_exc, PD.v_andV, PD.v_orV, PD.v_selV_t, PD.v_selV_f, PD.v_notV, PD.v_notV', PD.v_chain, PD.v_chain_t, PD.v_chain_f, PD.v_add_i, PD.v_add_s, PD.v_add_l, PD.v_add_t, PD.v_cat, PD.v_sub, PD.v_mul, PD.v_div, PD.v_mod, PD.v_pow, PD.v_neg, PD.v_cmp, PD.v_eq_ii, PD.v_eq_bb, PD.v_eq_ss, PD.v_eq_nn, PD.v_ne_ii, PD.v_ne_bb, PD.v_ne_ss, PD.v_eq_ll, PD.v_eq_tt, PD.v_ne_ll, PD.v_ne_tt, PD.v_eq0, PD.v_in_t, PD.v_in_l, PD.v_flat_i, PD.v_flat_s, PD.v_flat_b, PD.v_flat_n, PD.v_isB, PD.v_isN_n, PD.v_isN_i, PD.v_isN_t, PD.v_isN_l, PD.v_isN_s, PD.v_ix_l, PD.v_ix_t, PD.v_ix_s, PD.v_slN, PD.v_slV_l, PD.v_slV_t, PD.v_slV_s, PD.v_len_l, PD.v_len_t, PD.v_len_s, PD.v_len_d, PD.v_list_l, PD.v_list_t, PD.v_tuple_l, PD.v_tuple_t, PD.v_sorted, PD.v_seqOf_l, PD.v_seqOf_t, PD.v_keyOf_i, PD.v_keyOf_s, PD.v_data_l, PD.v_data_d, PD.v_isi, PD.v_isi_int, PD.v_isi_bool, PD.v_isi_str, PD.v_isi_list, PD.v_isi_tuple, PD.i_int_i, PD.i_bool_i, PD.i_tuple_i, PD.i_tuple_t, PD.i_int_t, PD.i_list_l, PD.i_str_s, PD.i_bool_b, PD.v_hTup, PD.v_hCons, PD.v_hNil, PD.w_seq, PD.w_asg, PD.w_outO_s, PD.w_outO_n, PD.w_ret, PD.w_retN, PD.w_retV, PD.w_ret0, PD.w_V, PD.w_Vr, PD.w_C, PD.w_op, PD.w_un, PD.w_CB, PD.w_cons, PD.w_nil, PD.w_tup, PD.w_lst, PD.w_ob, PD.w_call, PD.w_new, PD.w_app, PD.w_ext, PD.w_pop, PD.w_popD, PD.w_putAt, PD.w_aug, PD.w_frz, PD.w_ahead, PD.w_forget, PD.w_forO_nx, PD.w_forO_bk, PD.w_forO_ct, PD.w_forO_rt, PD.w_forO_rn, PD.w_forO_exc, PD.w_drop, PD.w_next, PD.w_bk, PD.w_ct, PD.w_exc, PD.w_lc, PD.w_itL, PD.w_itl, PD.w_itT, PD.w_itt, PD.w_itV, PD.w_itv, PD.w_rng1, PD.w_rng1', PD.w_rng2, PD.w_rng2', PD.w_lrg1, PD.w_lrg1', PD.w_sl, PD.w_no, PD.w_part, PD.w_part', PD.w_newD, PD.w_putD, PD.w_inD, PD.w_getD, PD.w_maxD, PD.w_count, PD.w_for, PD.w_hSet, PD.w_appPop, PD.w_apD, forgetE, owL, putL, owD, putOD, frzE, initE, noPm, wipeE, sizeLine_eq, List.getElem?_cons_zero, List.getElem?_cons_succ, List.set_cons_zero, List.set_cons_succ, List.map_cons, List.map_nil, List.length_cons, List.length_nil, List.replicate, List.cons_append, List.nil_append, Option.bind_some, Option.bind_none, Option.map_some, Option.map_none, ite_true, ite_false, if_true, if_false, reduceCtorEq, Nat.reduceAdd, Nat.reduceSub, Nat.reduceLeDiff, Bool.and_true, Bool.true_and, Bool.and_false, Bool.false_and, Bool.or_true, Bool.true_or, Bool.or_false, Bool.false_or, Bool.not_true, Bool.not_false, decide_true, decide_false, Bool.false_eq_true, Int.reduceEq, Int.reduceBEq, Option.isSome_some, Option.isSome_none, List.all_cons, List.all_nil, and_self, and_true, true_and, getLast_app, dropLast_app, ev_is_whole, isW, h2, atI_0, int_two]
  exact ⟨_, rfl⟩
theorem two_le (n : Nat) : decide (((n : Nat) : Int) < 2) = !decide (2 ≤ n) := by
  rw [Bool.eq_iff_iff]; simp; omega
theorem knot_two (k : Str) (y : D) (a : Str) (h : ∀ ps, y ≠ .tuple ps) : knot (.tuple [.str k, y]) a = .bad := by
  cases y <;> first | rfl | exact absurd rfl (h _)
theorem bodyT_two (t : D) (es : List (Key × D)) (l : List D) (k : Str) (y : D) (a : Str) (hz : ∀ ps, y = .tuple ps → kGood k a ps = true → l.length + ps.length ≤ 16777216) : match knot (.tuple [.str k, y]) a with
    | .more k2 ps => B_is_tree_1 (ρT t es (l ++ [.tuple [.tuple [.str k, y], .str a]])) = .nx (ρT t es (l ++ ps.map fun d => .tuple [d, .str k2]))
    | _ => IsFalse (B_is_tree_1 (ρT t es (l ++ [.tuple [.tuple [.str k, y], .str a]]))) := by
  cases c1 : (k == ("|" : Str) || k == ("-" : Str)) with
  | false =>
    have e : knot (.tuple [.str k, y]) a = .bad := by
      cases y <;> first | rfl | (simp only [knot, kGood, c1, Bool.false_and]; rfl)
    rw [e]
    unfold B_is_tree_1 ρT IsFalse
    simp only [PD.v_bind_ok, PD.v_bind_exc, PD.v_bind_stuck, PD.v_bindS_ok, PD.v_bindS_exc, PD.v_bindS_stuck, PD.v_of_some, PD.v_of_none, PD.v_seq_nx, PD.v_seq_rt, PD.v_seq_rn, PD.v_seq_bk, PD.v_seq_ct, PD.v_seq_exc, PD.v_seq_stuck, PD.v_ifS, PD.v_sel_t, PD.v_sel_f, PD.v_sel_exc, PD.v_sel_stuck, PD.v_if, PD.v_and, PD.v_or, PD.v_selR_t, PD.v_selR_f, PD.v_selR_exc, PD.v_selR_stuck, PD.v_not, PD.v_notR, PD.v_notR_exc, PD.v_test, PD.v_testR, PD.v_testR_exc, PD.v_andV, PD.v_orV, PD.v_selV_t, PD.v_selV_f, PD.v_notV, PD.v_notV', PD.v_chain, PD.v_chain_t, PD.v_chain_f, PD.v_add_i, PD.v_add_s, PD.v_add_l, PD.v_add_t, PD.v_cat, PD.v_sub, PD.v_mul, PD.v_div, PD.v_mod, PD.v_pow, PD.v_neg, PD.v_cmp, PD.v_eq_ii, PD.v_eq_bb, PD.v_eq_ss, PD.v_eq_nn, PD.v_ne_ii, PD.v_ne_bb, PD.v_ne_ss, PD.v_eq_ll, PD.v_eq_tt, PD.v_ne_ll, PD.v_ne_tt, PD.v_eq0, PD.v_in_t, PD.v_in_l, PD.v_flat_i, PD.v_flat_s, PD.v_flat_b, PD.v_flat_n, PD.v_isB, PD.v_isN_n, PD.v_isN_i, PD.v_isN_t, PD.v_isN_l, PD.v_isN_s, PD.v_ix_l, PD.v_ix_t, PD.v_ix_s, PD.v_slN, PD.v_slV_l, PD.v_slV_t, PD.v_slV_s, PD.v_len_l, PD.v_len_t, PD.v_len_s, PD.v_len_d, PD.v_list_l, PD.v_list_t, PD.v_tuple_l, PD.v_tuple_t, PD.v_sorted, PD.v_seqOf_l, PD.v_seqOf_t, PD.v_keyOf_i, PD.v_keyOf_s, PD.v_data_l, PD.v_data_d, PD.v_isi, PD.v_isi_int, PD.v_isi_bool, PD.v_isi_str, PD.v_isi_list, PD.v_isi_tuple, PD.i_int_i, PD.i_bool_i, PD.i_tuple_i, PD.i_tuple_t, PD.i_int_t, PD.i_list_l, PD.i_str_s, PD.i_bool_b, PD.v_hTup, PD.v_hCons, PD.v_hNil, PD.w_seq, PD.w_asg, PD.w_outO_s, PD.w_outO_n, PD.w_ret, PD.w_retN, PD.w_retV, PD.w_ret0, PD.w_V, PD.w_Vr, PD.w_C, PD.w_op, PD.w_un, PD.w_CB, PD.w_cons, PD.w_nil, PD.w_tup, PD.w_lst, PD.w_ob, PD.w_call, PD.w_new, PD.w_app, PD.w_ext, PD.w_pop, PD.w_popD, PD.w_putAt, PD.w_aug, PD.w_frz, PD.w_ahead, PD.w_forget, PD.w_forO_nx, PD.w_forO_bk, PD.w_forO_ct, PD.w_forO_rt, PD.w_forO_rn, PD.w_forO_exc, PD.w_drop, PD.w_next, PD.w_bk, PD.w_ct, PD.w_exc, PD.w_lc, PD.w_itL, PD.w_itl, PD.w_itT, PD.w_itt, PD.w_itV, PD.w_itv, PD.w_rng1, PD.w_rng1', PD.w_rng2, PD.w_rng2', PD.w_lrg1, PD.w_lrg1', PD.w_sl, PD.w_no, PD.w_part, PD.w_part', PD.w_newD, PD.w_putD, PD.w_inD, PD.w_getD, PD.w_maxD, PD.w_count, PD.w_for, PD.w_hSet, PD.w_appPop, PD.w_apD, forgetE, owL, putL, owD, putOD, frzE, initE, noPm, wipeE, sizeLine_eq, List.getElem?_cons_zero, List.getElem?_cons_succ, List.set_cons_zero, List.set_cons_succ, List.map_cons, List.map_nil, List.length_cons, List.length_nil, List.replicate, List.cons_append, List.nil_append, Option.bind_some, Option.bind_none, Option.map_some, Option.map_none, ite_true, ite_false, if_true, if_false, reduceCtorEq, Nat.reduceAdd, Nat.reduceSub, Nat.reduceLeDiff, Bool.and_true, Bool.true_and, Bool.and_false, Bool.false_and, Bool.or_true, Bool.true_or, Bool.or_false, Bool.false_or, Bool.not_true, Bool.not_false, decide_true, decide_false, Bool.false_eq_true, Int.reduceEq, Int.reduceBEq, Option.isSome_some, Option.isSome_none, List.all_cons, List.all_nil, and_self, and_true, true_and, getLast_app, dropLast_app, ev_is_whole, isW, atI_0, inS_kinds, int_two, c1]
    exact ⟨_, rfl⟩
  | true =>
    cases c2 : (k == a) with
    | true =>
      have e : knot (.tuple [.str k, y]) a = .bad := by
        cases y <;> first | rfl | (simp only [knot, kGood, c1, c2, Bool.not_true, Bool.and_false, Bool.false_and]; rfl)
      rw [e]
      unfold B_is_tree_1 ρT IsFalse
      simp only [PD.v_bind_ok, PD.v_bind_exc, PD.v_bind_stuck, PD.v_bindS_ok, PD.v_bindS_exc, PD.v_bindS_stuck, PD.v_of_some, PD.v_of_none, PD.v_seq_nx, PD.v_seq_rt, PD.v_seq_rn, PD.v_seq_bk, PD.v_seq_ct, PD.v_seq_exc, PD.v_seq_stuck, PD.v_ifS, PD.v_sel_t, PD.v_sel_f, PD.v_sel_exc, PD.v_sel_stuck, PD.v_if, PD.v_and, PD.v_or, PD.v_selR_t, PD.v_selR_f, PD.v_selR_exc, PD.v_selR_stuck, PD.v_not, PD.v_notR, PD.v_notR_exc, PD.v_test, PD.v_testR, PD.v_testR_exc, PD.v_andV, PD.v_orV, PD.v_selV_t, PD.v_selV_f, PD.v_notV, PD.v_notV', PD.v_chain, PD.v_chain_t, PD.v_chain_f, PD.v_add_i, PD.v_add_s, PD.v_add_l, PD.v_add_t, PD.v_cat, PD.v_sub, PD.v_mul, PD.v_div, PD.v_mod, PD.v_pow, PD.v_neg, PD.v_cmp, PD.v_eq_ii, PD.v_eq_bb, PD.v_eq_ss, PD.v_eq_nn, PD.v_ne_ii, PD.v_ne_bb, PD.v_ne_ss, PD.v_eq_ll, PD.v_eq_tt, PD.v_ne_ll, PD.v_ne_tt, PD.v_eq0, PD.v_in_t, PD.v_in_l, PD.v_flat_i, PD.v_flat_s, PD.v_flat_b, PD.v_flat_n, PD.v_isB, PD.v_isN_n, PD.v_isN_i, PD.v_isN_t, PD.v_isN_l, PD.v_isN_s, PD.v_ix_l, PD.v_ix_t, PD.v_ix_s, PD.v_slN, PD.v_slV_l, PD.v_slV_t, PD.v_slV_s, PD.v_len_l, PD.v_len_t, PD.v_len_s, PD.v_len_d, PD.v_list_l, PD.v_list_t, PD.v_tuple_l, PD.v_tuple_t, PD.v_sorted, PD.v_seqOf_l, PD.v_seqOf_t, PD.v_keyOf_i, PD.v_keyOf_s, PD.v_data_l, PD.v_data_d, PD.v_isi, PD.v_isi_int, PD.v_isi_bool, PD.v_isi_str, PD.v_isi_list, PD.v_isi_tuple, PD.i_int_i, PD.i_bool_i, PD.i_tuple_i, PD.i_tuple_t, PD.i_int_t, PD.i_list_l, PD.i_str_s, PD.i_bool_b, PD.v_hTup, PD.v_hCons, PD.v_hNil, PD.w_seq, PD.w_asg, PD.w_outO_s, PD.w_outO_n, PD.w_ret, PD.w_retN, PD.w_retV, PD.w_ret0, PD.w_V, PD.w_Vr, PD.w_C, PD.w_op, PD.w_un, PD.w_CB, PD.w_cons, PD.w_nil, PD.w_tup, PD.w_lst, PD.w_ob, PD.w_call, PD.w_new, PD.w_app, PD.w_ext, PD.w_pop, PD.w_popD, PD.w_putAt, PD.w_aug, PD.w_frz, PD.w_ahead, PD.w_forget, PD.w_forO_nx, PD.w_forO_bk, PD.w_forO_ct, PD.w_forO_rt, PD.w_forO_rn, PD.w_forO_exc, PD.w_drop, PD.w_next, PD.w_bk, PD.w_ct, PD.w_exc, PD.w_lc, PD.w_itL, PD.w_itl, PD.w_itT, PD.w_itt, PD.w_itV, PD.w_itv, PD.w_rng1, PD.w_rng1', PD.w_rng2, PD.w_rng2', PD.w_lrg1, PD.w_lrg1', PD.w_sl, PD.w_no, PD.w_part, PD.w_part', PD.w_newD, PD.w_putD, PD.w_inD, PD.w_getD, PD.w_maxD, PD.w_count, PD.w_for, PD.w_hSet, PD.w_appPop, PD.w_apD, forgetE, owL, putL, owD, putOD, frzE, initE, noPm, wipeE, sizeLine_eq, List.getElem?_cons_zero, List.getElem?_cons_succ, List.set_cons_zero, List.set_cons_succ, List.map_cons, List.map_nil, List.length_cons, List.length_nil, List.replicate, List.cons_append, List.nil_append, Option.bind_some, Option.bind_none, Option.map_some, Option.map_none, ite_true, ite_false, if_true, if_false, reduceCtorEq, Nat.reduceAdd, Nat.reduceSub, Nat.reduceLeDiff, Bool.and_true, Bool.true_and, Bool.and_false, Bool.false_and, Bool.or_true, Bool.true_or, Bool.or_false, Bool.false_or, Bool.not_true, Bool.not_false, decide_true, decide_false, Bool.false_eq_true, Int.reduceEq, Int.reduceBEq, Option.isSome_some, Option.isSome_none, List.all_cons, List.all_nil, and_self, and_true, true_and, getLast_app, dropLast_app, ev_is_whole, isW, atI_0, inS_kinds, int_two, c1, c2]
      exact ⟨_, rfl⟩
    | false =>
      by_cases hy : ∃ ps, y = .tuple ps
      · obtain ⟨ps, rfl⟩ := hy
        cases c3 : decide (2 ≤ ps.length) with
        | false =>
          have e : knot (.tuple [.str k, .tuple ps]) a = .bad := by simp only [knot, kGood, c1, c2, c3, Bool.and_false]; rfl
          rw [e]
          unfold B_is_tree_1 ρT IsFalse
          simp only [PD.v_bind_ok, PD.v_bind_exc, PD.v_bind_stuck, PD.v_bindS_ok, PD.v_bindS_exc, PD.v_bindS_stuck, PD.v_of_some, PD.v_of_none, PD.v_seq_nx, PD.v_seq_rt, PD.v_seq_rn, PD.v_seq_bk, PD.v_seq_ct, PD.v_seq_exc, PD.v_seq_stuck, PD.v_ifS, PD.v_sel_t, PD.v_sel_f, PD.v_sel_exc, PD.v_sel_stuck, PD.v_if, PD.v_and, PD.v_or, PD.v_selR_t, PD.v_selR_f, PD.v_selR_exc, PD.v_selR_stuck, PD.v_not, PD.v_notR, PD.v_notR_exc, PD.v_test, PD.v_testR, PD.v_testR_exc, PD.v_andV, PD.v_orV, PD.v_selV_t, PD.v_selV_f, PD.v_notV, PD.v_notV', PD.v_chain, PD.v_chain_t, PD.v_chain_f, PD.v_add_i, PD.v_add_s, PD.v_add_l, PD.v_add_t, PD.v_cat, PD.v_sub, PD.v_mul, PD.v_div, PD.v_mod, PD.v_pow, PD.v_neg, PD.v_cmp, PD.v_eq_ii, PD.v_eq_bb, PD.v_eq_ss, PD.v_eq_nn, PD.v_ne_ii, PD.v_ne_bb, PD.v_ne_ss, PD.v_eq_ll, PD.v_eq_tt, PD.v_ne_ll, PD.v_ne_tt, PD.v_eq0, PD.v_in_t, PD.v_in_l, PD.v_flat_i, PD.v_flat_s, PD.v_flat_b, PD.v_flat_n, PD.v_isB, PD.v_isN_n, PD.v_isN_i, PD.v_isN_t, PD.v_isN_l, PD.v_isN_s, PD.v_ix_l, PD.v_ix_t, PD.v_ix_s, PD.v_slN, PD.v_slV_l, PD.v_slV_t, PD.v_slV_s, PD.v_len_l, PD.v_len_t, PD.v_len_s, PD.v_len_d, PD.v_list_l, PD.v_list_t, PD.v_tuple_l, PD.v_tuple_t, PD.v_sorted, PD.v_seqOf_l, PD.v_seqOf_t, PD.v_keyOf_i, PD.v_keyOf_s, PD.v_data_l, PD.v_data_d, PD.v_isi, PD.v_isi_int, PD.v_isi_bool, PD.v_isi_str, PD.v_isi_list, PD.v_isi_tuple, PD.i_int_i, PD.i_bool_i, PD.i_tuple_i, PD.i_tuple_t, PD.i_int_t, PD.i_list_l, PD.i_str_s, PD.i_bool_b, PD.v_hTup, PD.v_hCons, PD.v_hNil, PD.w_seq, PD.w_asg, PD.w_outO_s, PD.w_outO_n, PD.w_ret, PD.w_retN, PD.w_retV, PD.w_ret0, PD.w_V, PD.w_Vr, PD.w_C, PD.w_op, PD.w_un, PD.w_CB, PD.w_cons, PD.w_nil, PD.w_tup, PD.w_lst, PD.w_ob, PD.w_call, PD.w_new, PD.w_app, PD.w_ext, PD.w_pop, PD.w_popD, PD.w_putAt, PD.w_aug, PD.w_frz, PD.w_ahead, PD.w_forget, PD.w_forO_nx, PD.w_forO_bk, PD.w_forO_ct, PD.w_forO_rt, PD.w_forO_rn, PD.w_forO_exc, PD.w_drop, PD.w_next, PD.w_bk, PD.w_ct, PD.w_exc, PD.w_lc, PD.w_itL, PD.w_itl, PD.w_itT, PD.w_itt, PD.w_itV, PD.w_itv, PD.w_rng1, PD.w_rng1', PD.w_rng2, PD.w_rng2', PD.w_lrg1, PD.w_lrg1', PD.w_sl, PD.w_no, PD.w_part, PD.w_part', PD.w_newD, PD.w_putD, PD.w_inD, PD.w_getD, PD.w_maxD, PD.w_count, PD.w_for, PD.w_hSet, PD.w_appPop, PD.w_apD, forgetE, owL, putL, owD, putOD, frzE, initE, noPm, wipeE, sizeLine_eq, List.getElem?_cons_zero, List.getElem?_cons_succ, List.set_cons_zero, List.set_cons_succ, List.map_cons, List.map_nil, List.length_cons, List.length_nil, List.replicate, List.cons_append, List.nil_append, Option.bind_some, Option.bind_none, Option.map_some, Option.map_none, ite_true, ite_false, if_true, if_false, reduceCtorEq, Nat.reduceAdd, Nat.reduceSub, Nat.reduceLeDiff, Bool.and_true, Bool.true_and, Bool.and_false, Bool.false_and, Bool.or_true, Bool.true_or, Bool.or_false, Bool.false_or, Bool.not_true, Bool.not_false, decide_true, decide_false, Bool.false_eq_true, Int.reduceEq, Int.reduceBEq, Option.isSome_some, Option.isSome_none, List.all_cons, List.all_nil, and_self, and_true, true_and, getLast_app, dropLast_app, ev_is_whole, isW, atI_0, inS_kinds, int_two, c1, c2, two_le, c3]
          exact ⟨_, rfl⟩
        | true =>
          have e : knot (.tuple [.str k, .tuple ps]) a = .more k ps := by simp only [knot, kGood, c1, c2, c3, Bool.and_true, Bool.not_false, if_true]
          rw [e]
          have hz' := hz ps rfl (by simp only [kGood, c1, c2, c3, Bool.and_true, Bool.not_false])
          have hm : ∀ ρ0 : PD.Env, ρ0 = [Ent.fr t, Ent.ow (Ob.d es), Ent.ow (Ob.l l), Ent.fr (PyData.tuple [PyData.str k, .tuple ps]), Ent.fr (PyData.str a), Ent.fr (PyData.str k), Ent.fr (.tuple ps), Ent.un] → lcF (hSet 7) dYes (dTup (dCons (dV 7) (dCons (dV 5) dNil))) ρ0 ps = some (ps.map fun d => .tuple [d, .str k]) := fun ρ0 e0 => lcF_map fun d _ => by
            subst e0
            exact ⟨[Ent.fr t, Ent.ow (Ob.d es), Ent.ow (Ob.l l), Ent.fr (PyData.tuple [PyData.str k, .tuple ps]), Ent.fr (PyData.str a), Ent.fr (PyData.str k), Ent.fr (.tuple ps), Ent.fr d], rfl, rfl⟩
          unfold B_is_tree_1 ρT
          simp only [PD.v_bind_ok, PD.v_bind_exc, PD.v_bind_stuck, PD.v_bindS_ok, PD.v_bindS_exc, PD.v_bindS_stuck, PD.v_of_some, PD.v_of_none, PD.v_seq_nx, PD.v_seq_rt, PD.v_seq_rn, PD.v_seq_bk, PD.v_seq_ct, PD.v_seq_exc, PD.v_seq_stuck, PD.v_ifS, PD.v_sel_t, PD.v_sel_f, PD.v_sel_exc, PD.v_sel_stuck, PD.v_if, PD.v_and, PD.v_or, PD.v_selR_t, PD.v_selR_f, PD.v_selR_exc, PD.v_selR_stuck, PD.v_not, PD.v_notR, PD.v_notR_exc, PD.v_test, PD.v_testR, PD.v_testR_exc, PD.v_andV, PD.v_orV, PD.v_selV_t, PD.v_selV_f, PD.v_notV, PD.v_notV', PD.v_chain, PD.v_chain_t, PD.v_chain_f, PD.v_add_i, PD.v_add_s, PD.v_add_l, PD.v_add_t, PD.v_cat, PD.v_sub, PD.v_mul, PD.v_div, PD.v_mod, PD.v_pow, PD.v_neg, PD.v_cmp, PD.v_eq_ii, PD.v_eq_bb, PD.v_eq_ss, PD.v_eq_nn, PD.v_ne_ii, PD.v_ne_bb, PD.v_ne_ss, PD.v_eq_ll, PD.v_eq_tt, PD.v_ne_ll, PD.v_ne_tt, PD.v_eq0, PD.v_in_t, PD.v_in_l, PD.v_flat_i, PD.v_flat_s, PD.v_flat_b, PD.v_flat_n, PD.v_isB, PD.v_isN_n, PD.v_isN_i, PD.v_isN_t, PD.v_isN_l, PD.v_isN_s, PD.v_ix_l, PD.v_ix_t, PD.v_ix_s, PD.v_slN, PD.v_slV_l, PD.v_slV_t, PD.v_slV_s, PD.v_len_l, PD.v_len_t, PD.v_len_s, PD.v_len_d, PD.v_list_l, PD.v_list_t, PD.v_tuple_l, PD.v_tuple_t, PD.v_sorted, PD.v_seqOf_l, PD.v_seqOf_t, PD.v_keyOf_i, PD.v_keyOf_s, PD.v_data_l, PD.v_data_d, PD.v_isi, PD.v_isi_int, PD.v_isi_bool, PD.v_isi_str, PD.v_isi_list, PD.v_isi_tuple, PD.i_int_i, PD.i_bool_i, PD.i_tuple_i, PD.i_tuple_t, PD.i_int_t, PD.i_list_l, PD.i_str_s, PD.i_bool_b, PD.v_hTup, PD.v_hCons, PD.v_hNil, PD.w_seq, PD.w_asg, PD.w_outO_s, PD.w_outO_n, PD.w_ret, PD.w_retN, PD.w_retV, PD.w_ret0, PD.w_V, PD.w_Vr, PD.w_C, PD.w_op, PD.w_un, PD.w_CB, PD.w_cons, PD.w_nil, PD.w_tup, PD.w_lst, PD.w_ob, PD.w_call, PD.w_new, PD.w_app, PD.w_ext, PD.w_pop, PD.w_popD, PD.w_putAt, PD.w_aug, PD.w_frz, PD.w_ahead, PD.w_forget, PD.w_forO_nx, PD.w_forO_bk, PD.w_forO_ct, PD.w_forO_rt, PD.w_forO_rn, PD.w_forO_exc, PD.w_drop, PD.w_next, PD.w_bk, PD.w_ct, PD.w_exc, PD.w_lc, PD.w_itL, PD.w_itl, PD.w_itT, PD.w_itt, PD.w_itV, PD.w_itv, PD.w_rng1, PD.w_rng1', PD.w_rng2, PD.w_rng2', PD.w_lrg1, PD.w_lrg1', PD.w_sl, PD.w_no, PD.w_part, PD.w_part', PD.w_newD, PD.w_putD, PD.w_inD, PD.w_getD, PD.w_maxD, PD.w_count, PD.w_for, PD.w_hSet, PD.w_appPop, PD.w_apD, forgetE, owL, putL, owD, putOD, frzE, initE, noPm, wipeE, sizeLine_eq, List.getElem?_cons_zero, List.getElem?_cons_succ, List.set_cons_zero, List.set_cons_succ, List.map_cons, List.map_nil, List.length_cons, List.length_nil, List.replicate, List.cons_append, List.nil_append, Option.bind_some, Option.bind_none, Option.map_some, Option.map_none, ite_true, ite_false, if_true, if_false, reduceCtorEq, Nat.reduceAdd, Nat.reduceSub, Nat.reduceLeDiff, Bool.and_true, Bool.true_and, Bool.and_false, Bool.false_and, Bool.or_true, Bool.true_or, Bool.or_false, Bool.false_or, Bool.not_true, Bool.not_false, decide_true, decide_false, Bool.false_eq_true, Int.reduceEq, Int.reduceBEq, Option.isSome_some, Option.isSome_none, List.all_cons, List.all_nil, and_self, and_true, true_and, getLast_app, dropLast_app, ev_is_whole, isW, atI_0, inS_kinds, int_two, c1, c2, two_le, c3, hm _ rfl, List.length_map, hz']
      · have hy' : ∀ ps, y ≠ .tuple ps := fun ps e => hy ⟨ps, e⟩
        rw [knot_two k y a hy']
        have hk : isiD "tuple" y = false := by cases y <;> first | rfl | exact absurd rfl (hy' _)
        unfold B_is_tree_1 ρT IsFalse
        simp only [PD.v_bind_ok, PD.v_bind_exc, PD.v_bind_stuck, PD.v_bindS_ok, PD.v_bindS_exc, PD.v_bindS_stuck, PD.v_of_some, PD.v_of_none, PD.v_seq_nx, PD.v_seq_rt, PD.v_seq_rn, PD.v_seq_bk, PD.v_seq_ct, PD.v_seq_exc, PD.v_seq_stuck, PD.v_ifS, PD.v_sel_t, PD.v_sel_f, PD.v_sel_exc, PD.v_sel_stuck, PD.v_if, PD.v_and, PD.v_or, PD.v_selR_t, PD.v_selR_f, PD.v_selR_exc, PD.v_selR_stuck, PD.v_not, PD.v_notR, PD.v_notR_exc, PD.v_test, PD.v_testR, PD.v_testR_exc, PD.v_andV, PD.v_orV, PD.v_selV_t, PD.v_selV_f, PD.v_notV, PD.v_notV', PD.v_chain, PD.v_chain_t, PD.v_chain_f, PD.v_add_i, PD.v_add_s, PD.v_add_l, PD.v_add_t, PD.v_cat, PD.v_sub, PD.v_mul, PD.v_div, PD.v_mod, PD.v_pow, PD.v_neg, PD.v_cmp, PD.v_eq_ii, PD.v_eq_bb, PD.v_eq_ss, PD.v_eq_nn, PD.v_ne_ii, PD.v_ne_bb, PD.v_ne_ss, PD.v_eq_ll, PD.v_eq_tt, PD.v_ne_ll, PD.v_ne_tt, PD.v_eq0, PD.v_in_t, PD.v_in_l, PD.v_flat_i, PD.v_flat_s, PD.v_flat_b, PD.v_flat_n, PD.v_isB, PD.v_isN_n, PD.v_isN_i, PD.v_isN_t, PD.v_isN_l, PD.v_isN_s, PD.v_ix_l, PD.v_ix_t, PD.v_ix_s, PD.v_slN, PD.v_slV_l, PD.v_slV_t, PD.v_slV_s, PD.v_len_l, PD.v_len_t, PD.v_len_s, PD.v_len_d, PD.v_list_l, PD.v_list_t, PD.v_tuple_l, PD.v_tuple_t, PD.v_sorted, PD.v_seqOf_l, PD.v_seqOf_t, PD.v_keyOf_i, PD.v_keyOf_s, PD.v_data_l, PD.v_data_d, PD.v_isi, PD.v_isi_int, PD.v_isi_bool, PD.v_isi_str, PD.v_isi_list, PD.v_isi_tuple, PD.i_int_i, PD.i_bool_i, PD.i_tuple_i, PD.i_tuple_t, PD.i_int_t, PD.i_list_l, PD.i_str_s, PD.i_bool_b, PD.v_hTup, PD.v_hCons, PD.v_hNil, PD.w_seq, PD.w_asg, PD.w_outO_s, PD.w_outO_n, PD.w_ret, PD.w_retN, PD.w_retV, PD.w_ret0, PD.w_V, PD.w_Vr, PD.w_C, PD.w_op, PD.w_un, PD.w_CB, PD.w_cons, PD.w_nil, PD.w_tup, PD.w_lst, PD.w_ob, PD.w_call, PD.w_new, PD.w_app, PD.w_ext, PD.w_pop, PD.w_popD, PD.w_putAt, PD.w_aug, PD.w_frz, PD.w_ahead, PD.w_forget, PD.w_forO_nx, PD.w_forO_bk, PD.w_forO_ct, PD.w_forO_rt, PD.w_forO_rn, PD.w_forO_exc, PD.w_drop, PD.w_next, PD.w_bk, PD.w_ct, PD.w_exc, PD.w_lc, PD.w_itL, PD.w_itl, PD.w_itT, PD.w_itt, PD.w_itV, PD.w_itv, PD.w_rng1, PD.w_rng1', PD.w_rng2, PD.w_rng2', PD.w_lrg1, PD.w_lrg1', PD.w_sl, PD.w_no, PD.w_part, PD.w_part', PD.w_newD, PD.w_putD, PD.w_inD, PD.w_getD, PD.w_maxD, PD.w_count, PD.w_for, PD.w_hSet, PD.w_appPop, PD.w_apD, forgetE, owL, putL, owD, putOD, frzE, initE, noPm, wipeE, sizeLine_eq, List.getElem?_cons_zero, List.getElem?_cons_succ, List.set_cons_zero, List.set_cons_succ, List.map_cons, List.map_nil, List.length_cons, List.length_nil, List.replicate, List.cons_append, List.nil_append, Option.bind_some, Option.bind_none, Option.map_some, Option.map_none, ite_true, ite_false, if_true, if_false, reduceCtorEq, Nat.reduceAdd, Nat.reduceSub, Nat.reduceLeDiff, Bool.and_true, Bool.true_and, Bool.and_false, Bool.false_and, Bool.or_true, Bool.true_or, Bool.or_false, Bool.false_or, Bool.not_true, Bool.not_false, decide_true, decide_false, Bool.false_eq_true, Int.reduceEq, Int.reduceBEq, Option.isSome_some, Option.isSome_none, List.all_cons, List.all_nil, and_self, and_true, true_and, getLast_app, dropLast_app, ev_is_whole, isW, atI_0, inS_kinds, int_two, c1, c2, hk]
        exact ⟨_, rfl⟩
/-- one turn of is_tree -/
theorem turnT (t : D) (es : List (Key × D)) (l : List D) (d : D) (a : Str) (he : es.length < 16777216) (hz : ∀ k ps, knot d a = .more k ps → l.length + ps.length ≤ 16777216) : match knot d a with
    | .num n => if bT es n = true then IsFalse (B_is_tree_1 (ρT t es (l ++ [.tuple [d, .str a]]))) else B_is_tree_1 (ρT t es (l ++ [.tuple [d, .str a]])) = .ct (ρT t (putD es (.inl n) (.bool true)) l)
    | .more k ps => B_is_tree_1 (ρT t es (l ++ [.tuple [d, .str a]])) = .nx (ρT t es (l ++ ps.map fun d => .tuple [d, .str k]))
    | .bad => IsFalse (B_is_tree_1 (ρT t es (l ++ [.tuple [d, .str a]]))) := by
  by_cases h1 : ∃ n, d = .int n
  · obtain ⟨n, rfl⟩ := h1
    simp only [knot]
    rw [bodyT_num t es l n a he]
    by_cases hb : bT es n = true
    · rw [if_pos hb, if_pos hb]; exact ⟨_, rfl⟩
    · rw [if_neg hb, if_neg hb]
  · by_cases h2 : ∃ ds, d = .tuple ds
    · obtain ⟨ds, rfl⟩ := h2
      by_cases hl : ds.length = 2
      · obtain ⟨x, y, rfl⟩ : ∃ x y, ds = [x, y] := by
          match ds, hl with
          | [x, y], _ => exact ⟨x, y, rfl⟩
        by_cases hx : ∃ k, x = .str k
        · obtain ⟨k, rfl⟩ := hx
          have q := bodyT_two t es l k y a (fun ps e hg => by
            subst e
            exact hz k ps (by simp only [knot, hg, if_true]))
          cases e : knot (.tuple [.str k, y]) a with
          | num n => cases y <;> (simp only [knot] at e) <;> (try cases e) ; split at e <;> cases e
          | more k2 ps => simp only [e] at q ⊢; exact q
          | bad => simp only [e] at q ⊢; exact q
        · have e : knot (.tuple [x, y]) a = .bad := by cases x <;> first | rfl | exact absurd ⟨_, rfl⟩ hx
          rw [e]
          exact bodyT_head t es l x y a fun k e => hx ⟨k, e⟩
      · have e : knot (.tuple ds) a = .bad := by
          match ds, hl with
          | [], _ => rfl
          | [x], _ => cases x <;> rfl
          | x :: y :: z :: r, _ => cases x <;> first | rfl | (cases y <;> rfl)
        rw [e]
        exact bodyT_len t es l ds a hl
    · have e : knot d a = .bad := by
        cases d <;> first | rfl | exact absurd ⟨_, rfl⟩ h1 | exact absurd ⟨_, rfl⟩ h2
      rw [e]
      exact bodyT_not t es l d a (fun n e => h1 ⟨n, e⟩) fun ds e => h2 ⟨ds, e⟩

end K33

set_option Elab.async false
set_option linter.all false
set_option maxRecDepth 100000
set_option maxHeartbeats 1000000
namespace K33
open PySem L2 PD
/-! a stack of knots, its weight, and the numbers that a walk over it meets -/
abbrev Stk := List (D × Str)
def lay (st : Stk) : List D := pl st.reverse
theorem lay_cons (d : D) (a : Str) (st : Stk) : lay ((d, a) :: st) = lay st ++ [.tuple [d, .str a]] := by
  unfold lay; rw [List.reverse_cons, pl_app]; rfl
theorem lay_len (st : Stk) : (lay st).length = st.length := by simp [lay, pl]
mutual
def wt : D → Nat
  | .tuple ds => 1 + wtL ds
  | .list ds => 1 + wtL ds
  | _ => 1
def wtL : List D → Nat
  | [] => 0
  | d :: ds => wt d + wtL ds
end
def wtS : Stk → Nat
  | [] => 0
  | (d, _) :: st => wt d + wtS st
theorem wt_pos (d : D) : 1 ≤ wt d := by cases d <;> simp [wt]
theorem wtS_app (s t : Stk) : wtS (s ++ t) = wtS s + wtS t := by
  induction s with
  | nil => simp [wtS]
  | cons x s ih => simp [wtS, ih, Nat.add_assoc]
theorem wtL_app (s t : List D) : wtL (s ++ t) = wtL s + wtL t := by
  induction s with
  | nil => simp [wtL]
  | cons x s ih => simp [wtL, ih, Nat.add_assoc]
theorem wtS_len (s : Stk) : s.length ≤ wtS s := by
  induction s with
  | nil => simp [wtS]
  | cons x s ih => have := wt_pos x.1; simp only [List.length_cons, wtS]; omega
theorem wtL_len (s : List D) : s.length ≤ wtL s := by
  induction s with
  | nil => simp [wtL]
  | cons x s ih => have := wt_pos x; simp only [List.length_cons, wtL]; omega
def push (k : Str) (ps : List D) : Stk := (ps.map fun d => (d, k)).reverse
theorem wtS_push (k : Str) (ps : List D) : wtS (push k ps) = wtL ps := by
  unfold push
  induction ps with
  | nil => rfl
  | cons p ps ih =>
    rw [List.map_cons, List.reverse_cons, wtS_app, ih]
    simp only [wtS, wtL]; omega
theorem lay_push (k : Str) (ps : List D) (st : Stk) : lay (push k ps ++ st) = lay st ++ ps.map fun d => .tuple [d, .str k] := by
  unfold lay push pl
  rw [List.reverse_append, List.reverse_reverse, List.map_append, List.map_map]
  rfl
theorem knot_more {d : D} {a k : Str} {ps : List D} (h : knot d a = .more k ps) : d = .tuple [.str k, .tuple ps] ∧ kGood k a ps = true := by
  unfold knot at h
  split at h
  · cases h
  · split at h
    · cases h; exact ⟨rfl, by assumption⟩
    · cases h
  · cases h
theorem knot_num {d : D} {a : Str} {n : Int} (h : knot d a = .num n) : d = .int n := by
  unfold knot at h
  split at h
  · cases h; rfl
  · split at h <;> cases h
  · cases h
theorem wt_knot (k : Str) (ps : List D) : wt (.tuple [.str k, .tuple ps]) = 3 + wtL ps := by
  simp only [wt, wtL]; omega
def visit : Nat → Stk → Option (List Int)
  | _, [] => some []
  | 0, _ => none
  | f + 1, (d, a) :: st => match knot d a with
    | .num n => (visit f st).map (n :: ·)
    | .more k ps => visit f (push k ps ++ st)
    | .bad => none
theorem visit_nil (f : Nat) : visit f [] = some [] := by cases f <;> rfl
theorem visit_mono : ∀ (f : Nat) (st : Stk) (ms : List Int), visit f st = some ms → visit (f + 1) st = some ms
  | _, [], ms, h => by rw [visit_nil] at h ⊢; exact h
  | 0, _ :: _, ms, h => by cases h
  | f + 1, (d, a) :: st, ms, h => by
    unfold visit at h ⊢
    cases e : knot d a with
    | num n =>
      simp only [e] at h ⊢
      cases q : visit f st with
      | none => rw [q] at h; cases h
      | some r => rw [q] at h; rw [visit_mono f st r q]; exact h
    | more k ps =>
      simp only [e] at h ⊢
      exact visit_mono f _ ms h
    | bad => simp only [e] at h; cases h
theorem visit_le {f g : Nat} {st : Stk} {ms : List Int} (h : visit f st = some ms) (l : f ≤ g) : visit g st = some ms := by
  induction l with
  | refl => exact h
  | step _ ih => exact visit_mono _ _ _ ih
theorem visit_ne {f : Nat} {st : Stk} {ms : List Int} (h : visit f st = some ms) (hn : st ≠ []) : ms ≠ [] := by
  induction f generalizing st ms with
  | zero => cases st with
    | nil => exact absurd rfl hn
    | cons x st => cases h
  | succ f ih =>
    match st, hn with
    | (d, a) :: st, _ =>
      unfold visit at h
      cases e : knot d a with
      | num n =>
        simp only [e] at h
        cases q : visit f st with
        | none => rw [q] at h; cases h
        | some r => rw [q] at h; cases h; exact List.cons_ne_nil _ _
      | more k ps =>
        simp only [e] at h
        refine ih h fun q => ?_
        have hk := (knot_more e).2
        have hl : (push k ps ++ st).length = 0 := by rw [q]; rfl
        rw [List.length_append] at hl
        have hp : (push k ps).length = ps.length := by unfold push; rw [List.length_reverse, List.length_map]
        have h2 : 2 ≤ ps.length := by
          unfold kGood at hk
          exact of_decide_eq_true (Bool.and_eq_true_iff.mp hk).2
        omega
      | bad => simp only [e] at h; cases h
/-! is_tree's numbers -/
def esOf (seen : List Int) : List (Key × D) := seen.map fun n => (.inl n, .bool true)
def badN (seen : List Int) (n : Int) : Bool := decide (n < 0) || (decide (24 ≤ n) || seen.contains n)
theorem esOf_look (seen : List Int) (n : Int) : (lookK ((esOf seen).map fun p => (keyD p.1, p.2)) (.inl n)).isSome = seen.contains n := by
  unfold lookK
  rw [Option.isSome_map]
  induction seen with
  | nil => rfl
  | cons m seen ih =>
    simp only [esOf, List.map_cons, List.find?_cons, List.contains_cons] at ih ⊢
    by_cases c : n = m
    · subst c; simp [keyD, PD.keyOf]
    · have c2 : ¬ m = n := fun e => c e.symm
      have e1 : decide (PD.keyOf (keyD (.inl m)) = some (.inl n)) = false := by simp [keyD, PD.keyOf, c2]
      have e2 : (n == m) = false := by simp [c]
      rw [e1, e2]
      simpa using ih
theorem bT_es (seen : List Int) (n : Int) : bT (esOf seen) n = badN seen n := by
  unfold bT badN; rw [esOf_look]
theorem putD_es (seen : List Int) (n : Int) (h : badN seen n = false) : putD (esOf seen) (.inl n) (.bool true) = esOf (seen ++ [n]) := by
  have hc : seen.contains n = false := by
    unfold badN at h
    exact (Bool.or_eq_false_iff.mp (Bool.or_eq_false_iff.mp h).2).2
  unfold putD
  have e : ((esOf seen).any fun e => decide (e.1 = (.inl n : Key))) = false := by
    rw [List.any_eq_false]
    intro x hx
    obtain ⟨m, hm, rfl⟩ := List.mem_map.mp hx
    have : m ≠ n := fun q => by subst q; rw [List.contains_iff_mem.mpr hm] at hc; cases hc
    simpa using this
  rw [e]
  simp [esOf]
theorem esOf_len (seen : List Int) : (esOf seen).length = seen.length := by simp [esOf]
def good (seen : List Int) : List Int → Bool
  | [] => true
  | n :: ms => !badN seen n && good (seen ++ [n]) ms
theorem lay_empty_false (d : D) (a : Str) (st : Stk) : (lay ((d, a) :: st)).isEmpty = false := by
  rw [lay_cons]; simp
theorem loopT (t : D) : ∀ (f : Nat) (st : Stk) (seen : List Int), wtS st ≤ f → seen.length + wtS st ≤ 16777216 →
    (∃ ms, visit f st = some ms ∧ good seen ms = true ∧ dWhile C_is_tree_1 B_is_tree_1 (ρT t (esOf seen) (lay st)) = .nx (ρT t (esOf (seen ++ ms)) [])) ∨
    ((∀ ms, visit f st = some ms → good seen ms = false) ∧ IsFalse (dWhile C_is_tree_1 B_is_tree_1 (ρT t (esOf seen) (lay st)))) := by
  intro f
  induction f with
  | zero =>
    intro st seen h1 h2
    match st with
    | [] =>
      refine .inl ⟨[], rfl, rfl, ?_⟩
      rw [dWhile_step, condT_eq, List.append_nil]; rfl
    | (d, a) :: st => have := wt_pos d; simp only [wtS] at h1; omega
  | succ f ih =>
    intro st seen h1 h2
    match st with
    | [] =>
      refine .inl ⟨[], rfl, rfl, ?_⟩
      rw [dWhile_step, condT_eq, List.append_nil]; rfl
    | (d, a) :: st =>
      have hw := wt_pos d
      simp only [wtS] at h1 h2
      rw [dWhile_step, condT_eq, lay_empty_false, lay_cons]
      simp only [Bool.not_false, Res.bindS, if_true]
      have T := turnT t (esOf seen) (lay st) d a (by rw [esOf_len]; omega) (fun k ps e => by
        have := (knot_more e).1
        subst this
        rw [wt_knot] at h2
        have := wtL_len ps
        have := wtS_len st
        rw [lay_len]; omega)
      unfold visit
      cases e : knot d a with
      | num n =>
        simp only [e, bT_es] at T ⊢
        cases hb : badN seen n with
        | true =>
          simp only [hb, if_true] at T
          obtain ⟨ρ, T⟩ := T
          refine .inr ⟨fun ms hm => ?_, ρ, by rw [T]⟩
          cases q : visit f st with
          | none => rw [q] at hm; cases hm
          | some r =>
            rw [q] at hm; cases hm
            simp only [good, hb, Bool.not_true, Bool.false_and]
        | false =>
          simp only [hb, Bool.false_eq_true, if_false, putD_es seen n hb] at T
          rw [T]
          rcases ih st (seen ++ [n]) (by omega) (by simp only [List.length_append, List.length_singleton]; omega) with ⟨ms, i1, i2, i3⟩ | ⟨i1, i2⟩
          · refine .inl ⟨n :: ms, by rw [i1]; rfl, by simp only [good, hb, i2, Bool.not_false, Bool.and_true], ?_⟩
            rw [List.append_assoc] at i3
            exact i3
          · refine .inr ⟨fun ms hm => ?_, i2⟩
            cases q : visit f st with
            | none => rw [q] at hm; cases hm
            | some r =>
              rw [q] at hm; cases hm
              simp only [good, i1 r q, Bool.and_false]
      | more k ps =>
        simp only [e] at T ⊢
        have hd := (knot_more e).1
        subst hd
        rw [wt_knot] at h1 h2
        rw [T, ← lay_push]
        exact ih (push k ps ++ st) seen (by rw [wtS_app, wtS_push]; omega) (by rw [wtS_app, wtS_push]; omega)
      | bad =>
        simp only [e] at T ⊢
        obtain ⟨ρ, T⟩ := T
        exact .inr ⟨fun ms hm => by simp at hm, ρ, by rw [T]⟩
theorem intsOf_es (ms : List Int) : intsOf (((esOf ms).map fun p => (keyD p.1, p.2)).map (·.1)) = some ms := by
  rw [← intsOf_map ms]
  unfold esOf
  rw [List.map_map, List.map_map]
  rfl
/-- what is_tree answers -/
theorem ev_is_tree (t : D) (hw : wt t ≤ 16777000) : f_is_tree [t] = .ok (.bool (match visit (wt t) [(t, "")] with
    | some ms => good [] ms && decide (maxI ms < ms.length)
    | none => false)) := by
  have L := loopT t (wt t) [(t, "")] [] (by simp [wtS]) (by simp [wtS]; omega)
  unfold f_is_tree funT F_is_tree
  have e0 : ρT t (esOf []) (lay [(t, "")]) = [.fr t, .ow (.d []), .ow (.l [.tuple [t, .str ""]]), .un, .un, .un, .un, .un] := rfl
  rw [e0] at L
  rcases L with ⟨ms, l1, l2, l3⟩ | ⟨l1, ρ, l3⟩
  · have hn := visit_ne l1 (by simp)
    obtain ⟨m, ms', rfl⟩ : ∃ m ms', ms = m :: ms' := by
      cases ms with
      | nil => exact absurd rfl hn
      | cons m ms' => exact ⟨m, ms', rfl⟩
    simp only [PD.v_bind_ok, PD.v_bind_exc, PD.v_bind_stuck, PD.v_bindS_ok, PD.v_bindS_exc, PD.v_bindS_stuck, PD.v_of_some, PD.v_of_none, PD.v_seq_nx, PD.v_seq_rt, PD.v_seq_rn, PD.v_seq_bk, PD.v_seq_ct, PD.v_seq_exc, PD.v_seq_stuck, PD.v_ifS, PD.v_sel_t, PD.v_sel_f, PD.v_sel_exc, PD.v_sel_stuck, PD.v_if, PD.v_and, PD.v_or, PD.v_selR_t, PD.v_selR_f, PD.v_selR_exc, PD.v_selR_stuck, PD.v_not, PD.v_notR, PD.v_notR_exc, PD.v_test, PD.v_testR, PD.v_testR_exc, PD.v_andV, PD.v_orV, PD.v_selV_t, PD.v_selV_f, PD.v_notV, PD.v_notV', PD.v_chain, PD.v_chain_t, PD.v_chain_f, PD.v_add_i, PD.v_add_s, PD.v_add_l, PD.v_add_t, PD.v_cat, PD.v_sub, PD.v_mul, PD.v_div, PD.v_mod, PD.v_pow, PD.v_neg, PD.v_cmp, PD.v_eq_ii, PD.v_eq_bb, PD.v_eq_ss, PD.v_eq_nn, PD.v_ne_ii, PD.v_ne_bb, PD.v_ne_ss, PD.v_eq_ll, PD.v_eq_tt, PD.v_ne_ll, PD.v_ne_tt, PD.v_eq0, PD.v_in_t, PD.v_in_l, PD.v_flat_i, PD.v_flat_s, PD.v_flat_b, PD.v_flat_n, PD.v_isB, PD.v_isN_n, PD.v_isN_i, PD.v_isN_t, PD.v_isN_l, PD.v_isN_s, PD.v_ix_l, PD.v_ix_t, PD.v_ix_s, PD.v_slN, PD.v_slV_l, PD.v_slV_t, PD.v_slV_s, PD.v_len_l, PD.v_len_t, PD.v_len_s, PD.v_len_d, PD.v_list_l, PD.v_list_t, PD.v_tuple_l, PD.v_tuple_t, PD.v_sorted, PD.v_seqOf_l, PD.v_seqOf_t, PD.v_keyOf_i, PD.v_keyOf_s, PD.v_data_l, PD.v_data_d, PD.v_isi, PD.v_isi_int, PD.v_isi_bool, PD.v_isi_str, PD.v_isi_list, PD.v_isi_tuple, PD.i_int_i, PD.i_bool_i, PD.i_tuple_i, PD.i_tuple_t, PD.i_int_t, PD.i_list_l, PD.i_str_s, PD.i_bool_b, PD.v_hTup, PD.v_hCons, PD.v_hNil, PD.w_seq, PD.w_asg, PD.w_outO_s, PD.w_outO_n, PD.w_ret, PD.w_retN, PD.w_retV, PD.w_ret0, PD.w_V, PD.w_Vr, PD.w_C, PD.w_op, PD.w_un, PD.w_CB, PD.w_cons, PD.w_nil, PD.w_tup, PD.w_lst, PD.w_ob, PD.w_call, PD.w_new, PD.w_app, PD.w_ext, PD.w_pop, PD.w_popD, PD.w_putAt, PD.w_aug, PD.w_frz, PD.w_ahead, PD.w_forget, PD.w_forO_nx, PD.w_forO_bk, PD.w_forO_ct, PD.w_forO_rt, PD.w_forO_rn, PD.w_forO_exc, PD.w_drop, PD.w_next, PD.w_bk, PD.w_ct, PD.w_exc, PD.w_lc, PD.w_itL, PD.w_itl, PD.w_itT, PD.w_itt, PD.w_itV, PD.w_itv, PD.w_rng1, PD.w_rng1', PD.w_rng2, PD.w_rng2', PD.w_lrg1, PD.w_lrg1', PD.w_sl, PD.w_no, PD.w_part, PD.w_part', PD.w_newD, PD.w_putD, PD.w_inD, PD.w_getD, PD.w_maxD, PD.w_count, PD.w_for, PD.w_hSet, PD.w_appPop, PD.w_apD, forgetE, owL, putL, owD, putOD, frzE, initE, noPm, wipeE, sizeLine_eq, List.getElem?_cons_zero, List.getElem?_cons_succ, List.set_cons_zero, List.set_cons_succ, List.map_cons, List.map_nil, List.length_cons, List.length_nil, List.replicate, List.cons_append, List.nil_append, Option.bind_some, Option.bind_none, Option.map_some, Option.map_none, ite_true, ite_false, if_true, if_false, reduceCtorEq, Nat.reduceAdd, Nat.reduceSub, Nat.reduceLeDiff, Bool.and_true, Bool.true_and, Bool.and_false, Bool.false_and, Bool.or_true, Bool.true_or, Bool.or_false, Bool.false_or, Bool.not_true, Bool.not_false, decide_true, decide_false, Bool.false_eq_true, Int.reduceEq, Int.reduceBEq, Option.isSome_some, Option.isSome_none, List.all_cons, List.all_nil, and_self, and_true, true_and, l3, List.nil_append]
    unfold ρT
    simp only [PD.v_bind_ok, PD.v_bind_exc, PD.v_bind_stuck, PD.v_bindS_ok, PD.v_bindS_exc, PD.v_bindS_stuck, PD.v_of_some, PD.v_of_none, PD.v_seq_nx, PD.v_seq_rt, PD.v_seq_rn, PD.v_seq_bk, PD.v_seq_ct, PD.v_seq_exc, PD.v_seq_stuck, PD.v_ifS, PD.v_sel_t, PD.v_sel_f, PD.v_sel_exc, PD.v_sel_stuck, PD.v_if, PD.v_and, PD.v_or, PD.v_selR_t, PD.v_selR_f, PD.v_selR_exc, PD.v_selR_stuck, PD.v_not, PD.v_notR, PD.v_notR_exc, PD.v_test, PD.v_testR, PD.v_testR_exc, PD.v_andV, PD.v_orV, PD.v_selV_t, PD.v_selV_f, PD.v_notV, PD.v_notV', PD.v_chain, PD.v_chain_t, PD.v_chain_f, PD.v_add_i, PD.v_add_s, PD.v_add_l, PD.v_add_t, PD.v_cat, PD.v_sub, PD.v_mul, PD.v_div, PD.v_mod, PD.v_pow, PD.v_neg, PD.v_cmp, PD.v_eq_ii, PD.v_eq_bb, PD.v_eq_ss, PD.v_eq_nn, PD.v_ne_ii, PD.v_ne_bb, PD.v_ne_ss, PD.v_eq_ll, PD.v_eq_tt, PD.v_ne_ll, PD.v_ne_tt, PD.v_eq0, PD.v_in_t, PD.v_in_l, PD.v_flat_i, PD.v_flat_s, PD.v_flat_b, PD.v_flat_n, PD.v_isB, PD.v_isN_n, PD.v_isN_i, PD.v_isN_t, PD.v_isN_l, PD.v_isN_s, PD.v_ix_l, PD.v_ix_t, PD.v_ix_s, PD.v_slN, PD.v_slV_l, PD.v_slV_t, PD.v_slV_s, PD.v_len_l, PD.v_len_t, PD.v_len_s, PD.v_len_d, PD.v_list_l, PD.v_list_t, PD.v_tuple_l, PD.v_tuple_t, PD.v_sorted, PD.v_seqOf_l, PD.v_seqOf_t, PD.v_keyOf_i, PD.v_keyOf_s, PD.v_data_l, PD.v_data_d, PD.v_isi, PD.v_isi_int, PD.v_isi_bool, PD.v_isi_str, PD.v_isi_list, PD.v_isi_tuple, PD.i_int_i, PD.i_bool_i, PD.i_tuple_i, PD.i_tuple_t, PD.i_int_t, PD.i_list_l, PD.i_str_s, PD.i_bool_b, PD.v_hTup, PD.v_hCons, PD.v_hNil, PD.w_seq, PD.w_asg, PD.w_outO_s, PD.w_outO_n, PD.w_ret, PD.w_retN, PD.w_retV, PD.w_ret0, PD.w_V, PD.w_Vr, PD.w_C, PD.w_op, PD.w_un, PD.w_CB, PD.w_cons, PD.w_nil, PD.w_tup, PD.w_lst, PD.w_ob, PD.w_call, PD.w_new, PD.w_app, PD.w_ext, PD.w_pop, PD.w_popD, PD.w_putAt, PD.w_aug, PD.w_frz, PD.w_ahead, PD.w_forget, PD.w_forO_nx, PD.w_forO_bk, PD.w_forO_ct, PD.w_forO_rt, PD.w_forO_rn, PD.w_forO_exc, PD.w_drop, PD.w_next, PD.w_bk, PD.w_ct, PD.w_exc, PD.w_lc, PD.w_itL, PD.w_itl, PD.w_itT, PD.w_itt, PD.w_itV, PD.w_itv, PD.w_rng1, PD.w_rng1', PD.w_rng2, PD.w_rng2', PD.w_lrg1, PD.w_lrg1', PD.w_sl, PD.w_no, PD.w_part, PD.w_part', PD.w_newD, PD.w_putD, PD.w_inD, PD.w_getD, PD.w_maxD, PD.w_count, PD.w_for, PD.w_hSet, PD.w_appPop, PD.w_apD, forgetE, owL, putL, owD, putOD, frzE, initE, noPm, wipeE, sizeLine_eq, List.getElem?_cons_zero, List.getElem?_cons_succ, List.set_cons_zero, List.set_cons_succ, List.map_cons, List.map_nil, List.length_cons, List.length_nil, List.replicate, List.cons_append, List.nil_append, Option.bind_some, Option.bind_none, Option.map_some, Option.map_none, ite_true, ite_false, if_true, if_false, reduceCtorEq, Nat.reduceAdd, Nat.reduceSub, Nat.reduceLeDiff, Bool.and_true, Bool.true_and, Bool.and_false, Bool.false_and, Bool.or_true, Bool.true_or, Bool.or_false, Bool.false_or, Bool.not_true, Bool.not_false, decide_true, decide_false, Bool.false_eq_true, Int.reduceEq, Int.reduceBEq, Option.isSome_some, Option.isSome_none, List.all_cons, List.all_nil, and_self, and_true, true_and, intsOf_es, List.length_map, esOf_len, PD.maxR, l1, l2]
  · simp only [PD.v_bind_ok, PD.v_bind_exc, PD.v_bind_stuck, PD.v_bindS_ok, PD.v_bindS_exc, PD.v_bindS_stuck, PD.v_of_some, PD.v_of_none, PD.v_seq_nx, PD.v_seq_rt, PD.v_seq_rn, PD.v_seq_bk, PD.v_seq_ct, PD.v_seq_exc, PD.v_seq_stuck, PD.v_ifS, PD.v_sel_t, PD.v_sel_f, PD.v_sel_exc, PD.v_sel_stuck, PD.v_if, PD.v_and, PD.v_or, PD.v_selR_t, PD.v_selR_f, PD.v_selR_exc, PD.v_selR_stuck, PD.v_not, PD.v_notR, PD.v_notR_exc, PD.v_test, PD.v_testR, PD.v_testR_exc, PD.v_andV, PD.v_orV, PD.v_selV_t, PD.v_selV_f, PD.v_notV, PD.v_notV', PD.v_chain, PD.v_chain_t, PD.v_chain_f, PD.v_add_i, PD.v_add_s, PD.v_add_l, PD.v_add_t, PD.v_cat, PD.v_sub, PD.v_mul, PD.v_div, PD.v_mod, PD.v_pow, PD.v_neg, PD.v_cmp, PD.v_eq_ii, PD.v_eq_bb, PD.v_eq_ss, PD.v_eq_nn, PD.v_ne_ii, PD.v_ne_bb, PD.v_ne_ss, PD.v_eq_ll, PD.v_eq_tt, PD.v_ne_ll, PD.v_ne_tt, PD.v_eq0, PD.v_in_t, PD.v_in_l, PD.v_flat_i, PD.v_flat_s, PD.v_flat_b, PD.v_flat_n, PD.v_isB, PD.v_isN_n, PD.v_isN_i, PD.v_isN_t, PD.v_isN_l, PD.v_isN_s, PD.v_ix_l, PD.v_ix_t, PD.v_ix_s, PD.v_slN, PD.v_slV_l, PD.v_slV_t, PD.v_slV_s, PD.v_len_l, PD.v_len_t, PD.v_len_s, PD.v_len_d, PD.v_list_l, PD.v_list_t, PD.v_tuple_l, PD.v_tuple_t, PD.v_sorted, PD.v_seqOf_l, PD.v_seqOf_t, PD.v_keyOf_i, PD.v_keyOf_s, PD.v_data_l, PD.v_data_d, PD.v_isi, PD.v_isi_int, PD.v_isi_bool, PD.v_isi_str, PD.v_isi_list, PD.v_isi_tuple, PD.i_int_i, PD.i_bool_i, PD.i_tuple_i, PD.i_tuple_t, PD.i_int_t, PD.i_list_l, PD.i_str_s, PD.i_bool_b, PD.v_hTup, PD.v_hCons, PD.v_hNil, PD.w_seq, PD.w_asg, PD.w_outO_s, PD.w_outO_n, PD.w_ret, PD.w_retN, PD.w_retV, PD.w_ret0, PD.w_V, PD.w_Vr, PD.w_C, PD.w_op, PD.w_un, PD.w_CB, PD.w_cons, PD.w_nil, PD.w_tup, PD.w_lst, PD.w_ob, PD.w_call, PD.w_new, PD.w_app, PD.w_ext, PD.w_pop, PD.w_popD, PD.w_putAt, PD.w_aug, PD.w_frz, PD.w_ahead, PD.w_forget, PD.w_forO_nx, PD.w_forO_bk, PD.w_forO_ct, PD.w_forO_rt, PD.w_forO_rn, PD.w_forO_exc, PD.w_drop, PD.w_next, PD.w_bk, PD.w_ct, PD.w_exc, PD.w_lc, PD.w_itL, PD.w_itl, PD.w_itT, PD.w_itt, PD.w_itV, PD.w_itv, PD.w_rng1, PD.w_rng1', PD.w_rng2, PD.w_rng2', PD.w_lrg1, PD.w_lrg1', PD.w_sl, PD.w_no, PD.w_part, PD.w_part', PD.w_newD, PD.w_putD, PD.w_inD, PD.w_getD, PD.w_maxD, PD.w_count, PD.w_for, PD.w_hSet, PD.w_appPop, PD.w_apD, forgetE, owL, putL, owD, putOD, frzE, initE, noPm, wipeE, sizeLine_eq, List.getElem?_cons_zero, List.getElem?_cons_succ, List.set_cons_zero, List.set_cons_succ, List.map_cons, List.map_nil, List.length_cons, List.length_nil, List.replicate, List.cons_append, List.nil_append, Option.bind_some, Option.bind_none, Option.map_some, Option.map_none, ite_true, ite_false, if_true, if_false, reduceCtorEq, Nat.reduceAdd, Nat.reduceSub, Nat.reduceLeDiff, Bool.and_true, Bool.true_and, Bool.and_false, Bool.false_and, Bool.or_true, Bool.true_or, Bool.or_false, Bool.false_or, Bool.not_true, Bool.not_false, decide_true, decide_false, Bool.false_eq_true, Int.reduceEq, Int.reduceBEq, Option.isSome_some, Option.isSome_none, List.all_cons, List.all_nil, and_self, and_true, true_and, l3]
    cases q : visit (wt t) [(t, "")] with
    | none => rfl
    | some ms => simp only [l1 ms q, Bool.false_and]

end K33

set_option Elab.async false
set_option linter.all false
set_option maxRecDepth 100000
set_option maxHeartbeats 1000000
namespace K33
open PySem L2 PD
/-! the law's own reading of a thing -/
def ρI (t : D) (l : List D) (ns : List Int) : PD.Env := [.fr t, .ow (.l l), .ow (.l (ns.map .int)), .un, .un, .un]
theorem condI_eq (t : D) (l : List D) (ns : List Int) : C__law_is_1 (ρI t l ns) = .ok (!l.isEmpty) := by
  unfold C__law_is_1 ρI
  simp only [PD.v_bind_ok, PD.v_bind_exc, PD.v_bind_stuck, PD.v_bindS_ok, PD.v_bindS_exc, PD.v_bindS_stuck, PD.v_of_some, PD.v_of_none, PD.v_seq_nx, PD.v_seq_rt, PD.v_seq_rn, PD.v_seq_bk, PD.v_seq_ct, PD.v_seq_exc, PD.v_seq_stuck, PD.v_ifS, PD.v_sel_t, PD.v_sel_f, PD.v_sel_exc, PD.v_sel_stuck, PD.v_if, PD.v_and, PD.v_or, PD.v_selR_t, PD.v_selR_f, PD.v_selR_exc, PD.v_selR_stuck, PD.v_not, PD.v_notR, PD.v_notR_exc, PD.v_test, PD.v_testR, PD.v_testR_exc, PD.v_andV, PD.v_orV, PD.v_selV_t, PD.v_selV_f, PD.v_notV, PD.v_notV', PD.v_chain, PD.v_chain_t, PD.v_chain_f, PD.v_add_i, PD.v_add_s, PD.v_add_l, PD.v_add_t, PD.v_cat, PD.v_sub, PD.v_mul, PD.v_div, PD.v_mod, PD.v_pow, PD.v_neg, PD.v_cmp, PD.v_eq_ii, PD.v_eq_bb, PD.v_eq_ss, PD.v_eq_nn, PD.v_ne_ii, PD.v_ne_bb, PD.v_ne_ss, PD.v_eq_ll, PD.v_eq_tt, PD.v_ne_ll, PD.v_ne_tt, PD.v_eq0, PD.v_in_t, PD.v_in_l, PD.v_flat_i, PD.v_flat_s, PD.v_flat_b, PD.v_flat_n, PD.v_isB, PD.v_isN_n, PD.v_isN_i, PD.v_isN_t, PD.v_isN_l, PD.v_isN_s, PD.v_ix_l, PD.v_ix_t, PD.v_ix_s, PD.v_slN, PD.v_slV_l, PD.v_slV_t, PD.v_slV_s, PD.v_len_l, PD.v_len_t, PD.v_len_s, PD.v_len_d, PD.v_list_l, PD.v_list_t, PD.v_tuple_l, PD.v_tuple_t, PD.v_sorted, PD.v_seqOf_l, PD.v_seqOf_t, PD.v_keyOf_i, PD.v_keyOf_s, PD.v_data_l, PD.v_data_d, PD.v_isi, PD.v_isi_int, PD.v_isi_bool, PD.v_isi_str, PD.v_isi_list, PD.v_isi_tuple, PD.i_int_i, PD.i_bool_i, PD.i_tuple_i, PD.i_tuple_t, PD.i_int_t, PD.i_list_l, PD.i_str_s, PD.i_bool_b, PD.v_hTup, PD.v_hCons, PD.v_hNil, PD.w_seq, PD.w_asg, PD.w_outO_s, PD.w_outO_n, PD.w_ret, PD.w_retN, PD.w_retV, PD.w_ret0, PD.w_V, PD.w_Vr, PD.w_C, PD.w_op, PD.w_un, PD.w_CB, PD.w_cons, PD.w_nil, PD.w_tup, PD.w_lst, PD.w_ob, PD.w_call, PD.w_new, PD.w_app, PD.w_ext, PD.w_pop, PD.w_popD, PD.w_putAt, PD.w_aug, PD.w_frz, PD.w_ahead, PD.w_forget, PD.w_forO_nx, PD.w_forO_bk, PD.w_forO_ct, PD.w_forO_rt, PD.w_forO_rn, PD.w_forO_exc, PD.w_drop, PD.w_next, PD.w_bk, PD.w_ct, PD.w_exc, PD.w_lc, PD.w_itL, PD.w_itl, PD.w_itT, PD.w_itt, PD.w_itV, PD.w_itv, PD.w_rng1, PD.w_rng1', PD.w_rng2, PD.w_rng2', PD.w_lrg1, PD.w_lrg1', PD.w_sl, PD.w_no, PD.w_part, PD.w_part', PD.w_newD, PD.w_putD, PD.w_inD, PD.w_getD, PD.w_maxD, PD.w_count, PD.w_for, PD.w_hSet, PD.w_appPop, PD.w_apD, forgetE, owL, putL, owD, putOD, frzE, initE, noPm, wipeE, sizeLine_eq, List.getElem?_cons_zero, List.getElem?_cons_succ, List.set_cons_zero, List.set_cons_succ, List.map_cons, List.map_nil, List.length_cons, List.length_nil, List.replicate, List.cons_append, List.nil_append, Option.bind_some, Option.bind_none, Option.map_some, Option.map_none, ite_true, ite_false, if_true, if_false, reduceCtorEq, Nat.reduceAdd, Nat.reduceSub, Nat.reduceLeDiff, Bool.and_true, Bool.true_and, Bool.and_false, Bool.false_and, Bool.or_true, Bool.true_or, Bool.or_false, Bool.false_or, Bool.not_true, Bool.not_false, decide_true, decide_false, Bool.false_eq_true, Int.reduceEq, Int.reduceBEq, Option.isSome_some, Option.isSome_none, List.all_cons, List.all_nil, and_self, and_true, true_and]
def stopN (ns : List Int) (n : Int) : Bool := decide (24 < ((ns.length : Nat) : Int) + 1) || decide ((1 : Int) < (((ns ++ [n]).count n : Nat) : Int))
theorem gt_lt (a b : Int) : decide (a > b) = decide (b < a) := rfl
theorem map_snoc (ns : List Int) (n : Int) : ns.map PyData.int ++ [.int n] = (ns ++ [n]).map .int := by rw [List.map_append]; rfl
theorem bodyI_num (t : D) (l : List D) (ns : List Int) (n : Int) (a : Str) (hz : ns.length < 16777216) :
    if stopN ns n = true then IsFalse (B__law_is_1 (ρI t (l ++ [.tuple [.int n, .str a]]) ns)) else B__law_is_1 (ρI t (l ++ [.tuple [.int n, .str a]]) ns) = .nx (ρI t l (ns ++ [n])) := by
  unfold stopN B__law_is_1 ρI IsFalse
  cases h1 : decide (24 < ((ns.length : Nat) : Int) + 1) with
  | true =>
    simp only [PD.v_bind_ok, PD.v_bind_exc, PD.v_bind_stuck, PD.v_bindS_ok, PD.v_bindS_exc, PD.v_bindS_stuck, PD.v_of_some, PD.v_of_none, PD.v_seq_nx, PD.v_seq_rt, PD.v_seq_rn, PD.v_seq_bk, PD.v_seq_ct, PD.v_seq_exc, PD.v_seq_stuck, PD.v_ifS, PD.v_sel_t, PD.v_sel_f, PD.v_sel_exc, PD.v_sel_stuck, PD.v_if, PD.v_and, PD.v_or, PD.v_selR_t, PD.v_selR_f, PD.v_selR_exc, PD.v_selR_stuck, PD.v_not, PD.v_notR, PD.v_notR_exc, PD.v_test, PD.v_testR, PD.v_testR_exc, PD.v_andV, PD.v_orV, PD.v_selV_t, PD.v_selV_f, PD.v_notV, PD.v_notV', PD.v_chain, PD.v_chain_t, PD.v_chain_f, PD.v_add_i, PD.v_add_s, PD.v_add_l, PD.v_add_t, PD.v_cat, PD.v_sub, PD.v_mul, PD.v_div, PD.v_mod, PD.v_pow, PD.v_neg, PD.v_cmp, PD.v_eq_ii, PD.v_eq_bb, PD.v_eq_ss, PD.v_eq_nn, PD.v_ne_ii, PD.v_ne_bb, PD.v_ne_ss, PD.v_eq_ll, PD.v_eq_tt, PD.v_ne_ll, PD.v_ne_tt, PD.v_eq0, PD.v_in_t, PD.v_in_l, PD.v_flat_i, PD.v_flat_s, PD.v_flat_b, PD.v_flat_n, PD.v_isB, PD.v_isN_n, PD.v_isN_i, PD.v_isN_t, PD.v_isN_l, PD.v_isN_s, PD.v_ix_l, PD.v_ix_t, PD.v_ix_s, PD.v_slN, PD.v_slV_l, PD.v_slV_t, PD.v_slV_s, PD.v_len_l, PD.v_len_t, PD.v_len_s, PD.v_len_d, PD.v_list_l, PD.v_list_t, PD.v_tuple_l, PD.v_tuple_t, PD.v_sorted, PD.v_seqOf_l, PD.v_seqOf_t, PD.v_keyOf_i, PD.v_keyOf_s, PD.v_data_l, PD.v_data_d, PD.v_isi, PD.v_isi_int, PD.v_isi_bool, PD.v_isi_str, PD.v_isi_list, PD.v_isi_tuple, PD.i_int_i, PD.i_bool_i, PD.i_tuple_i, PD.i_tuple_t, PD.i_int_t, PD.i_list_l, PD.i_str_s, PD.i_bool_b, PD.v_hTup, PD.v_hCons, PD.v_hNil, PD.w_seq, PD.w_asg, PD.w_outO_s, PD.w_outO_n, PD.w_ret, PD.w_retN, PD.w_retV, PD.w_ret0, PD.w_V, PD.w_Vr, PD.w_C, PD.w_op, PD.w_un, PD.w_CB, PD.w_cons, PD.w_nil, PD.w_tup, PD.w_lst, PD.w_ob, PD.w_call, PD.w_new, PD.w_app, PD.w_ext, PD.w_pop, PD.w_popD, PD.w_putAt, PD.w_aug, PD.w_frz, PD.w_ahead, PD.w_forget, PD.w_forO_nx, PD.w_forO_bk, PD.w_forO_ct, PD.w_forO_rt, PD.w_forO_rn, PD.w_forO_exc, PD.w_drop, PD.w_next, PD.w_bk, PD.w_ct, PD.w_exc, PD.w_lc, PD.w_itL, PD.w_itl, PD.w_itT, PD.w_itt, PD.w_itV, PD.w_itv, PD.w_rng1, PD.w_rng1', PD.w_rng2, PD.w_rng2', PD.w_lrg1, PD.w_lrg1', PD.w_sl, PD.w_no, PD.w_part, PD.w_part', PD.w_newD, PD.w_putD, PD.w_inD, PD.w_getD, PD.w_maxD, PD.w_count, PD.w_for, PD.w_hSet, PD.w_appPop, PD.w_apD, forgetE, owL, putL, owD, putOD, frzE, initE, noPm, wipeE, sizeLine_eq, List.getElem?_cons_zero, List.getElem?_cons_succ, List.set_cons_zero, List.set_cons_succ, List.map_cons, List.map_nil, List.length_cons, List.length_nil, List.replicate, List.cons_append, List.nil_append, Option.bind_some, Option.bind_none, Option.map_some, Option.map_none, ite_true, ite_false, if_true, if_false, reduceCtorEq, Nat.reduceAdd, Nat.reduceSub, Nat.reduceLeDiff, Bool.and_true, Bool.true_and, Bool.and_false, Bool.false_and, Bool.or_true, Bool.true_or, Bool.or_false, Bool.false_or, Bool.not_true, Bool.not_false, decide_true, decide_false, Bool.false_eq_true, Int.reduceEq, Int.reduceBEq, Option.isSome_some, Option.isSome_none, List.all_cons, List.all_nil, and_self, and_true, true_and, getLast_app, dropLast_app, ev_law_whole, isW, List.length_map, hz, List.length_append, List.length_singleton, Int.natCast_add, Int.natCast_one, gt_lt, h1]
    exact ⟨_, rfl⟩
  | false =>
    cases h2 : decide ((1 : Int) < (((ns ++ [n]).count n : Nat) : Int)) with
    | true =>
      simp only [PD.v_bind_ok, PD.v_bind_exc, PD.v_bind_stuck, PD.v_bindS_ok, PD.v_bindS_exc, PD.v_bindS_stuck, PD.v_of_some, PD.v_of_none, PD.v_seq_nx, PD.v_seq_rt, PD.v_seq_rn, PD.v_seq_bk, PD.v_seq_ct, PD.v_seq_exc, PD.v_seq_stuck, PD.v_ifS, PD.v_sel_t, PD.v_sel_f, PD.v_sel_exc, PD.v_sel_stuck, PD.v_if, PD.v_and, PD.v_or, PD.v_selR_t, PD.v_selR_f, PD.v_selR_exc, PD.v_selR_stuck, PD.v_not, PD.v_notR, PD.v_notR_exc, PD.v_test, PD.v_testR, PD.v_testR_exc, PD.v_andV, PD.v_orV, PD.v_selV_t, PD.v_selV_f, PD.v_notV, PD.v_notV', PD.v_chain, PD.v_chain_t, PD.v_chain_f, PD.v_add_i, PD.v_add_s, PD.v_add_l, PD.v_add_t, PD.v_cat, PD.v_sub, PD.v_mul, PD.v_div, PD.v_mod, PD.v_pow, PD.v_neg, PD.v_cmp, PD.v_eq_ii, PD.v_eq_bb, PD.v_eq_ss, PD.v_eq_nn, PD.v_ne_ii, PD.v_ne_bb, PD.v_ne_ss, PD.v_eq_ll, PD.v_eq_tt, PD.v_ne_ll, PD.v_ne_tt, PD.v_eq0, PD.v_in_t, PD.v_in_l, PD.v_flat_i, PD.v_flat_s, PD.v_flat_b, PD.v_flat_n, PD.v_isB, PD.v_isN_n, PD.v_isN_i, PD.v_isN_t, PD.v_isN_l, PD.v_isN_s, PD.v_ix_l, PD.v_ix_t, PD.v_ix_s, PD.v_slN, PD.v_slV_l, PD.v_slV_t, PD.v_slV_s, PD.v_len_l, PD.v_len_t, PD.v_len_s, PD.v_len_d, PD.v_list_l, PD.v_list_t, PD.v_tuple_l, PD.v_tuple_t, PD.v_sorted, PD.v_seqOf_l, PD.v_seqOf_t, PD.v_keyOf_i, PD.v_keyOf_s, PD.v_data_l, PD.v_data_d, PD.v_isi, PD.v_isi_int, PD.v_isi_bool, PD.v_isi_str, PD.v_isi_list, PD.v_isi_tuple, PD.i_int_i, PD.i_bool_i, PD.i_tuple_i, PD.i_tuple_t, PD.i_int_t, PD.i_list_l, PD.i_str_s, PD.i_bool_b, PD.v_hTup, PD.v_hCons, PD.v_hNil, PD.w_seq, PD.w_asg, PD.w_outO_s, PD.w_outO_n, PD.w_ret, PD.w_retN, PD.w_retV, PD.w_ret0, PD.w_V, PD.w_Vr, PD.w_C, PD.w_op, PD.w_un, PD.w_CB, PD.w_cons, PD.w_nil, PD.w_tup, PD.w_lst, PD.w_ob, PD.w_call, PD.w_new, PD.w_app, PD.w_ext, PD.w_pop, PD.w_popD, PD.w_putAt, PD.w_aug, PD.w_frz, PD.w_ahead, PD.w_forget, PD.w_forO_nx, PD.w_forO_bk, PD.w_forO_ct, PD.w_forO_rt, PD.w_forO_rn, PD.w_forO_exc, PD.w_drop, PD.w_next, PD.w_bk, PD.w_ct, PD.w_exc, PD.w_lc, PD.w_itL, PD.w_itl, PD.w_itT, PD.w_itt, PD.w_itV, PD.w_itv, PD.w_rng1, PD.w_rng1', PD.w_rng2, PD.w_rng2', PD.w_lrg1, PD.w_lrg1', PD.w_sl, PD.w_no, PD.w_part, PD.w_part', PD.w_newD, PD.w_putD, PD.w_inD, PD.w_getD, PD.w_maxD, PD.w_count, PD.w_for, PD.w_hSet, PD.w_appPop, PD.w_apD, forgetE, owL, putL, owD, putOD, frzE, initE, noPm, wipeE, sizeLine_eq, List.getElem?_cons_zero, List.getElem?_cons_succ, List.set_cons_zero, List.set_cons_succ, List.map_cons, List.map_nil, List.length_cons, List.length_nil, List.replicate, List.cons_append, List.nil_append, Option.bind_some, Option.bind_none, Option.map_some, Option.map_none, ite_true, ite_false, if_true, if_false, reduceCtorEq, Nat.reduceAdd, Nat.reduceSub, Nat.reduceLeDiff, Bool.and_true, Bool.true_and, Bool.and_false, Bool.false_and, Bool.or_true, Bool.true_or, Bool.or_false, Bool.false_or, Bool.not_true, Bool.not_false, decide_true, decide_false, Bool.false_eq_true, Int.reduceEq, Int.reduceBEq, Option.isSome_some, Option.isSome_none, List.all_cons, List.all_nil, and_self, and_true, true_and, getLast_app, dropLast_app, ev_law_whole, isW, List.length_map, hz, List.length_append, List.length_singleton, Int.natCast_add, Int.natCast_one, gt_lt, h1, map_snoc, intsOf_map, h2]
      exact ⟨_, rfl⟩
    | false =>
      simp only [PD.v_bind_ok, PD.v_bind_exc, PD.v_bind_stuck, PD.v_bindS_ok, PD.v_bindS_exc, PD.v_bindS_stuck, PD.v_of_some, PD.v_of_none, PD.v_seq_nx, PD.v_seq_rt, PD.v_seq_rn, PD.v_seq_bk, PD.v_seq_ct, PD.v_seq_exc, PD.v_seq_stuck, PD.v_ifS, PD.v_sel_t, PD.v_sel_f, PD.v_sel_exc, PD.v_sel_stuck, PD.v_if, PD.v_and, PD.v_or, PD.v_selR_t, PD.v_selR_f, PD.v_selR_exc, PD.v_selR_stuck, PD.v_not, PD.v_notR, PD.v_notR_exc, PD.v_test, PD.v_testR, PD.v_testR_exc, PD.v_andV, PD.v_orV, PD.v_selV_t, PD.v_selV_f, PD.v_notV, PD.v_notV', PD.v_chain, PD.v_chain_t, PD.v_chain_f, PD.v_add_i, PD.v_add_s, PD.v_add_l, PD.v_add_t, PD.v_cat, PD.v_sub, PD.v_mul, PD.v_div, PD.v_mod, PD.v_pow, PD.v_neg, PD.v_cmp, PD.v_eq_ii, PD.v_eq_bb, PD.v_eq_ss, PD.v_eq_nn, PD.v_ne_ii, PD.v_ne_bb, PD.v_ne_ss, PD.v_eq_ll, PD.v_eq_tt, PD.v_ne_ll, PD.v_ne_tt, PD.v_eq0, PD.v_in_t, PD.v_in_l, PD.v_flat_i, PD.v_flat_s, PD.v_flat_b, PD.v_flat_n, PD.v_isB, PD.v_isN_n, PD.v_isN_i, PD.v_isN_t, PD.v_isN_l, PD.v_isN_s, PD.v_ix_l, PD.v_ix_t, PD.v_ix_s, PD.v_slN, PD.v_slV_l, PD.v_slV_t, PD.v_slV_s, PD.v_len_l, PD.v_len_t, PD.v_len_s, PD.v_len_d, PD.v_list_l, PD.v_list_t, PD.v_tuple_l, PD.v_tuple_t, PD.v_sorted, PD.v_seqOf_l, PD.v_seqOf_t, PD.v_keyOf_i, PD.v_keyOf_s, PD.v_data_l, PD.v_data_d, PD.v_isi, PD.v_isi_int, PD.v_isi_bool, PD.v_isi_str, PD.v_isi_list, PD.v_isi_tuple, PD.i_int_i, PD.i_bool_i, PD.i_tuple_i, PD.i_tuple_t, PD.i_int_t, PD.i_list_l, PD.i_str_s, PD.i_bool_b, PD.v_hTup, PD.v_hCons, PD.v_hNil, PD.w_seq, PD.w_asg, PD.w_outO_s, PD.w_outO_n, PD.w_ret, PD.w_retN, PD.w_retV, PD.w_ret0, PD.w_V, PD.w_Vr, PD.w_C, PD.w_op, PD.w_un, PD.w_CB, PD.w_cons, PD.w_nil, PD.w_tup, PD.w_lst, PD.w_ob, PD.w_call, PD.w_new, PD.w_app, PD.w_ext, PD.w_pop, PD.w_popD, PD.w_putAt, PD.w_aug, PD.w_frz, PD.w_ahead, PD.w_forget, PD.w_forO_nx, PD.w_forO_bk, PD.w_forO_ct, PD.w_forO_rt, PD.w_forO_rn, PD.w_forO_exc, PD.w_drop, PD.w_next, PD.w_bk, PD.w_ct, PD.w_exc, PD.w_lc, PD.w_itL, PD.w_itl, PD.w_itT, PD.w_itt, PD.w_itV, PD.w_itv, PD.w_rng1, PD.w_rng1', PD.w_rng2, PD.w_rng2', PD.w_lrg1, PD.w_lrg1', PD.w_sl, PD.w_no, PD.w_part, PD.w_part', PD.w_newD, PD.w_putD, PD.w_inD, PD.w_getD, PD.w_maxD, PD.w_count, PD.w_for, PD.w_hSet, PD.w_appPop, PD.w_apD, forgetE, owL, putL, owD, putOD, frzE, initE, noPm, wipeE, sizeLine_eq, List.getElem?_cons_zero, List.getElem?_cons_succ, List.set_cons_zero, List.set_cons_succ, List.map_cons, List.map_nil, List.length_cons, List.length_nil, List.replicate, List.cons_append, List.nil_append, Option.bind_some, Option.bind_none, Option.map_some, Option.map_none, ite_true, ite_false, if_true, if_false, reduceCtorEq, Nat.reduceAdd, Nat.reduceSub, Nat.reduceLeDiff, Bool.and_true, Bool.true_and, Bool.and_false, Bool.false_and, Bool.or_true, Bool.true_or, Bool.or_false, Bool.false_or, Bool.not_true, Bool.not_false, decide_true, decide_false, Bool.false_eq_true, Int.reduceEq, Int.reduceBEq, Option.isSome_some, Option.isSome_none, List.all_cons, List.all_nil, and_self, and_true, true_and, getLast_app, dropLast_app, ev_law_whole, isW, List.length_map, hz, List.length_append, List.length_singleton, Int.natCast_add, Int.natCast_one, gt_lt, h1, map_snoc, intsOf_map, h2]
theorem bodyI_not (t : D) (ns : List Int) (l : List D) (d : D) (a : Str) (hi : ∀ n, d ≠ .int n) (ht : ∀ ds, d ≠ .tuple ds) : IsFalse (B__law_is_1 (ρI t (l ++ [.tuple [d, .str a]]) ns)) := by
  unfold B__law_is_1 ρI IsFalse
  have hw : isW d = false := by cases d <;> first | rfl | exact absurd rfl (hi _)
  have hk : isiD "tuple" d = false := by cases d <;> first | rfl | exact absurd rfl (ht _)
  simp only [PD.v_bind_ok, PD.v_bind_exc, PD.v_bind_stuck, PD.v_bindS_ok, PD.v_bindS_exc, PD.v_bindS_stuck, PD.v_of_some, PD.v_of_none, PD.v_seq_nx, PD.v_seq_rt, PD.v_seq_rn, PD.v_seq_bk, PD.v_seq_ct, PD.v_seq_exc, PD.v_seq_stuck, PD.v_ifS, PD.v_sel_t, PD.v_sel_f, PD.v_sel_exc, PD.v_sel_stuck, PD.v_if, PD.v_and, PD.v_or, PD.v_selR_t, PD.v_selR_f, PD.v_selR_exc, PD.v_selR_stuck, PD.v_not, PD.v_notR, PD.v_notR_exc, PD.v_test, PD.v_testR, PD.v_testR_exc, PD.v_andV, PD.v_orV, PD.v_selV_t, PD.v_selV_f, PD.v_notV, PD.v_notV', PD.v_chain, PD.v_chain_t, PD.v_chain_f, PD.v_add_i, PD.v_add_s, PD.v_add_l, PD.v_add_t, PD.v_cat, PD.v_sub, PD.v_mul, PD.v_div, PD.v_mod, PD.v_pow, PD.v_neg, PD.v_cmp, PD.v_eq_ii, PD.v_eq_bb, PD.v_eq_ss, PD.v_eq_nn, PD.v_ne_ii, PD.v_ne_bb, PD.v_ne_ss, PD.v_eq_ll, PD.v_eq_tt, PD.v_ne_ll, PD.v_ne_tt, PD.v_eq0, PD.v_in_t, PD.v_in_l, PD.v_flat_i, PD.v_flat_s, PD.v_flat_b, PD.v_flat_n, PD.v_isB, PD.v_isN_n, PD.v_isN_i, PD.v_isN_t, PD.v_isN_l, PD.v_isN_s, PD.v_ix_l, PD.v_ix_t, PD.v_ix_s, PD.v_slN, PD.v_slV_l, PD.v_slV_t, PD.v_slV_s, PD.v_len_l, PD.v_len_t, PD.v_len_s, PD.v_len_d, PD.v_list_l, PD.v_list_t, PD.v_tuple_l, PD.v_tuple_t, PD.v_sorted, PD.v_seqOf_l, PD.v_seqOf_t, PD.v_keyOf_i, PD.v_keyOf_s, PD.v_data_l, PD.v_data_d, PD.v_isi, PD.v_isi_int, PD.v_isi_bool, PD.v_isi_str, PD.v_isi_list, PD.v_isi_tuple, PD.i_int_i, PD.i_bool_i, PD.i_tuple_i, PD.i_tuple_t, PD.i_int_t, PD.i_list_l, PD.i_str_s, PD.i_bool_b, PD.v_hTup, PD.v_hCons, PD.v_hNil, PD.w_seq, PD.w_asg, PD.w_outO_s, PD.w_outO_n, PD.w_ret, PD.w_retN, PD.w_retV, PD.w_ret0, PD.w_V, PD.w_Vr, PD.w_C, PD.w_op, PD.w_un, PD.w_CB, PD.w_cons, PD.w_nil, PD.w_tup, PD.w_lst, PD.w_ob, PD.w_call, PD.w_new, PD.w_app, PD.w_ext, PD.w_pop, PD.w_popD, PD.w_putAt, PD.w_aug, PD.w_frz, PD.w_ahead, PD.w_forget, PD.w_forO_nx, PD.w_forO_bk, PD.w_forO_ct, PD.w_forO_rt, PD.w_forO_rn, PD.w_forO_exc, PD.w_drop, PD.w_next, PD.w_bk, PD.w_ct, PD.w_exc, PD.w_lc, PD.w_itL, PD.w_itl, PD.w_itT, PD.w_itt, PD.w_itV, PD.w_itv, PD.w_rng1, PD.w_rng1', PD.w_rng2, PD.w_rng2', PD.w_lrg1, PD.w_lrg1', PD.w_sl, PD.w_no, PD.w_part, PD.w_part', PD.w_newD, PD.w_putD, PD.w_inD, PD.w_getD, PD.w_maxD, PD.w_count, PD.w_for, PD.w_hSet, PD.w_appPop, PD.w_apD, forgetE, owL, putL, owD, putOD, frzE, initE, noPm, wipeE, sizeLine_eq, List.getElem?_cons_zero, List.getElem?_cons_succ, List.set_cons_zero, List.set_cons_succ, List.map_cons, List.map_nil, List.length_cons, List.length_nil, List.replicate, List.cons_append, List.nil_append, Option.bind_some, Option.bind_none, Option.map_some, Option.map_none, ite_true, ite_false, if_true, if_false, reduceCtorEq, Nat.reduceAdd, Nat.reduceSub, Nat.reduceLeDiff, Bool.and_true, Bool.true_and, Bool.and_false, Bool.false_and, Bool.or_true, Bool.true_or, Bool.or_false, Bool.false_or, Bool.not_true, Bool.not_false, decide_true, decide_false, Bool.false_eq_true, Int.reduceEq, Int.reduceBEq, Option.isSome_some, Option.isSome_none, List.all_cons, List.all_nil, and_self, and_true, true_and, getLast_app, dropLast_app, ev_law_whole, hw, hk]
  exact ⟨_, rfl⟩
theorem bodyI_len (t : D) (ns : List Int) (l : List D) (ds : List D) (a : Str) (h : ds.length ≠ 2) : IsFalse (B__law_is_1 (ρI t (l ++ [.tuple [.tuple ds, .str a]]) ns)) := by
  unfold B__law_is_1 ρI IsFalse
  have h2 : (((ds.length : Nat) : Int) == 2) = false := by rw [beq_eq_false_iff_ne]; omega
  simp only [PD.v_bind_ok, PD.v_bind_exc, PD.v_bind_stuck, PD.v_bindS_ok, PD.v_bindS_exc, PD.v_bindS_stuck, PD.v_of_some, PD.v_of_none, PD.v_seq_nx, PD.v_seq_rt, PD.v_seq_rn, PD.v_seq_bk, PD.v_seq_ct, PD.v_seq_exc, PD.v_seq_stuck, PD.v_ifS, PD.v_sel_t, PD.v_sel_f, PD.v_sel_exc, PD.v_sel_stuck, PD.v_if, PD.v_and, PD.v_or, PD.v_selR_t, PD.v_selR_f, PD.v_selR_exc, PD.v_selR_stuck, PD.v_not, PD.v_notR, PD.v_notR_exc, PD.v_test, PD.v_testR, PD.v_testR_exc, PD.v_andV, PD.v_orV, PD.v_selV_t, PD.v_selV_f, PD.v_notV, PD.v_notV', PD.v_chain, PD.v_chain_t, PD.v_chain_f, PD.v_add_i, PD.v_add_s, PD.v_add_l, PD.v_add_t, PD.v_cat, PD.v_sub, PD.v_mul, PD.v_div, PD.v_mod, PD.v_pow, PD.v_neg, PD.v_cmp, PD.v_eq_ii, PD.v_eq_bb, PD.v_eq_ss, PD.v_eq_nn, PD.v_ne_ii, PD.v_ne_bb, PD.v_ne_ss, PD.v_eq_ll, PD.v_eq_tt, PD.v_ne_ll, PD.v_ne_tt, PD.v_eq0, PD.v_in_t, PD.v_in_l, PD.v_flat_i, PD.v_flat_s, PD.v_flat_b, PD.v_flat_n, PD.v_isB, PD.v_isN_n, PD.v_isN_i, PD.v_isN_t, PD.v_isN_l, PD.v_isN_s, PD.v_ix_l, PD.v_ix_t, PD.v_ix_s, PD.v_slN, PD.v_slV_l, PD.v_slV_t, PD.v_slV_s, PD.v_len_l, PD.v_len_t, PD.v_len_s, PD.v_len_d, PD.v_list_l, PD.v_list_t, PD.v_tuple_l, PD.v_tuple_t, PD.v_sorted, PD.v_seqOf_l, PD.v_seqOf_t, PD.v_keyOf_i, PD.v_keyOf_s, PD.v_data_l, PD.v_data_d, PD.v_isi, PD.v_isi_int, PD.v_isi_bool, PD.v_isi_str, PD.v_isi_list, PD.v_isi_tuple, PD.i_int_i, PD.i_bool_i, PD.i_tuple_i, PD.i_tuple_t, PD.i_int_t, PD.i_list_l, PD.i_str_s, PD.i_bool_b, PD.v_hTup, PD.v_hCons, PD.v_hNil, PD.w_seq, PD.w_asg, PD.w_outO_s, PD.w_outO_n, PD.w_ret, PD.w_retN, PD.w_retV, PD.w_ret0, PD.w_V, PD.w_Vr, PD.w_C, PD.w_op, PD.w_un, PD.w_CB, PD.w_cons, PD.w_nil, PD.w_tup, PD.w_lst, PD.w_ob, PD.w_call, PD.w_new, PD.w_app, PD.w_ext, PD.w_pop, PD.w_popD, PD.w_putAt, PD.w_aug, PD.w_frz, PD.w_ahead, PD.w_forget, PD.w_forO_nx, PD.w_forO_bk, PD.w_forO_ct, PD.w_forO_rt, PD.w_forO_rn, PD.w_forO_exc, PD.w_drop, PD.w_next, PD.w_bk, PD.w_ct, PD.w_exc, PD.w_lc, PD.w_itL, PD.w_itl, PD.w_itT, PD.w_itt, PD.w_itV, PD.w_itv, PD.w_rng1, PD.w_rng1', PD.w_rng2, PD.w_rng2', PD.w_lrg1, PD.w_lrg1', PD.w_sl, PD.w_no, PD.w_part, PD.w_part', PD.w_newD, PD.w_putD, PD.w_inD, PD.w_getD, PD.w_maxD, PD.w_count, PD.w_for, PD.w_hSet, PD.w_appPop, PD.w_apD, forgetE, owL, putL, owD, putOD, frzE, initE, noPm, wipeE, sizeLine_eq, List.getElem?_cons_zero, List.getElem?_cons_succ, List.set_cons_zero, List.set_cons_succ, List.map_cons, List.map_nil, List.length_cons, List.length_nil, List.replicate, List.cons_append, List.nil_append, Option.bind_some, Option.bind_none, Option.map_some, Option.map_none, ite_true, ite_false, if_true, if_false, reduceCtorEq, Nat.reduceAdd, Nat.reduceSub, Nat.reduceLeDiff, Bool.and_true, Bool.true_and, Bool.and_false, Bool.false_and, Bool.or_true, Bool.true_or, Bool.or_false, Bool.false_or, Bool.not_true, Bool.not_false, decide_true, decide_false, Bool.false_eq_true, Int.reduceEq, Int.reduceBEq, Option.isSome_some, Option.isSome_none, List.all_cons, List.all_nil, and_self, and_true, true_and, getLast_app, dropLast_app, ev_law_whole, isW, h2]
  exact ⟨_, rfl⟩
theorem bodyI_head (t : D) (ns : List Int) (l : List D) (x y : D) (a : Str) (h : ∀ k, x ≠ .str k) : IsFalse (B__law_is_1 (ρI t (l ++ [.tuple [.tuple [x, y], .str a]]) ns)) := by
  unfold B__law_is_1 ρI IsFalse
  have h2 : isiD "str" x = false := by cases x <;> first | rfl | exact absurd rfl (h _)
  simp only [PD.v_bind_ok, PD.v_bind_exc, PD.v_bind_stuck, PD.v_bindS_ok, PD.v_bindS_exc, PD.v_bindS_stuck, PD.v_of_some, PD.v_of_none, PD.v_seq_nx, PD.v_seq_rt, PD.v_seq_rn, PD.v_seq_bk, PD.v_seq_ct, PD.v_seq_exc, PD.v_seq_stuck, PD.v_ifS, PD.v_sel_t, PD.v_sel_f, PD.v_sel_exc, PD.v_sel_stuck, PD.v_if, PD.v_and, PD.v_or, PD.v_selR_t, PD.v_selR_f, PD.v_selR_exc, PD.v_selR_stuck, PD.v_not, PD.v_notR, PD.v_notR_exc, PD.v_test, PD.v_testR, PD.v_testR_exc, PD.v_andV, PD.v_orV, PD.v_selV_t, PD.v_selV_f, PD.v_notV, PD.v_notV', PD.v_chain, PD.v_chain_t, PD.v_chain_f, PD.v_add_i, PD.v_add_s, PD.v_add_l, PD.v_add_t, PD.v_cat, PD.v_sub, PD.v_mul, PD.v_div, PD.v_mod, PD.v_pow, PD.v_neg, PD.v_cmp, PD.v_eq_ii, PD.v_eq_bb, PD.v_eq_ss, PD.v_eq_nn, PD.v_ne_ii, PD.v_ne_bb, PD.v_ne_ss, PD.v_eq_ll, PD.v_eq_tt, PD.v_ne_ll, PD.v_ne_tt, PD.v_eq0, PD.v_in_t, PD.v_in_l, PD.v_flat_i, PD.v_flat_s, PD.v_flat_b, PD.v_flat_n, PD.v_isB, PD.v_isN_n, PD.v_isN_i, PD.v_isN_t, PD.v_isN_l, PD.v_isN_s, PD.v_ix_l, PD.v_ix_t, PD.v_ix_s, PD.v_slN, PD.v_slV_l, PD.v_slV_t, PD.v_slV_s, PD.v_len_l, PD.v_len_t, PD.v_len_s, PD.v_len_d, PD.v_list_l, PD.v_list_t, PD.v_tuple_l, PD.v_tuple_t, PD.v_sorted, PD.v_seqOf_l, PD.v_seqOf_t, PD.v_keyOf_i, PD.v_keyOf_s, PD.v_data_l, PD.v_data_d, PD.v_isi, PD.v_isi_int, PD.v_isi_bool, PD.v_isi_str, PD.v_isi_list, PD.v_isi_tuple, PD.i_int_i, PD.i_bool_i, PD.i_tuple_i, PD.i_tuple_t, PD.i_int_t, PD.i_list_l, PD.i_str_s, PD.i_bool_b, PD.v_hTup, PD.v_hCons, PD.v_hNil, PD.w_seq, PD.w_asg, PD.w_outO_s, PD.w_outO_n, PD.w_ret, PD.w_retN, PD.w_retV, PD.w_ret0, PD.w_V, PD.w_Vr, PD.w_C, PD.w_op, PD.w_un, PD.w_CB, PD.w_cons, PD.w_nil, PD.w_tup, PD.w_lst, PD.w_ob, PD.w_call, PD.w_new, PD.w_app, PD.w_ext, PD.w_pop, PD.w_popD, PD.w_putAt, PD.w_aug, PD.w_frz, PD.w_ahead, PD.w_forget, PD.w_forO_nx, PD.w_forO_bk, PD.w_forO_ct, PD.w_forO_rt, PD.w_forO_rn, PD.w_forO_exc, PD.w_drop, PD.w_next, PD.w_bk, PD.w_ct, PD.w_exc, PD.w_lc, PD.w_itL, PD.w_itl, PD.w_itT, PD.w_itt, PD.w_itV, PD.w_itv, PD.w_rng1, PD.w_rng1', PD.w_rng2, PD.w_rng2', PD.w_lrg1, PD.w_lrg1', PD.w_sl, PD.w_no, PD.w_part, PD.w_part', PD.w_newD, PD.w_putD, PD.w_inD, PD.w_getD, PD.w_maxD, PD.w_count, PD.w_for, PD.w_hSet, PD.w_appPop, PD.w_apD, forgetE, owL, putL, owD, putOD, frzE, initE, noPm, wipeE, sizeLine_eq, List.getElem?_cons_zero, List.getElem?_cons_succ, List.set_cons_zero, List.set_cons_succ, List.map_cons, List.map_nil, List.length_cons, List.length_nil, List.replicate, List.cons_append, List.nil_append, Option.bind_some, Option.bind_none, Option.map_some, Option.map_none, ite_true, ite_false, if_true, if_false, reduceCtorEq, Nat.reduceAdd, Nat.reduceSub, Nat.reduceLeDiff, Bool.and_true, Bool.true_and, Bool.and_false, Bool.false_and, Bool.or_true, Bool.true_or, Bool.or_false, Bool.false_or, Bool.not_true, Bool.not_false, decide_true, decide_false, Bool.false_eq_true, Int.reduceEq, Int.reduceBEq, Option.isSome_some, Option.isSome_none, List.all_cons, List.all_nil, and_self, and_true, true_and, getLast_app, dropLast_app, ev_law_whole, isW, h2, atI_0, int_two]
  exact ⟨_, rfl⟩
theorem pushI (t : D) (ns : List Int) (k a : Str) (qs : List D) : ∀ (ps l : List D), l.length + ps.length ≤ 16777216 →
    forF (hSet 5) B__law_is_2 ps [.fr t, .ow (.l l), .ow (.l (ns.map .int)), .fr (.tuple [.str k, .tuple qs]), .fr (.str a), .un] = .nx [.fr t, .ow (.l (l ++ ps.map fun d => .tuple [d, .str k])), .ow (.l (ns.map .int)), .fr (.tuple [.str k, .tuple qs]), .fr (.str a), .un]
  | [], l, _ => by rw [List.map_nil, List.append_nil]; rfl
  | p :: ps, l, h => by
    have ih := pushI t ns k a qs ps (l ++ [.tuple [p, .str k]]) (by simp only [List.length_append, List.length_cons, List.length_nil] at h ⊢; omega)
    have hl : l.length < 16777216 := by simp only [List.length_cons] at h; omega
    unfold forF
    unfold B__law_is_2 at ih ⊢
    simp only [PD.v_bind_ok, PD.v_bind_exc, PD.v_bind_stuck, PD.v_bindS_ok, PD.v_bindS_exc, PD.v_bindS_stuck, PD.v_of_some, PD.v_of_none, PD.v_seq_nx, PD.v_seq_rt, PD.v_seq_rn, PD.v_seq_bk, PD.v_seq_ct, PD.v_seq_exc, PD.v_seq_stuck, PD.v_ifS, PD.v_sel_t, PD.v_sel_f, PD.v_sel_exc, PD.v_sel_stuck, PD.v_if, PD.v_and, PD.v_or, PD.v_selR_t, PD.v_selR_f, PD.v_selR_exc, PD.v_selR_stuck, PD.v_not, PD.v_notR, PD.v_notR_exc, PD.v_test, PD.v_testR, PD.v_testR_exc, PD.v_andV, PD.v_orV, PD.v_selV_t, PD.v_selV_f, PD.v_notV, PD.v_notV', PD.v_chain, PD.v_chain_t, PD.v_chain_f, PD.v_add_i, PD.v_add_s, PD.v_add_l, PD.v_add_t, PD.v_cat, PD.v_sub, PD.v_mul, PD.v_div, PD.v_mod, PD.v_pow, PD.v_neg, PD.v_cmp, PD.v_eq_ii, PD.v_eq_bb, PD.v_eq_ss, PD.v_eq_nn, PD.v_ne_ii, PD.v_ne_bb, PD.v_ne_ss, PD.v_eq_ll, PD.v_eq_tt, PD.v_ne_ll, PD.v_ne_tt, PD.v_eq0, PD.v_in_t, PD.v_in_l, PD.v_flat_i, PD.v_flat_s, PD.v_flat_b, PD.v_flat_n, PD.v_isB, PD.v_isN_n, PD.v_isN_i, PD.v_isN_t, PD.v_isN_l, PD.v_isN_s, PD.v_ix_l, PD.v_ix_t, PD.v_ix_s, PD.v_slN, PD.v_slV_l, PD.v_slV_t, PD.v_slV_s, PD.v_len_l, PD.v_len_t, PD.v_len_s, PD.v_len_d, PD.v_list_l, PD.v_list_t, PD.v_tuple_l, PD.v_tuple_t, PD.v_sorted, PD.v_seqOf_l, PD.v_seqOf_t, PD.v_keyOf_i, PD.v_keyOf_s, PD.v_data_l, PD.v_data_d, PD.v_isi, PD.v_isi_int, PD.v_isi_bool, PD.v_isi_str, PD.v_isi_list, PD.v_isi_tuple, PD.i_int_i, PD.i_bool_i, PD.i_tuple_i, PD.i_tuple_t, PD.i_int_t, PD.i_list_l, PD.i_str_s, PD.i_bool_b, PD.v_hTup, PD.v_hCons, PD.v_hNil, PD.w_seq, PD.w_asg, PD.w_outO_s, PD.w_outO_n, PD.w_ret, PD.w_retN, PD.w_retV, PD.w_ret0, PD.w_V, PD.w_Vr, PD.w_C, PD.w_op, PD.w_un, PD.w_CB, PD.w_cons, PD.w_nil, PD.w_tup, PD.w_lst, PD.w_ob, PD.w_call, PD.w_new, PD.w_app, PD.w_ext, PD.w_pop, PD.w_popD, PD.w_putAt, PD.w_aug, PD.w_frz, PD.w_ahead, PD.w_forget, PD.w_forO_nx, PD.w_forO_bk, PD.w_forO_ct, PD.w_forO_rt, PD.w_forO_rn, PD.w_forO_exc, PD.w_drop, PD.w_next, PD.w_bk, PD.w_ct, PD.w_exc, PD.w_lc, PD.w_itL, PD.w_itl, PD.w_itT, PD.w_itt, PD.w_itV, PD.w_itv, PD.w_rng1, PD.w_rng1', PD.w_rng2, PD.w_rng2', PD.w_lrg1, PD.w_lrg1', PD.w_sl, PD.w_no, PD.w_part, PD.w_part', PD.w_newD, PD.w_putD, PD.w_inD, PD.w_getD, PD.w_maxD, PD.w_count, PD.w_for, PD.w_hSet, PD.w_appPop, PD.w_apD, forgetE, owL, putL, owD, putOD, frzE, initE, noPm, wipeE, sizeLine_eq, List.getElem?_cons_zero, List.getElem?_cons_succ, List.set_cons_zero, List.set_cons_succ, List.map_cons, List.map_nil, List.length_cons, List.length_nil, List.replicate, List.cons_append, List.nil_append, Option.bind_some, Option.bind_none, Option.map_some, Option.map_none, ite_true, ite_false, if_true, if_false, reduceCtorEq, Nat.reduceAdd, Nat.reduceSub, Nat.reduceLeDiff, Bool.and_true, Bool.true_and, Bool.and_false, Bool.false_and, Bool.or_true, Bool.true_or, Bool.or_false, Bool.false_or, Bool.not_true, Bool.not_false, decide_true, decide_false, Bool.false_eq_true, Int.reduceEq, Int.reduceBEq, Option.isSome_some, Option.isSome_none, List.all_cons, List.all_nil, and_self, and_true, true_and, atI_0, hl]
    rw [ih, List.append_assoc]
    rfl
theorem bodyI_two (t : D) (ns : List Int) (l : List D) (k : Str) (y : D) (a : Str) (hz : ∀ ps, y = .tuple ps → kGood k a ps = true → l.length + ps.length ≤ 16777216) : match knot (.tuple [.str k, y]) a with
    | .more k2 ps => B__law_is_1 (ρI t (l ++ [.tuple [.tuple [.str k, y], .str a]]) ns) = .nx (ρI t (l ++ ps.map fun d => .tuple [d, .str k2]) ns)
    | _ => IsFalse (B__law_is_1 (ρI t (l ++ [.tuple [.tuple [.str k, y], .str a]]) ns)) := by
  cases c1 : (k == ("|" : Str) || k == ("-" : Str)) with
  | false =>
    have e : knot (.tuple [.str k, y]) a = .bad := by
      cases y <;> first | rfl | (simp only [knot, kGood, c1, Bool.false_and]; rfl)
    rw [e]
    unfold B__law_is_1 ρI IsFalse
    simp only [PD.v_bind_ok, PD.v_bind_exc, PD.v_bind_stuck, PD.v_bindS_ok, PD.v_bindS_exc, PD.v_bindS_stuck, PD.v_of_some, PD.v_of_none, PD.v_seq_nx, PD.v_seq_rt, PD.v_seq_rn, PD.v_seq_bk, PD.v_seq_ct, PD.v_seq_exc, PD.v_seq_stuck, PD.v_ifS, PD.v_sel_t, PD.v_sel_f, PD.v_sel_exc, PD.v_sel_stuck, PD.v_if, PD.v_and, PD.v_or, PD.v_selR_t, PD.v_selR_f, PD.v_selR_exc, PD.v_selR_stuck, PD.v_not, PD.v_notR, PD.v_notR_exc, PD.v_test, PD.v_testR, PD.v_testR_exc, PD.v_andV, PD.v_orV, PD.v_selV_t, PD.v_selV_f, PD.v_notV, PD.v_notV', PD.v_chain, PD.v_chain_t, PD.v_chain_f, PD.v_add_i, PD.v_add_s, PD.v_add_l, PD.v_add_t, PD.v_cat, PD.v_sub, PD.v_mul, PD.v_div, PD.v_mod, PD.v_pow, PD.v_neg, PD.v_cmp, PD.v_eq_ii, PD.v_eq_bb, PD.v_eq_ss, PD.v_eq_nn, PD.v_ne_ii, PD.v_ne_bb, PD.v_ne_ss, PD.v_eq_ll, PD.v_eq_tt, PD.v_ne_ll, PD.v_ne_tt, PD.v_eq0, PD.v_in_t, PD.v_in_l, PD.v_flat_i, PD.v_flat_s, PD.v_flat_b, PD.v_flat_n, PD.v_isB, PD.v_isN_n, PD.v_isN_i, PD.v_isN_t, PD.v_isN_l, PD.v_isN_s, PD.v_ix_l, PD.v_ix_t, PD.v_ix_s, PD.v_slN, PD.v_slV_l, PD.v_slV_t, PD.v_slV_s, PD.v_len_l, PD.v_len_t, PD.v_len_s, PD.v_len_d, PD.v_list_l, PD.v_list_t, PD.v_tuple_l, PD.v_tuple_t, PD.v_sorted, PD.v_seqOf_l, PD.v_seqOf_t, PD.v_keyOf_i, PD.v_keyOf_s, PD.v_data_l, PD.v_data_d, PD.v_isi, PD.v_isi_int, PD.v_isi_bool, PD.v_isi_str, PD.v_isi_list, PD.v_isi_tuple, PD.i_int_i, PD.i_bool_i, PD.i_tuple_i, PD.i_tuple_t, PD.i_int_t, PD.i_list_l, PD.i_str_s, PD.i_bool_b, PD.v_hTup, PD.v_hCons, PD.v_hNil, PD.w_seq, PD.w_asg, PD.w_outO_s, PD.w_outO_n, PD.w_ret, PD.w_retN, PD.w_retV, PD.w_ret0, PD.w_V, PD.w_Vr, PD.w_C, PD.w_op, PD.w_un, PD.w_CB, PD.w_cons, PD.w_nil, PD.w_tup, PD.w_lst, PD.w_ob, PD.w_call, PD.w_new, PD.w_app, PD.w_ext, PD.w_pop, PD.w_popD, PD.w_putAt, PD.w_aug, PD.w_frz, PD.w_ahead, PD.w_forget, PD.w_forO_nx, PD.w_forO_bk, PD.w_forO_ct, PD.w_forO_rt, PD.w_forO_rn, PD.w_forO_exc, PD.w_drop, PD.w_next, PD.w_bk, PD.w_ct, PD.w_exc, PD.w_lc, PD.w_itL, PD.w_itl, PD.w_itT, PD.w_itt, PD.w_itV, PD.w_itv, PD.w_rng1, PD.w_rng1', PD.w_rng2, PD.w_rng2', PD.w_lrg1, PD.w_lrg1', PD.w_sl, PD.w_no, PD.w_part, PD.w_part', PD.w_newD, PD.w_putD, PD.w_inD, PD.w_getD, PD.w_maxD, PD.w_count, PD.w_for, PD.w_hSet, PD.w_appPop, PD.w_apD, forgetE, owL, putL, owD, putOD, frzE, initE, noPm, wipeE, sizeLine_eq, List.getElem?_cons_zero, List.getElem?_cons_succ, List.set_cons_zero, List.set_cons_succ, List.map_cons, List.map_nil, List.length_cons, List.length_nil, List.replicate, List.cons_append, List.nil_append, Option.bind_some, Option.bind_none, Option.map_some, Option.map_none, ite_true, ite_false, if_true, if_false, reduceCtorEq, Nat.reduceAdd, Nat.reduceSub, Nat.reduceLeDiff, Bool.and_true, Bool.true_and, Bool.and_false, Bool.false_and, Bool.or_true, Bool.true_or, Bool.or_false, Bool.false_or, Bool.not_true, Bool.not_false, decide_true, decide_false, Bool.false_eq_true, Int.reduceEq, Int.reduceBEq, Option.isSome_some, Option.isSome_none, List.all_cons, List.all_nil, and_self, and_true, true_and, getLast_app, dropLast_app, ev_law_whole, isW, atI_0, inS_kinds, int_two, c1]
    exact ⟨_, rfl⟩
  | true =>
    cases c2 : (k == a) with
    | true =>
      have e : knot (.tuple [.str k, y]) a = .bad := by
        cases y <;> first | rfl | (simp only [knot, kGood, c1, c2, Bool.not_true, Bool.and_false, Bool.false_and]; rfl)
      rw [e]
      unfold B__law_is_1 ρI IsFalse
      simp only [PD.v_bind_ok, PD.v_bind_exc, PD.v_bind_stuck, PD.v_bindS_ok, PD.v_bindS_exc, PD.v_bindS_stuck, PD.v_of_some, PD.v_of_none, PD.v_seq_nx, PD.v_seq_rt, PD.v_seq_rn, PD.v_seq_bk, PD.v_seq_ct, PD.v_seq_exc, PD.v_seq_stuck, PD.v_ifS, PD.v_sel_t, PD.v_sel_f, PD.v_sel_exc, PD.v_sel_stuck, PD.v_if, PD.v_and, PD.v_or, PD.v_selR_t, PD.v_selR_f, PD.v_selR_exc, PD.v_selR_stuck, PD.v_not, PD.v_notR, PD.v_notR_exc, PD.v_test, PD.v_testR, PD.v_testR_exc, PD.v_andV, PD.v_orV, PD.v_selV_t, PD.v_selV_f, PD.v_notV, PD.v_notV', PD.v_chain, PD.v_chain_t, PD.v_chain_f, PD.v_add_i, PD.v_add_s, PD.v_add_l, PD.v_add_t, PD.v_cat, PD.v_sub, PD.v_mul, PD.v_div, PD.v_mod, PD.v_pow, PD.v_neg, PD.v_cmp, PD.v_eq_ii, PD.v_eq_bb, PD.v_eq_ss, PD.v_eq_nn, PD.v_ne_ii, PD.v_ne_bb, PD.v_ne_ss, PD.v_eq_ll, PD.v_eq_tt, PD.v_ne_ll, PD.v_ne_tt, PD.v_eq0, PD.v_in_t, PD.v_in_l, PD.v_flat_i, PD.v_flat_s, PD.v_flat_b, PD.v_flat_n, PD.v_isB, PD.v_isN_n, PD.v_isN_i, PD.v_isN_t, PD.v_isN_l, PD.v_isN_s, PD.v_ix_l, PD.v_ix_t, PD.v_ix_s, PD.v_slN, PD.v_slV_l, PD.v_slV_t, PD.v_slV_s, PD.v_len_l, PD.v_len_t, PD.v_len_s, PD.v_len_d, PD.v_list_l, PD.v_list_t, PD.v_tuple_l, PD.v_tuple_t, PD.v_sorted, PD.v_seqOf_l, PD.v_seqOf_t, PD.v_keyOf_i, PD.v_keyOf_s, PD.v_data_l, PD.v_data_d, PD.v_isi, PD.v_isi_int, PD.v_isi_bool, PD.v_isi_str, PD.v_isi_list, PD.v_isi_tuple, PD.i_int_i, PD.i_bool_i, PD.i_tuple_i, PD.i_tuple_t, PD.i_int_t, PD.i_list_l, PD.i_str_s, PD.i_bool_b, PD.v_hTup, PD.v_hCons, PD.v_hNil, PD.w_seq, PD.w_asg, PD.w_outO_s, PD.w_outO_n, PD.w_ret, PD.w_retN, PD.w_retV, PD.w_ret0, PD.w_V, PD.w_Vr, PD.w_C, PD.w_op, PD.w_un, PD.w_CB, PD.w_cons, PD.w_nil, PD.w_tup, PD.w_lst, PD.w_ob, PD.w_call, PD.w_new, PD.w_app, PD.w_ext, PD.w_pop, PD.w_popD, PD.w_putAt, PD.w_aug, PD.w_frz, PD.w_ahead, PD.w_forget, PD.w_forO_nx, PD.w_forO_bk, PD.w_forO_ct, PD.w_forO_rt, PD.w_forO_rn, PD.w_forO_exc, PD.w_drop, PD.w_next, PD.w_bk, PD.w_ct, PD.w_exc, PD.w_lc, PD.w_itL, PD.w_itl, PD.w_itT, PD.w_itt, PD.w_itV, PD.w_itv, PD.w_rng1, PD.w_rng1', PD.w_rng2, PD.w_rng2', PD.w_lrg1, PD.w_lrg1', PD.w_sl, PD.w_no, PD.w_part, PD.w_part', PD.w_newD, PD.w_putD, PD.w_inD, PD.w_getD, PD.w_maxD, PD.w_count, PD.w_for, PD.w_hSet, PD.w_appPop, PD.w_apD, forgetE, owL, putL, owD, putOD, frzE, initE, noPm, wipeE, sizeLine_eq, List.getElem?_cons_zero, List.getElem?_cons_succ, List.set_cons_zero, List.set_cons_succ, List.map_cons, List.map_nil, List.length_cons, List.length_nil, List.replicate, List.cons_append, List.nil_append, Option.bind_some, Option.bind_none, Option.map_some, Option.map_none, ite_true, ite_false, if_true, if_false, reduceCtorEq, Nat.reduceAdd, Nat.reduceSub, Nat.reduceLeDiff, Bool.and_true, Bool.true_and, Bool.and_false, Bool.false_and, Bool.or_true, Bool.true_or, Bool.or_false, Bool.false_or, Bool.not_true, Bool.not_false, decide_true, decide_false, Bool.false_eq_true, Int.reduceEq, Int.reduceBEq, Option.isSome_some, Option.isSome_none, List.all_cons, List.all_nil, and_self, and_true, true_and, getLast_app, dropLast_app, ev_law_whole, isW, atI_0, inS_kinds, int_two, c1, c2]
      exact ⟨_, rfl⟩
    | false =>
      by_cases hy : ∃ ps, y = .tuple ps
      · obtain ⟨ps, rfl⟩ := hy
        cases c3 : decide (2 ≤ ps.length) with
        | false =>
          have e : knot (.tuple [.str k, .tuple ps]) a = .bad := by simp only [knot, kGood, c1, c2, c3, Bool.and_false]; rfl
          rw [e]
          unfold B__law_is_1 ρI IsFalse
          simp only [PD.v_bind_ok, PD.v_bind_exc, PD.v_bind_stuck, PD.v_bindS_ok, PD.v_bindS_exc, PD.v_bindS_stuck, PD.v_of_some, PD.v_of_none, PD.v_seq_nx, PD.v_seq_rt, PD.v_seq_rn, PD.v_seq_bk, PD.v_seq_ct, PD.v_seq_exc, PD.v_seq_stuck, PD.v_ifS, PD.v_sel_t, PD.v_sel_f, PD.v_sel_exc, PD.v_sel_stuck, PD.v_if, PD.v_and, PD.v_or, PD.v_selR_t, PD.v_selR_f, PD.v_selR_exc, PD.v_selR_stuck, PD.v_not, PD.v_notR, PD.v_notR_exc, PD.v_test, PD.v_testR, PD.v_testR_exc, PD.v_andV, PD.v_orV, PD.v_selV_t, PD.v_selV_f, PD.v_notV, PD.v_notV', PD.v_chain, PD.v_chain_t, PD.v_chain_f, PD.v_add_i, PD.v_add_s, PD.v_add_l, PD.v_add_t, PD.v_cat, PD.v_sub, PD.v_mul, PD.v_div, PD.v_mod, PD.v_pow, PD.v_neg, PD.v_cmp, PD.v_eq_ii, PD.v_eq_bb, PD.v_eq_ss, PD.v_eq_nn, PD.v_ne_ii, PD.v_ne_bb, PD.v_ne_ss, PD.v_eq_ll, PD.v_eq_tt, PD.v_ne_ll, PD.v_ne_tt, PD.v_eq0, PD.v_in_t, PD.v_in_l, PD.v_flat_i, PD.v_flat_s, PD.v_flat_b, PD.v_flat_n, PD.v_isB, PD.v_isN_n, PD.v_isN_i, PD.v_isN_t, PD.v_isN_l, PD.v_isN_s, PD.v_ix_l, PD.v_ix_t, PD.v_ix_s, PD.v_slN, PD.v_slV_l, PD.v_slV_t, PD.v_slV_s, PD.v_len_l, PD.v_len_t, PD.v_len_s, PD.v_len_d, PD.v_list_l, PD.v_list_t, PD.v_tuple_l, PD.v_tuple_t, PD.v_sorted, PD.v_seqOf_l, PD.v_seqOf_t, PD.v_keyOf_i, PD.v_keyOf_s, PD.v_data_l, PD.v_data_d, PD.v_isi, PD.v_isi_int, PD.v_isi_bool, PD.v_isi_str, PD.v_isi_list, PD.v_isi_tuple, PD.i_int_i, PD.i_bool_i, PD.i_tuple_i, PD.i_tuple_t, PD.i_int_t, PD.i_list_l, PD.i_str_s, PD.i_bool_b, PD.v_hTup, PD.v_hCons, PD.v_hNil, PD.w_seq, PD.w_asg, PD.w_outO_s, PD.w_outO_n, PD.w_ret, PD.w_retN, PD.w_retV, PD.w_ret0, PD.w_V, PD.w_Vr, PD.w_C, PD.w_op, PD.w_un, PD.w_CB, PD.w_cons, PD.w_nil, PD.w_tup, PD.w_lst, PD.w_ob, PD.w_call, PD.w_new, PD.w_app, PD.w_ext, PD.w_pop, PD.w_popD, PD.w_putAt, PD.w_aug, PD.w_frz, PD.w_ahead, PD.w_forget, PD.w_forO_nx, PD.w_forO_bk, PD.w_forO_ct, PD.w_forO_rt, PD.w_forO_rn, PD.w_forO_exc, PD.w_drop, PD.w_next, PD.w_bk, PD.w_ct, PD.w_exc, PD.w_lc, PD.w_itL, PD.w_itl, PD.w_itT, PD.w_itt, PD.w_itV, PD.w_itv, PD.w_rng1, PD.w_rng1', PD.w_rng2, PD.w_rng2', PD.w_lrg1, PD.w_lrg1', PD.w_sl, PD.w_no, PD.w_part, PD.w_part', PD.w_newD, PD.w_putD, PD.w_inD, PD.w_getD, PD.w_maxD, PD.w_count, PD.w_for, PD.w_hSet, PD.w_appPop, PD.w_apD, forgetE, owL, putL, owD, putOD, frzE, initE, noPm, wipeE, sizeLine_eq, List.getElem?_cons_zero, List.getElem?_cons_succ, List.set_cons_zero, List.set_cons_succ, List.map_cons, List.map_nil, List.length_cons, List.length_nil, List.replicate, List.cons_append, List.nil_append, Option.bind_some, Option.bind_none, Option.map_some, Option.map_none, ite_true, ite_false, if_true, if_false, reduceCtorEq, Nat.reduceAdd, Nat.reduceSub, Nat.reduceLeDiff, Bool.and_true, Bool.true_and, Bool.and_false, Bool.false_and, Bool.or_true, Bool.true_or, Bool.or_false, Bool.false_or, Bool.not_true, Bool.not_false, decide_true, decide_false, Bool.false_eq_true, Int.reduceEq, Int.reduceBEq, Option.isSome_some, Option.isSome_none, List.all_cons, List.all_nil, and_self, and_true, true_and, getLast_app, dropLast_app, ev_law_whole, isW, atI_0, atI_1, inS_kinds, int_two, c1, c2, two_le, c3]
          exact ⟨_, rfl⟩
        | true =>
          have e : knot (.tuple [.str k, .tuple ps]) a = .more k ps := by simp only [knot, kGood, c1, c2, c3, Bool.and_true, Bool.not_false, if_true]
          rw [e]
          have hz' := hz ps rfl (by simp only [kGood, c1, c2, c3, Bool.and_true, Bool.not_false])
          unfold B__law_is_1 ρI
          simp only [PD.v_bind_ok, PD.v_bind_exc, PD.v_bind_stuck, PD.v_bindS_ok, PD.v_bindS_exc, PD.v_bindS_stuck, PD.v_of_some, PD.v_of_none, PD.v_seq_nx, PD.v_seq_rt, PD.v_seq_rn, PD.v_seq_bk, PD.v_seq_ct, PD.v_seq_exc, PD.v_seq_stuck, PD.v_ifS, PD.v_sel_t, PD.v_sel_f, PD.v_sel_exc, PD.v_sel_stuck, PD.v_if, PD.v_and, PD.v_or, PD.v_selR_t, PD.v_selR_f, PD.v_selR_exc, PD.v_selR_stuck, PD.v_not, PD.v_notR, PD.v_notR_exc, PD.v_test, PD.v_testR, PD.v_testR_exc, PD.v_andV, PD.v_orV, PD.v_selV_t, PD.v_selV_f, PD.v_notV, PD.v_notV', PD.v_chain, PD.v_chain_t, PD.v_chain_f, PD.v_add_i, PD.v_add_s, PD.v_add_l, PD.v_add_t, PD.v_cat, PD.v_sub, PD.v_mul, PD.v_div, PD.v_mod, PD.v_pow, PD.v_neg, PD.v_cmp, PD.v_eq_ii, PD.v_eq_bb, PD.v_eq_ss, PD.v_eq_nn, PD.v_ne_ii, PD.v_ne_bb, PD.v_ne_ss, PD.v_eq_ll, PD.v_eq_tt, PD.v_ne_ll, PD.v_ne_tt, PD.v_eq0, PD.v_in_t, PD.v_in_l, PD.v_flat_i, PD.v_flat_s, PD.v_flat_b, PD.v_flat_n, PD.v_isB, PD.v_isN_n, PD.v_isN_i, PD.v_isN_t, PD.v_isN_l, PD.v_isN_s, PD.v_ix_l, PD.v_ix_t, PD.v_ix_s, PD.v_slN, PD.v_slV_l, PD.v_slV_t, PD.v_slV_s, PD.v_len_l, PD.v_len_t, PD.v_len_s, PD.v_len_d, PD.v_list_l, PD.v_list_t, PD.v_tuple_l, PD.v_tuple_t, PD.v_sorted, PD.v_seqOf_l, PD.v_seqOf_t, PD.v_keyOf_i, PD.v_keyOf_s, PD.v_data_l, PD.v_data_d, PD.v_isi, PD.v_isi_int, PD.v_isi_bool, PD.v_isi_str, PD.v_isi_list, PD.v_isi_tuple, PD.i_int_i, PD.i_bool_i, PD.i_tuple_i, PD.i_tuple_t, PD.i_int_t, PD.i_list_l, PD.i_str_s, PD.i_bool_b, PD.v_hTup, PD.v_hCons, PD.v_hNil, PD.w_seq, PD.w_asg, PD.w_outO_s, PD.w_outO_n, PD.w_ret, PD.w_retN, PD.w_retV, PD.w_ret0, PD.w_V, PD.w_Vr, PD.w_C, PD.w_op, PD.w_un, PD.w_CB, PD.w_cons, PD.w_nil, PD.w_tup, PD.w_lst, PD.w_ob, PD.w_call, PD.w_new, PD.w_app, PD.w_ext, PD.w_pop, PD.w_popD, PD.w_putAt, PD.w_aug, PD.w_frz, PD.w_ahead, PD.w_forget, PD.w_forO_nx, PD.w_forO_bk, PD.w_forO_ct, PD.w_forO_rt, PD.w_forO_rn, PD.w_forO_exc, PD.w_drop, PD.w_next, PD.w_bk, PD.w_ct, PD.w_exc, PD.w_lc, PD.w_itL, PD.w_itl, PD.w_itT, PD.w_itt, PD.w_itV, PD.w_itv, PD.w_rng1, PD.w_rng1', PD.w_rng2, PD.w_rng2', PD.w_lrg1, PD.w_lrg1', PD.w_sl, PD.w_no, PD.w_part, PD.w_part', PD.w_newD, PD.w_putD, PD.w_inD, PD.w_getD, PD.w_maxD, PD.w_count, PD.w_for, PD.w_hSet, PD.w_appPop, PD.w_apD, forgetE, owL, putL, owD, putOD, frzE, initE, noPm, wipeE, sizeLine_eq, List.getElem?_cons_zero, List.getElem?_cons_succ, List.set_cons_zero, List.set_cons_succ, List.map_cons, List.map_nil, List.length_cons, List.length_nil, List.replicate, List.cons_append, List.nil_append, Option.bind_some, Option.bind_none, Option.map_some, Option.map_none, ite_true, ite_false, if_true, if_false, reduceCtorEq, Nat.reduceAdd, Nat.reduceSub, Nat.reduceLeDiff, Bool.and_true, Bool.true_and, Bool.and_false, Bool.false_and, Bool.or_true, Bool.true_or, Bool.or_false, Bool.false_or, Bool.not_true, Bool.not_false, decide_true, decide_false, Bool.false_eq_true, Int.reduceEq, Int.reduceBEq, Option.isSome_some, Option.isSome_none, List.all_cons, List.all_nil, and_self, and_true, true_and, getLast_app, dropLast_app, ev_law_whole, isW, atI_0, atI_1, inS_kinds, int_two, c1, c2, two_le, c3, pushI t ns k a ps ps l hz']
      · have hy' : ∀ ps, y ≠ .tuple ps := fun ps e => hy ⟨ps, e⟩
        rw [knot_two k y a hy']
        have hk : isiD "tuple" y = false := by cases y <;> first | rfl | exact absurd rfl (hy' _)
        unfold B__law_is_1 ρI IsFalse
        simp only [PD.v_bind_ok, PD.v_bind_exc, PD.v_bind_stuck, PD.v_bindS_ok, PD.v_bindS_exc, PD.v_bindS_stuck, PD.v_of_some, PD.v_of_none, PD.v_seq_nx, PD.v_seq_rt, PD.v_seq_rn, PD.v_seq_bk, PD.v_seq_ct, PD.v_seq_exc, PD.v_seq_stuck, PD.v_ifS, PD.v_sel_t, PD.v_sel_f, PD.v_sel_exc, PD.v_sel_stuck, PD.v_if, PD.v_and, PD.v_or, PD.v_selR_t, PD.v_selR_f, PD.v_selR_exc, PD.v_selR_stuck, PD.v_not, PD.v_notR, PD.v_notR_exc, PD.v_test, PD.v_testR, PD.v_testR_exc, PD.v_andV, PD.v_orV, PD.v_selV_t, PD.v_selV_f, PD.v_notV, PD.v_notV', PD.v_chain, PD.v_chain_t, PD.v_chain_f, PD.v_add_i, PD.v_add_s, PD.v_add_l, PD.v_add_t, PD.v_cat, PD.v_sub, PD.v_mul, PD.v_div, PD.v_mod, PD.v_pow, PD.v_neg, PD.v_cmp, PD.v_eq_ii, PD.v_eq_bb, PD.v_eq_ss, PD.v_eq_nn, PD.v_ne_ii, PD.v_ne_bb, PD.v_ne_ss, PD.v_eq_ll, PD.v_eq_tt, PD.v_ne_ll, PD.v_ne_tt, PD.v_eq0, PD.v_in_t, PD.v_in_l, PD.v_flat_i, PD.v_flat_s, PD.v_flat_b, PD.v_flat_n, PD.v_isB, PD.v_isN_n, PD.v_isN_i, PD.v_isN_t, PD.v_isN_l, PD.v_isN_s, PD.v_ix_l, PD.v_ix_t, PD.v_ix_s, PD.v_slN, PD.v_slV_l, PD.v_slV_t, PD.v_slV_s, PD.v_len_l, PD.v_len_t, PD.v_len_s, PD.v_len_d, PD.v_list_l, PD.v_list_t, PD.v_tuple_l, PD.v_tuple_t, PD.v_sorted, PD.v_seqOf_l, PD.v_seqOf_t, PD.v_keyOf_i, PD.v_keyOf_s, PD.v_data_l, PD.v_data_d, PD.v_isi, PD.v_isi_int, PD.v_isi_bool, PD.v_isi_str, PD.v_isi_list, PD.v_isi_tuple, PD.i_int_i, PD.i_bool_i, PD.i_tuple_i, PD.i_tuple_t, PD.i_int_t, PD.i_list_l, PD.i_str_s, PD.i_bool_b, PD.v_hTup, PD.v_hCons, PD.v_hNil, PD.w_seq, PD.w_asg, PD.w_outO_s, PD.w_outO_n, PD.w_ret, PD.w_retN, PD.w_retV, PD.w_ret0, PD.w_V, PD.w_Vr, PD.w_C, PD.w_op, PD.w_un, PD.w_CB, PD.w_cons, PD.w_nil, PD.w_tup, PD.w_lst, PD.w_ob, PD.w_call, PD.w_new, PD.w_app, PD.w_ext, PD.w_pop, PD.w_popD, PD.w_putAt, PD.w_aug, PD.w_frz, PD.w_ahead, PD.w_forget, PD.w_forO_nx, PD.w_forO_bk, PD.w_forO_ct, PD.w_forO_rt, PD.w_forO_rn, PD.w_forO_exc, PD.w_drop, PD.w_next, PD.w_bk, PD.w_ct, PD.w_exc, PD.w_lc, PD.w_itL, PD.w_itl, PD.w_itT, PD.w_itt, PD.w_itV, PD.w_itv, PD.w_rng1, PD.w_rng1', PD.w_rng2, PD.w_rng2', PD.w_lrg1, PD.w_lrg1', PD.w_sl, PD.w_no, PD.w_part, PD.w_part', PD.w_newD, PD.w_putD, PD.w_inD, PD.w_getD, PD.w_maxD, PD.w_count, PD.w_for, PD.w_hSet, PD.w_appPop, PD.w_apD, forgetE, owL, putL, owD, putOD, frzE, initE, noPm, wipeE, sizeLine_eq, List.getElem?_cons_zero, List.getElem?_cons_succ, List.set_cons_zero, List.set_cons_succ, List.map_cons, List.map_nil, List.length_cons, List.length_nil, List.replicate, List.cons_append, List.nil_append, Option.bind_some, Option.bind_none, Option.map_some, Option.map_none, ite_true, ite_false, if_true, if_false, reduceCtorEq, Nat.reduceAdd, Nat.reduceSub, Nat.reduceLeDiff, Bool.and_true, Bool.true_and, Bool.and_false, Bool.false_and, Bool.or_true, Bool.true_or, Bool.or_false, Bool.false_or, Bool.not_true, Bool.not_false, decide_true, decide_false, Bool.false_eq_true, Int.reduceEq, Int.reduceBEq, Option.isSome_some, Option.isSome_none, List.all_cons, List.all_nil, and_self, and_true, true_and, getLast_app, dropLast_app, ev_law_whole, isW, atI_0, atI_1, inS_kinds, int_two, c1, c2, hk]
        exact ⟨_, rfl⟩
/-- one turn of the law's reading -/
theorem turnI (t : D) (ns : List Int) (l : List D) (d : D) (a : Str) (he : ns.length < 16777216) (hz : ∀ k ps, knot d a = .more k ps → l.length + ps.length ≤ 16777216) : match knot d a with
    | .num n => if stopN ns n = true then IsFalse (B__law_is_1 (ρI t (l ++ [.tuple [d, .str a]]) ns)) else B__law_is_1 (ρI t (l ++ [.tuple [d, .str a]]) ns) = .nx (ρI t l (ns ++ [n]))
    | .more k ps => B__law_is_1 (ρI t (l ++ [.tuple [d, .str a]]) ns) = .nx (ρI t (l ++ ps.map fun d => .tuple [d, .str k]) ns)
    | .bad => IsFalse (B__law_is_1 (ρI t (l ++ [.tuple [d, .str a]]) ns)) := by
  by_cases h1 : ∃ n, d = .int n
  · obtain ⟨n, rfl⟩ := h1
    simp only [knot]
    exact bodyI_num t l ns n a he
  · by_cases h2 : ∃ ds, d = .tuple ds
    · obtain ⟨ds, rfl⟩ := h2
      by_cases hl : ds.length = 2
      · obtain ⟨x, y, rfl⟩ : ∃ x y, ds = [x, y] := by
          match ds, hl with
          | [x, y], _ => exact ⟨x, y, rfl⟩
        by_cases hx : ∃ k, x = .str k
        · obtain ⟨k, rfl⟩ := hx
          have q := bodyI_two t ns l k y a (fun ps e hg => by
            subst e
            exact hz k ps (by simp only [knot, hg, if_true]))
          cases e : knot (.tuple [.str k, y]) a with
          | num n => cases y <;> (simp only [knot] at e) <;> (try cases e) ; split at e <;> cases e
          | more k2 ps => simp only [e] at q ⊢; exact q
          | bad => simp only [e] at q ⊢; exact q
        · have e : knot (.tuple [x, y]) a = .bad := by cases x <;> first | rfl | exact absurd ⟨_, rfl⟩ hx
          rw [e]
          exact bodyI_head t ns l x y a fun k e => hx ⟨k, e⟩
      · have e : knot (.tuple ds) a = .bad := by
          match ds, hl with
          | [], _ => rfl
          | [x], _ => cases x <;> rfl
          | x :: y :: z :: r, _ => cases x <;> first | rfl | (cases y <;> rfl)
        rw [e]
        exact bodyI_len t ns l ds a hl
    · have e : knot d a = .bad := by
        cases d <;> first | rfl | exact absurd ⟨_, rfl⟩ h1 | exact absurd ⟨_, rfl⟩ h2
      rw [e]
      exact bodyI_not t ns l d a (fun n e => h1 ⟨n, e⟩) fun ds e => h2 ⟨ds, e⟩
def goodI (ns : List Int) : List Int → Bool
  | [] => true
  | n :: ms => !stopN ns n && goodI (ns ++ [n]) ms
theorem loopI (t : D) : ∀ (f : Nat) (st : Stk) (seen : List Int), wtS st ≤ f → seen.length + wtS st ≤ 16777216 →
    (∃ ms, visit f st = some ms ∧ goodI seen ms = true ∧ dWhile C__law_is_1 B__law_is_1 (ρI t (lay st) seen) = .nx (ρI t [] (seen ++ ms))) ∨
    ((∀ ms, visit f st = some ms → goodI seen ms = false) ∧ IsFalse (dWhile C__law_is_1 B__law_is_1 (ρI t (lay st) seen))) := by
  intro f
  induction f with
  | zero =>
    intro st seen h1 h2
    match st with
    | [] =>
      refine .inl ⟨[], rfl, rfl, ?_⟩
      rw [dWhile_step, condI_eq, List.append_nil]; rfl
    | (d, a) :: st => have := wt_pos d; simp only [wtS] at h1; omega
  | succ f ih =>
    intro st seen h1 h2
    match st with
    | [] =>
      refine .inl ⟨[], rfl, rfl, ?_⟩
      rw [dWhile_step, condI_eq, List.append_nil]; rfl
    | (d, a) :: st =>
      have hw := wt_pos d
      simp only [wtS] at h1 h2
      rw [dWhile_step, condI_eq, lay_empty_false, lay_cons]
      simp only [Bool.not_false, Res.bindS, if_true]
      have T := turnI t seen (lay st) d a (by omega) (fun k ps e => by
        have := (knot_more e).1
        subst this
        rw [wt_knot] at h2
        have := wtL_len ps
        have := wtS_len st
        rw [lay_len]; omega)
      unfold visit
      cases e : knot d a with
      | num n =>
        simp only [e] at T ⊢
        cases hb : stopN seen n with
        | true =>
          simp only [hb, if_true] at T
          obtain ⟨ρ, T⟩ := T
          refine .inr ⟨fun ms hm => ?_, ρ, by rw [T]⟩
          cases q : visit f st with
          | none => rw [q] at hm; cases hm
          | some r =>
            rw [q] at hm; cases hm
            simp only [goodI, hb, Bool.not_true, Bool.false_and]
        | false =>
          simp only [hb, Bool.false_eq_true, if_false] at T
          rw [T]
          rcases ih st (seen ++ [n]) (by omega) (by simp only [List.length_append, List.length_singleton]; omega) with ⟨ms, i1, i2, i3⟩ | ⟨i1, i2⟩
          · refine .inl ⟨n :: ms, by rw [i1]; rfl, by simp only [goodI, hb, i2, Bool.not_false, Bool.and_true], ?_⟩
            rw [List.append_assoc] at i3
            exact i3
          · refine .inr ⟨fun ms hm => ?_, i2⟩
            cases q : visit f st with
            | none => rw [q] at hm; cases hm
            | some r =>
              rw [q] at hm; cases hm
              simp only [goodI, i1 r q, Bool.and_false]
      | more k ps =>
        simp only [e] at T ⊢
        have hd := (knot_more e).1
        subst hd
        rw [wt_knot] at h1 h2
        rw [T, ← lay_push]
        exact ih (push k ps ++ st) seen (by rw [wtS_app, wtS_push]; omega) (by rw [wtS_app, wtS_push]; omega)
      | bad =>
        simp only [e] at T ⊢
        obtain ⟨ρ, T⟩ := T
        exact .inr ⟨fun ms hm => by simp at hm, ρ, by rw [T]⟩
theorem ev_rg (n : Nat) (h : n ≤ 24) : rgOk ((n : Nat) : Int) = true := by
  exact rgOk_iff.mpr (by omega)
theorem goodI_len : ∀ (ms ns : List Int), goodI ns ms = true → ns.length ≤ 24 → (ns ++ ms).length ≤ 24
  | [], ns, _, h => by rw [List.append_nil]; exact h
  | m :: ms, ns, hg, h => by
    simp only [goodI, Bool.and_eq_true_iff] at hg
    have h1 : (ns ++ [m]).length ≤ 24 := by
      have := hg.1
      simp only [stopN, Bool.not_eq_true', Bool.or_eq_false_iff, decide_eq_false_iff_not] at this
      simp only [List.length_append, List.length_singleton]
      omega
    have := goodI_len ms (ns ++ [m]) hg.2 h1
    rw [List.append_assoc] at this
    exact this
/-- what the law's reading answers -/
theorem ev_law_is (t : D) (hw : wt t ≤ 16777000) : f__law_is [t] = .ok (.bool (match visit (wt t) [(t, "")] with
    | some ms => goodI [] ms && decide (ms.mergeSort leI = rgI 0 ms.length)
    | none => false)) := by
  have L := loopI t (wt t) [(t, "")] [] (by simp [wtS]) (by simp [wtS]; omega)
  unfold f__law_is funT F__law_is
  have e0 : ρI t (lay [(t, "")]) [] = [.fr t, .ow (.l [.tuple [t, .str ""]]), .ow (.l []), .un, .un, .un] := rfl
  rw [e0] at L
  rcases L with ⟨ms, l1, l2, l3⟩ | ⟨l1, ρ, l3⟩
  · have hl : ms.length ≤ 24 := goodI_len ms [] l2 (by simp)
    have hl2 : decide (((ms.length : Nat) : Int) < 25) = true := decide_eq_true (by omega)
    simp only [PD.v_bind_ok, PD.v_bind_exc, PD.v_bind_stuck, PD.v_bindS_ok, PD.v_bindS_exc, PD.v_bindS_stuck, PD.v_of_some, PD.v_of_none, PD.v_seq_nx, PD.v_seq_rt, PD.v_seq_rn, PD.v_seq_bk, PD.v_seq_ct, PD.v_seq_exc, PD.v_seq_stuck, PD.v_ifS, PD.v_sel_t, PD.v_sel_f, PD.v_sel_exc, PD.v_sel_stuck, PD.v_if, PD.v_and, PD.v_or, PD.v_selR_t, PD.v_selR_f, PD.v_selR_exc, PD.v_selR_stuck, PD.v_not, PD.v_notR, PD.v_notR_exc, PD.v_test, PD.v_testR, PD.v_testR_exc, PD.v_andV, PD.v_orV, PD.v_selV_t, PD.v_selV_f, PD.v_notV, PD.v_notV', PD.v_chain, PD.v_chain_t, PD.v_chain_f, PD.v_add_i, PD.v_add_s, PD.v_add_l, PD.v_add_t, PD.v_cat, PD.v_sub, PD.v_mul, PD.v_div, PD.v_mod, PD.v_pow, PD.v_neg, PD.v_cmp, PD.v_eq_ii, PD.v_eq_bb, PD.v_eq_ss, PD.v_eq_nn, PD.v_ne_ii, PD.v_ne_bb, PD.v_ne_ss, PD.v_eq_ll, PD.v_eq_tt, PD.v_ne_ll, PD.v_ne_tt, PD.v_eq0, PD.v_in_t, PD.v_in_l, PD.v_flat_i, PD.v_flat_s, PD.v_flat_b, PD.v_flat_n, PD.v_isB, PD.v_isN_n, PD.v_isN_i, PD.v_isN_t, PD.v_isN_l, PD.v_isN_s, PD.v_ix_l, PD.v_ix_t, PD.v_ix_s, PD.v_slN, PD.v_slV_l, PD.v_slV_t, PD.v_slV_s, PD.v_len_l, PD.v_len_t, PD.v_len_s, PD.v_len_d, PD.v_list_l, PD.v_list_t, PD.v_tuple_l, PD.v_tuple_t, PD.v_sorted, PD.v_seqOf_l, PD.v_seqOf_t, PD.v_keyOf_i, PD.v_keyOf_s, PD.v_data_l, PD.v_data_d, PD.v_isi, PD.v_isi_int, PD.v_isi_bool, PD.v_isi_str, PD.v_isi_list, PD.v_isi_tuple, PD.i_int_i, PD.i_bool_i, PD.i_tuple_i, PD.i_tuple_t, PD.i_int_t, PD.i_list_l, PD.i_str_s, PD.i_bool_b, PD.v_hTup, PD.v_hCons, PD.v_hNil, PD.w_seq, PD.w_asg, PD.w_outO_s, PD.w_outO_n, PD.w_ret, PD.w_retN, PD.w_retV, PD.w_ret0, PD.w_V, PD.w_Vr, PD.w_C, PD.w_op, PD.w_un, PD.w_CB, PD.w_cons, PD.w_nil, PD.w_tup, PD.w_lst, PD.w_ob, PD.w_call, PD.w_new, PD.w_app, PD.w_ext, PD.w_pop, PD.w_popD, PD.w_putAt, PD.w_aug, PD.w_frz, PD.w_ahead, PD.w_forget, PD.w_forO_nx, PD.w_forO_bk, PD.w_forO_ct, PD.w_forO_rt, PD.w_forO_rn, PD.w_forO_exc, PD.w_drop, PD.w_next, PD.w_bk, PD.w_ct, PD.w_exc, PD.w_lc, PD.w_itL, PD.w_itl, PD.w_itT, PD.w_itt, PD.w_itV, PD.w_itv, PD.w_rng1, PD.w_rng1', PD.w_rng2, PD.w_rng2', PD.w_lrg1, PD.w_lrg1', PD.w_sl, PD.w_no, PD.w_part, PD.w_part', PD.w_newD, PD.w_putD, PD.w_inD, PD.w_getD, PD.w_maxD, PD.w_count, PD.w_for, PD.w_hSet, PD.w_appPop, PD.w_apD, forgetE, owL, putL, owD, putOD, frzE, initE, noPm, wipeE, sizeLine_eq, List.getElem?_cons_zero, List.getElem?_cons_succ, List.set_cons_zero, List.set_cons_succ, List.map_cons, List.map_nil, List.length_cons, List.length_nil, List.replicate, List.cons_append, List.nil_append, Option.bind_some, Option.bind_none, Option.map_some, Option.map_none, ite_true, ite_false, if_true, if_false, reduceCtorEq, Nat.reduceAdd, Nat.reduceSub, Nat.reduceLeDiff, Bool.and_true, Bool.true_and, Bool.and_false, Bool.false_and, Bool.or_true, Bool.true_or, Bool.or_false, Bool.false_or, Bool.not_true, Bool.not_false, decide_true, decide_false, Bool.false_eq_true, Int.reduceEq, Int.reduceBEq, Option.isSome_some, Option.isSome_none, List.all_cons, List.all_nil, and_self, and_true, true_and, l3, List.nil_append]
    unfold ρI
    simp only [PD.v_bind_ok, PD.v_bind_exc, PD.v_bind_stuck, PD.v_bindS_ok, PD.v_bindS_exc, PD.v_bindS_stuck, PD.v_of_some, PD.v_of_none, PD.v_seq_nx, PD.v_seq_rt, PD.v_seq_rn, PD.v_seq_bk, PD.v_seq_ct, PD.v_seq_exc, PD.v_seq_stuck, PD.v_ifS, PD.v_sel_t, PD.v_sel_f, PD.v_sel_exc, PD.v_sel_stuck, PD.v_if, PD.v_and, PD.v_or, PD.v_selR_t, PD.v_selR_f, PD.v_selR_exc, PD.v_selR_stuck, PD.v_not, PD.v_notR, PD.v_notR_exc, PD.v_test, PD.v_testR, PD.v_testR_exc, PD.v_andV, PD.v_orV, PD.v_selV_t, PD.v_selV_f, PD.v_notV, PD.v_notV', PD.v_chain, PD.v_chain_t, PD.v_chain_f, PD.v_add_i, PD.v_add_s, PD.v_add_l, PD.v_add_t, PD.v_cat, PD.v_sub, PD.v_mul, PD.v_div, PD.v_mod, PD.v_pow, PD.v_neg, PD.v_cmp, PD.v_eq_ii, PD.v_eq_bb, PD.v_eq_ss, PD.v_eq_nn, PD.v_ne_ii, PD.v_ne_bb, PD.v_ne_ss, PD.v_eq_ll, PD.v_eq_tt, PD.v_ne_ll, PD.v_ne_tt, PD.v_eq0, PD.v_in_t, PD.v_in_l, PD.v_flat_i, PD.v_flat_s, PD.v_flat_b, PD.v_flat_n, PD.v_isB, PD.v_isN_n, PD.v_isN_i, PD.v_isN_t, PD.v_isN_l, PD.v_isN_s, PD.v_ix_l, PD.v_ix_t, PD.v_ix_s, PD.v_slN, PD.v_slV_l, PD.v_slV_t, PD.v_slV_s, PD.v_len_l, PD.v_len_t, PD.v_len_s, PD.v_len_d, PD.v_list_l, PD.v_list_t, PD.v_tuple_l, PD.v_tuple_t, PD.v_sorted, PD.v_seqOf_l, PD.v_seqOf_t, PD.v_keyOf_i, PD.v_keyOf_s, PD.v_data_l, PD.v_data_d, PD.v_isi, PD.v_isi_int, PD.v_isi_bool, PD.v_isi_str, PD.v_isi_list, PD.v_isi_tuple, PD.i_int_i, PD.i_bool_i, PD.i_tuple_i, PD.i_tuple_t, PD.i_int_t, PD.i_list_l, PD.i_str_s, PD.i_bool_b, PD.v_hTup, PD.v_hCons, PD.v_hNil, PD.w_seq, PD.w_asg, PD.w_outO_s, PD.w_outO_n, PD.w_ret, PD.w_retN, PD.w_retV, PD.w_ret0, PD.w_V, PD.w_Vr, PD.w_C, PD.w_op, PD.w_un, PD.w_CB, PD.w_cons, PD.w_nil, PD.w_tup, PD.w_lst, PD.w_ob, PD.w_call, PD.w_new, PD.w_app, PD.w_ext, PD.w_pop, PD.w_popD, PD.w_putAt, PD.w_aug, PD.w_frz, PD.w_ahead, PD.w_forget, PD.w_forO_nx, PD.w_forO_bk, PD.w_forO_ct, PD.w_forO_rt, PD.w_forO_rn, PD.w_forO_exc, PD.w_drop, PD.w_next, PD.w_bk, PD.w_ct, PD.w_exc, PD.w_lc, PD.w_itL, PD.w_itl, PD.w_itT, PD.w_itt, PD.w_itV, PD.w_itv, PD.w_rng1, PD.w_rng1', PD.w_rng2, PD.w_rng2', PD.w_lrg1, PD.w_lrg1', PD.w_sl, PD.w_no, PD.w_part, PD.w_part', PD.w_newD, PD.w_putD, PD.w_inD, PD.w_getD, PD.w_maxD, PD.w_count, PD.w_for, PD.w_hSet, PD.w_appPop, PD.w_apD, forgetE, owL, putL, owD, putOD, frzE, initE, noPm, wipeE, sizeLine_eq, List.getElem?_cons_zero, List.getElem?_cons_succ, List.set_cons_zero, List.set_cons_succ, List.map_cons, List.map_nil, List.length_cons, List.length_nil, List.replicate, List.cons_append, List.nil_append, Option.bind_some, Option.bind_none, Option.map_some, Option.map_none, ite_true, ite_false, if_true, if_false, reduceCtorEq, Nat.reduceAdd, Nat.reduceSub, Nat.reduceLeDiff, Bool.and_true, Bool.true_and, Bool.and_false, Bool.false_and, Bool.or_true, Bool.true_or, Bool.or_false, Bool.false_or, Bool.not_true, Bool.not_false, decide_true, decide_false, Bool.false_eq_true, Int.reduceEq, Int.reduceBEq, Option.isSome_some, Option.isSome_none, List.all_cons, List.all_nil, and_self, and_true, true_and, l1, l2, List.length_map, hl2, ev_rg _ hl, sortOk_ints, sortD_ints, rgD_I, shaped_ints, eqvL_ints, Int.toNat_natCast]
  · simp only [PD.v_bind_ok, PD.v_bind_exc, PD.v_bind_stuck, PD.v_bindS_ok, PD.v_bindS_exc, PD.v_bindS_stuck, PD.v_of_some, PD.v_of_none, PD.v_seq_nx, PD.v_seq_rt, PD.v_seq_rn, PD.v_seq_bk, PD.v_seq_ct, PD.v_seq_exc, PD.v_seq_stuck, PD.v_ifS, PD.v_sel_t, PD.v_sel_f, PD.v_sel_exc, PD.v_sel_stuck, PD.v_if, PD.v_and, PD.v_or, PD.v_selR_t, PD.v_selR_f, PD.v_selR_exc, PD.v_selR_stuck, PD.v_not, PD.v_notR, PD.v_notR_exc, PD.v_test, PD.v_testR, PD.v_testR_exc, PD.v_andV, PD.v_orV, PD.v_selV_t, PD.v_selV_f, PD.v_notV, PD.v_notV', PD.v_chain, PD.v_chain_t, PD.v_chain_f, PD.v_add_i, PD.v_add_s, PD.v_add_l, PD.v_add_t, PD.v_cat, PD.v_sub, PD.v_mul, PD.v_div, PD.v_mod, PD.v_pow, PD.v_neg, PD.v_cmp, PD.v_eq_ii, PD.v_eq_bb, PD.v_eq_ss, PD.v_eq_nn, PD.v_ne_ii, PD.v_ne_bb, PD.v_ne_ss, PD.v_eq_ll, PD.v_eq_tt, PD.v_ne_ll, PD.v_ne_tt, PD.v_eq0, PD.v_in_t, PD.v_in_l, PD.v_flat_i, PD.v_flat_s, PD.v_flat_b, PD.v_flat_n, PD.v_isB, PD.v_isN_n, PD.v_isN_i, PD.v_isN_t, PD.v_isN_l, PD.v_isN_s, PD.v_ix_l, PD.v_ix_t, PD.v_ix_s, PD.v_slN, PD.v_slV_l, PD.v_slV_t, PD.v_slV_s, PD.v_len_l, PD.v_len_t, PD.v_len_s, PD.v_len_d, PD.v_list_l, PD.v_list_t, PD.v_tuple_l, PD.v_tuple_t, PD.v_sorted, PD.v_seqOf_l, PD.v_seqOf_t, PD.v_keyOf_i, PD.v_keyOf_s, PD.v_data_l, PD.v_data_d, PD.v_isi, PD.v_isi_int, PD.v_isi_bool, PD.v_isi_str, PD.v_isi_list, PD.v_isi_tuple, PD.i_int_i, PD.i_bool_i, PD.i_tuple_i, PD.i_tuple_t, PD.i_int_t, PD.i_list_l, PD.i_str_s, PD.i_bool_b, PD.v_hTup, PD.v_hCons, PD.v_hNil, PD.w_seq, PD.w_asg, PD.w_outO_s, PD.w_outO_n, PD.w_ret, PD.w_retN, PD.w_retV, PD.w_ret0, PD.w_V, PD.w_Vr, PD.w_C, PD.w_op, PD.w_un, PD.w_CB, PD.w_cons, PD.w_nil, PD.w_tup, PD.w_lst, PD.w_ob, PD.w_call, PD.w_new, PD.w_app, PD.w_ext, PD.w_pop, PD.w_popD, PD.w_putAt, PD.w_aug, PD.w_frz, PD.w_ahead, PD.w_forget, PD.w_forO_nx, PD.w_forO_bk, PD.w_forO_ct, PD.w_forO_rt, PD.w_forO_rn, PD.w_forO_exc, PD.w_drop, PD.w_next, PD.w_bk, PD.w_ct, PD.w_exc, PD.w_lc, PD.w_itL, PD.w_itl, PD.w_itT, PD.w_itt, PD.w_itV, PD.w_itv, PD.w_rng1, PD.w_rng1', PD.w_rng2, PD.w_rng2', PD.w_lrg1, PD.w_lrg1', PD.w_sl, PD.w_no, PD.w_part, PD.w_part', PD.w_newD, PD.w_putD, PD.w_inD, PD.w_getD, PD.w_maxD, PD.w_count, PD.w_for, PD.w_hSet, PD.w_appPop, PD.w_apD, forgetE, owL, putL, owD, putOD, frzE, initE, noPm, wipeE, sizeLine_eq, List.getElem?_cons_zero, List.getElem?_cons_succ, List.set_cons_zero, List.set_cons_succ, List.map_cons, List.map_nil, List.length_cons, List.length_nil, List.replicate, List.cons_append, List.nil_append, Option.bind_some, Option.bind_none, Option.map_some, Option.map_none, ite_true, ite_false, if_true, if_false, reduceCtorEq, Nat.reduceAdd, Nat.reduceSub, Nat.reduceLeDiff, Bool.and_true, Bool.true_and, Bool.and_false, Bool.false_and, Bool.or_true, Bool.true_or, Bool.or_false, Bool.false_or, Bool.not_true, Bool.not_false, decide_true, decide_false, Bool.false_eq_true, Int.reduceEq, Int.reduceBEq, Option.isSome_some, Option.isSome_none, List.all_cons, List.all_nil, and_self, and_true, true_and, l3]
    cases q : visit (wt t) [(t, "")] with
    | none => rfl
    | some ms => simp only [l1 ms q, Bool.false_and]
/-! both readings agree -/
theorem good_iff : ∀ (ms seen : List Int), good seen ms = true ↔ (∀ m ∈ ms, 0 ≤ m ∧ m < 24 ∧ m ∉ seen) ∧ ms.Nodup
  | [], seen => by simp [good]
  | m :: ms, seen => by
    rw [good, Bool.and_eq_true_iff, good_iff ms (seen ++ [m]), List.nodup_cons]
    simp only [badN, Bool.not_eq_true', Bool.or_eq_false_iff, decide_eq_false_iff_not, List.contains_eq_mem, List.mem_append, List.mem_singleton, not_or, List.mem_cons, forall_eq_or_imp, List.not_mem_nil, not_false_eq_true, and_true]
    constructor
    · rintro ⟨⟨a1, a2, a3⟩, a4, a5⟩
      exact ⟨⟨⟨by omega, by omega, a3⟩, fun x hx => ⟨(a4 x hx).1, (a4 x hx).2.1, (a4 x hx).2.2.1⟩⟩, fun hm => (a4 m hm).2.2.2 rfl, a5⟩
    · rintro ⟨⟨⟨a1, a2, a3⟩, a4⟩, a5, a6⟩
      exact ⟨⟨by omega, by omega, a3⟩, fun x hx => ⟨(a4 x hx).1, (a4 x hx).2.1, (a4 x hx).2.2, fun e => a5 (e ▸ hx)⟩, a6⟩
theorem goodI_of : ∀ (ms seen : List Int), (seen ++ ms).length ≤ 24 → (seen ++ ms).Nodup → goodI seen ms = true
  | [], seen, _, _ => rfl
  | m :: ms, seen, hl, hn => by
    have e : seen ++ m :: ms = (seen ++ [m]) ++ ms := by rw [List.append_assoc]; rfl
    rw [e] at hl hn
    rw [goodI, goodI_of ms (seen ++ [m]) hl hn, Bool.and_true]
    have hn2 := (List.nodup_append.mp hn).1
    have hc : (seen ++ [m]).count m ≤ 1 := List.nodup_iff_count.mp hn2 m
    simp only [List.length_append, List.length_singleton] at hl
    simp only [stopN, Bool.not_eq_true', Bool.or_eq_false_iff, decide_eq_false_iff_not]
    omega
theorem read_same (ms : List Int) (hne : ms ≠ []) : (good [] ms && decide (maxI ms < ms.length)) = (goodI [] ms && decide (ms.mergeSort leI = rgI 0 ms.length)) := by
  rw [Bool.eq_iff_iff, Bool.and_eq_true_iff, Bool.and_eq_true_iff, decide_eq_true_iff, decide_eq_true_iff, sort_rg, good_iff]
  obtain ⟨x1, x2⟩ := maxI_spec hne
  constructor
  · rintro ⟨⟨a, b⟩, c⟩
    have hb : ∀ x ∈ ms, 0 ≤ x ∧ x < ms.length := fun x hx => ⟨(a x hx).1, Int.lt_of_le_of_lt (x2 x hx) c⟩
    have hl : ms.length ≤ 24 := by
      have p := (sort_rg ms).mpr ⟨b, hb⟩
      by_cases q : ms.length ≤ 24
      · exact q
      · exfalso
        have hm : (24 : Int) ∈ ms := (sort_perm ms).mem_iff.mp (by rw [p]; exact rgI_mem.mpr (by omega))
        have := (a 24 hm).2.1
        omega
    exact ⟨goodI_of ms [] (by simpa using hl) (by simpa using b), b, hb⟩
  · rintro ⟨a, b, c⟩
    have hl := goodI_len ms [] a (by simp)
    simp only [List.nil_append] at hl
    refine ⟨⟨fun m hm => ⟨(c m hm).1, ?_, by simp⟩, b⟩, (c _ x1).2⟩
    have := (c m hm).2
    omega
/-- the yard's answer and the law's -/
theorem is_same (t : D) (hw : wt t ≤ 16777000) : f_is_tree [t] = f__law_is [t] ∧ ∃ b, f_is_tree [t] = .ok (.bool b) := by
  rw [ev_is_tree t hw, ev_law_is t hw]
  refine ⟨?_, _, rfl⟩
  cases q : visit (wt t) [(t, "")] with
  | none => rfl
  | some ms => simp only [read_same ms (visit_ne q (by simp))]

end K33

set_option Elab.async false
set_option linter.all false
set_option maxRecDepth 100000
set_option maxHeartbeats 1000000
namespace K33
open PySem L2 PD
/-! trees and their numbers -/
mutual
inductive Tr : Str → D → List Int → Prop
  | num (a : Str) (n : Int) : Tr a (.int n) [n]
  | box (a k : Str) (ps : List D) (ms : List Int) : kGood k a ps = true → TrL k ps ms → Tr a (.tuple [.str k, .tuple ps]) ms
inductive TrL : Str → List D → List Int → Prop
  | nil (k : Str) : TrL k [] []
  | cons (k : Str) (p : D) (ps : List D) (m ms : List Int) : Tr k p m → TrL k ps ms → TrL k (p :: ps) (ms ++ m)
end
theorem push_cons (k : Str) (p : D) (ps : List D) (st : Stk) : push k (p :: ps) ++ st = push k ps ++ ((p, k) :: st) := by
  unfold push
  rw [List.map_cons, List.reverse_cons, List.append_assoc]; rfl
mutual
theorem visit_tr {a : Str} {d : D} {ms : List Int} : Tr a d ms → ∀ (f : Nat) (st : Stk) (r : List Int), visit f st = some r → visit (wt d + f) ((d, a) :: st) = some (ms ++ r)
  | .num _ n, f, st, r, h => by
    have e : wt (.int n) + f = f + 1 := by simp only [wt]; omega
    rw [e]
    unfold visit
    simp only [knot, h]
    rfl
  | .box a k ps ms hg hl, f, st, r, h => by
    have v := visit_trL hl f st r h
    have e : wt (.tuple [.str k, .tuple ps]) + f = (wtL ps + f + 2) + 1 := by rw [wt_knot]; omega
    rw [e]
    unfold visit
    have q : knot (.tuple [.str k, .tuple ps]) a = .more k ps := by simp only [knot, hg, if_true]
    simp only [q]
    exact visit_le v (by omega)
theorem visit_trL {k : Str} {ps : List D} {ms : List Int} : TrL k ps ms → ∀ (f : Nat) (st : Stk) (r : List Int), visit f st = some r → visit (wtL ps + f) (push k ps ++ st) = some (ms ++ r)
  | .nil _, f, st, r, h => by
    have e : wtL [] + f = f := by simp only [wtL]; omega
    rw [e]; exact h
  | .cons k p ps m ms hp hl, f, st, r, h => by
    rw [push_cons]
    have v1 := visit_tr hp f st r h
    have v2 := visit_trL hl (wt p + f) ((p, k) :: st) (m ++ r) v1
    have e : wtL (p :: ps) + f = wtL ps + (wt p + f) := by simp only [wtL]; omega
    rw [e, List.append_assoc]
    exact v2
end
/-- a tree of all numbers below the count is one to both -/
theorem tree_yes {t : D} {ms : List Int} {n : Nat} (h : Tr "" t ms) (hp : ms.Perm (rgI 0 n)) (hn : n ≤ 24) (hw : wt t ≤ 16777000) : f_is_tree [t] = .ok (.bool true) ∧ f__law_is [t] = .ok (.bool true) := by
  have v := visit_tr h 0 [] [] rfl
  rw [List.append_nil, Nat.add_zero] at v
  have hl : ms.length = n := by rw [hp.length_eq, rgI_len]
  have e : f_is_tree [t] = .ok (.bool true) := by
    rw [ev_is_tree t hw, v]
    have hne := visit_ne v (by simp)
    have hg : good [] ms = true := (good_iff ms []).mpr ⟨fun m hm => by
      have := rgI_mem.mp (hp.mem_iff.mp hm)
      exact ⟨by omega, by omega, by simp⟩, hp.nodup_iff.mpr (rgI_nodup _ _)⟩
    have hm : maxI ms < ms.length := by
      have := rgI_mem.mp (hp.mem_iff.mp (maxI_spec hne).1)
      omega
    simp only [hg, decide_eq_true hm, Bool.and_true]
  exact ⟨e, (is_same t hw).1 ▸ e⟩
theorem TrL.app {k : Str} {ps qs : List D} {a b : List Int} (h : TrL k ps a) (g : TrL k qs b) : TrL k (ps ++ qs) (b ++ a) := by
  match h with
  | .nil _ => rw [List.append_nil]; exact g
  | .cons k p ps m ms hp hl =>
    have := TrL.app hl g
    rw [List.cons_append, ← List.append_assoc]
    exact .cons k p _ m _ hp this
theorem TrL.split {k : Str} : ∀ {ps qs : List D} {ms : List Int}, TrL k (ps ++ qs) ms → ∃ a b, TrL k ps a ∧ TrL k qs b ∧ ms = b ++ a
  | [], qs, ms, h => ⟨[], ms, .nil _, h, by simp⟩
  | p :: ps, qs, ms, h => by
    cases h with
    | cons _ _ _ m ms hp hl =>
      obtain ⟨a, b, h1, h2, rfl⟩ := TrL.split hl
      exact ⟨a ++ m, b, .cons _ _ _ _ _ hp h1, h2, by rw [List.append_assoc]⟩
theorem TrL.one {k : Str} {d : D} {m : List Int} (h : Tr k d m) : TrL k [d] m := by
  have := TrL.cons k d [] m [] h (.nil k)
  exact this
theorem Tr.of_one {k : Str} {d : D} {m : List Int} (h : TrL k [d] m) : Tr k d m := by
  cases h with
  | cons _ _ _ m ms hp hl => cases hl; exact hp
/-! joining -/
def partsOf (kind : Str) (d : D) : List D := match d with
  | .tuple [.str k, .tuple ps] => if (k == kind) = true then ps else [d]
  | _ => [d]
theorem parts_tr {kind : Str} {d : D} {m : List Int} (h : Tr "" d m) : TrL kind (partsOf kind d) m ∧ 1 ≤ (partsOf kind d).length ∧ wtL (partsOf kind d) ≤ wt d := by
  cases h with
  | num _ n => exact ⟨.one (.num _ n), by simp [partsOf], by simp [partsOf, wtL]⟩
  | box _ k ps ms hg hl =>
    unfold partsOf
    by_cases c : (k == kind) = true
    · have := beq_iff_eq.mp c
      subst this
      simp only [c, if_true]
      refine ⟨hl, ?_, by rw [wt_knot]; omega⟩
      unfold kGood at hg
      have := of_decide_eq_true (Bool.and_eq_true_iff.mp hg).2
      omega
    · simp only [c, if_false]
      refine ⟨.one (.box _ k ps _ ?_ hl), by simp, by simp [wtL]⟩
      unfold kGood at hg ⊢
      have h2 := Bool.and_eq_true_iff.mp hg
      have h1 := Bool.and_eq_true_iff.mp h2.1
      rw [h1.1, h2.2, Bool.eq_false_iff.mpr c]; rfl
theorem joinStep {kind : Str} {one other d : D} {m : List Int} (h : Tr "" d m) (l : List D) (hl : l.length + wt d ≤ 16777216) :
    B__law_join_1 [.fr (.str kind), .fr one, .fr other, .ow (.l l), .fr d] = .nx [.fr (.str kind), .fr one, .fr other, .ow (.l (l ++ partsOf kind d)), .un] := by
  have hw := wt_pos d
  cases h with
  | num _ n =>
    have hl2 : l.length < 16777216 := by omega
    unfold B__law_join_1 partsOf
    simp only [PD.v_bind_ok, PD.v_bind_exc, PD.v_bind_stuck, PD.v_bindS_ok, PD.v_bindS_exc, PD.v_bindS_stuck, PD.v_of_some, PD.v_of_none, PD.v_seq_nx, PD.v_seq_rt, PD.v_seq_rn, PD.v_seq_bk, PD.v_seq_ct, PD.v_seq_exc, PD.v_seq_stuck, PD.v_ifS, PD.v_sel_t, PD.v_sel_f, PD.v_sel_exc, PD.v_sel_stuck, PD.v_if, PD.v_and, PD.v_or, PD.v_selR_t, PD.v_selR_f, PD.v_selR_exc, PD.v_selR_stuck, PD.v_not, PD.v_notR, PD.v_notR_exc, PD.v_test, PD.v_testR, PD.v_testR_exc, PD.v_andV, PD.v_orV, PD.v_selV_t, PD.v_selV_f, PD.v_notV, PD.v_notV', PD.v_chain, PD.v_chain_t, PD.v_chain_f, PD.v_add_i, PD.v_add_s, PD.v_add_l, PD.v_add_t, PD.v_cat, PD.v_sub, PD.v_mul, PD.v_div, PD.v_mod, PD.v_pow, PD.v_neg, PD.v_cmp, PD.v_eq_ii, PD.v_eq_bb, PD.v_eq_ss, PD.v_eq_nn, PD.v_ne_ii, PD.v_ne_bb, PD.v_ne_ss, PD.v_eq_ll, PD.v_eq_tt, PD.v_ne_ll, PD.v_ne_tt, PD.v_eq0, PD.v_in_t, PD.v_in_l, PD.v_flat_i, PD.v_flat_s, PD.v_flat_b, PD.v_flat_n, PD.v_isB, PD.v_isN_n, PD.v_isN_i, PD.v_isN_t, PD.v_isN_l, PD.v_isN_s, PD.v_ix_l, PD.v_ix_t, PD.v_ix_s, PD.v_slN, PD.v_slV_l, PD.v_slV_t, PD.v_slV_s, PD.v_len_l, PD.v_len_t, PD.v_len_s, PD.v_len_d, PD.v_list_l, PD.v_list_t, PD.v_tuple_l, PD.v_tuple_t, PD.v_sorted, PD.v_seqOf_l, PD.v_seqOf_t, PD.v_keyOf_i, PD.v_keyOf_s, PD.v_data_l, PD.v_data_d, PD.v_isi, PD.v_isi_int, PD.v_isi_bool, PD.v_isi_str, PD.v_isi_list, PD.v_isi_tuple, PD.i_int_i, PD.i_bool_i, PD.i_tuple_i, PD.i_tuple_t, PD.i_int_t, PD.i_list_l, PD.i_str_s, PD.i_bool_b, PD.v_hTup, PD.v_hCons, PD.v_hNil, PD.w_seq, PD.w_asg, PD.w_outO_s, PD.w_outO_n, PD.w_ret, PD.w_retN, PD.w_retV, PD.w_ret0, PD.w_V, PD.w_Vr, PD.w_C, PD.w_op, PD.w_un, PD.w_CB, PD.w_cons, PD.w_nil, PD.w_tup, PD.w_lst, PD.w_ob, PD.w_call, PD.w_new, PD.w_app, PD.w_ext, PD.w_pop, PD.w_popD, PD.w_putAt, PD.w_aug, PD.w_frz, PD.w_ahead, PD.w_forget, PD.w_forO_nx, PD.w_forO_bk, PD.w_forO_ct, PD.w_forO_rt, PD.w_forO_rn, PD.w_forO_exc, PD.w_drop, PD.w_next, PD.w_bk, PD.w_ct, PD.w_exc, PD.w_lc, PD.w_itL, PD.w_itl, PD.w_itT, PD.w_itt, PD.w_itV, PD.w_itv, PD.w_rng1, PD.w_rng1', PD.w_rng2, PD.w_rng2', PD.w_lrg1, PD.w_lrg1', PD.w_sl, PD.w_no, PD.w_part, PD.w_part', PD.w_newD, PD.w_putD, PD.w_inD, PD.w_getD, PD.w_maxD, PD.w_count, PD.w_for, PD.w_hSet, PD.w_appPop, PD.w_apD, forgetE, owL, putL, owD, putOD, frzE, initE, noPm, wipeE, sizeLine_eq, List.getElem?_cons_zero, List.getElem?_cons_succ, List.set_cons_zero, List.set_cons_succ, List.map_cons, List.map_nil, List.length_cons, List.length_nil, List.replicate, List.cons_append, List.nil_append, Option.bind_some, Option.bind_none, Option.map_some, Option.map_none, ite_true, ite_false, if_true, if_false, reduceCtorEq, Nat.reduceAdd, Nat.reduceSub, Nat.reduceLeDiff, Bool.and_true, Bool.true_and, Bool.and_false, Bool.false_and, Bool.or_true, Bool.true_or, Bool.or_false, Bool.false_or, Bool.not_true, Bool.not_false, decide_true, decide_false, Bool.false_eq_true, Int.reduceEq, Int.reduceBEq, Option.isSome_some, Option.isSome_none, List.all_cons, List.all_nil, and_self, and_true, true_and, hl2]
  | box _ k ps ms hg h =>
    rw [wt_knot] at hl
    have hp := wtL_len ps
    have hl2 : l.length < 16777216 := by omega
    have hl3 : l.length + ps.length ≤ 16777216 := by omega
    unfold B__law_join_1 partsOf
    cases c : (k == kind) with
    | true => simp only [PD.v_bind_ok, PD.v_bind_exc, PD.v_bind_stuck, PD.v_bindS_ok, PD.v_bindS_exc, PD.v_bindS_stuck, PD.v_of_some, PD.v_of_none, PD.v_seq_nx, PD.v_seq_rt, PD.v_seq_rn, PD.v_seq_bk, PD.v_seq_ct, PD.v_seq_exc, PD.v_seq_stuck, PD.v_ifS, PD.v_sel_t, PD.v_sel_f, PD.v_sel_exc, PD.v_sel_stuck, PD.v_if, PD.v_and, PD.v_or, PD.v_selR_t, PD.v_selR_f, PD.v_selR_exc, PD.v_selR_stuck, PD.v_not, PD.v_notR, PD.v_notR_exc, PD.v_test, PD.v_testR, PD.v_testR_exc, PD.v_andV, PD.v_orV, PD.v_selV_t, PD.v_selV_f, PD.v_notV, PD.v_notV', PD.v_chain, PD.v_chain_t, PD.v_chain_f, PD.v_add_i, PD.v_add_s, PD.v_add_l, PD.v_add_t, PD.v_cat, PD.v_sub, PD.v_mul, PD.v_div, PD.v_mod, PD.v_pow, PD.v_neg, PD.v_cmp, PD.v_eq_ii, PD.v_eq_bb, PD.v_eq_ss, PD.v_eq_nn, PD.v_ne_ii, PD.v_ne_bb, PD.v_ne_ss, PD.v_eq_ll, PD.v_eq_tt, PD.v_ne_ll, PD.v_ne_tt, PD.v_eq0, PD.v_in_t, PD.v_in_l, PD.v_flat_i, PD.v_flat_s, PD.v_flat_b, PD.v_flat_n, PD.v_isB, PD.v_isN_n, PD.v_isN_i, PD.v_isN_t, PD.v_isN_l, PD.v_isN_s, PD.v_ix_l, PD.v_ix_t, PD.v_ix_s, PD.v_slN, PD.v_slV_l, PD.v_slV_t, PD.v_slV_s, PD.v_len_l, PD.v_len_t, PD.v_len_s, PD.v_len_d, PD.v_list_l, PD.v_list_t, PD.v_tuple_l, PD.v_tuple_t, PD.v_sorted, PD.v_seqOf_l, PD.v_seqOf_t, PD.v_keyOf_i, PD.v_keyOf_s, PD.v_data_l, PD.v_data_d, PD.v_isi, PD.v_isi_int, PD.v_isi_bool, PD.v_isi_str, PD.v_isi_list, PD.v_isi_tuple, PD.i_int_i, PD.i_bool_i, PD.i_tuple_i, PD.i_tuple_t, PD.i_int_t, PD.i_list_l, PD.i_str_s, PD.i_bool_b, PD.v_hTup, PD.v_hCons, PD.v_hNil, PD.w_seq, PD.w_asg, PD.w_outO_s, PD.w_outO_n, PD.w_ret, PD.w_retN, PD.w_retV, PD.w_ret0, PD.w_V, PD.w_Vr, PD.w_C, PD.w_op, PD.w_un, PD.w_CB, PD.w_cons, PD.w_nil, PD.w_tup, PD.w_lst, PD.w_ob, PD.w_call, PD.w_new, PD.w_app, PD.w_ext, PD.w_pop, PD.w_popD, PD.w_putAt, PD.w_aug, PD.w_frz, PD.w_ahead, PD.w_forget, PD.w_forO_nx, PD.w_forO_bk, PD.w_forO_ct, PD.w_forO_rt, PD.w_forO_rn, PD.w_forO_exc, PD.w_drop, PD.w_next, PD.w_bk, PD.w_ct, PD.w_exc, PD.w_lc, PD.w_itL, PD.w_itl, PD.w_itT, PD.w_itt, PD.w_itV, PD.w_itv, PD.w_rng1, PD.w_rng1', PD.w_rng2, PD.w_rng2', PD.w_lrg1, PD.w_lrg1', PD.w_sl, PD.w_no, PD.w_part, PD.w_part', PD.w_newD, PD.w_putD, PD.w_inD, PD.w_getD, PD.w_maxD, PD.w_count, PD.w_for, PD.w_hSet, PD.w_appPop, PD.w_apD, forgetE, owL, putL, owD, putOD, frzE, initE, noPm, wipeE, sizeLine_eq, List.getElem?_cons_zero, List.getElem?_cons_succ, List.set_cons_zero, List.set_cons_succ, List.map_cons, List.map_nil, List.length_cons, List.length_nil, List.replicate, List.cons_append, List.nil_append, Option.bind_some, Option.bind_none, Option.map_some, Option.map_none, ite_true, ite_false, if_true, if_false, reduceCtorEq, Nat.reduceAdd, Nat.reduceSub, Nat.reduceLeDiff, Bool.and_true, Bool.true_and, Bool.and_false, Bool.false_and, Bool.or_true, Bool.true_or, Bool.or_false, Bool.false_or, Bool.not_true, Bool.not_false, decide_true, decide_false, Bool.false_eq_true, Int.reduceEq, Int.reduceBEq, Option.isSome_some, Option.isSome_none, List.all_cons, List.all_nil, and_self, and_true, true_and, atI_0, atI_1, c, hl3]
    | false => simp only [PD.v_bind_ok, PD.v_bind_exc, PD.v_bind_stuck, PD.v_bindS_ok, PD.v_bindS_exc, PD.v_bindS_stuck, PD.v_of_some, PD.v_of_none, PD.v_seq_nx, PD.v_seq_rt, PD.v_seq_rn, PD.v_seq_bk, PD.v_seq_ct, PD.v_seq_exc, PD.v_seq_stuck, PD.v_ifS, PD.v_sel_t, PD.v_sel_f, PD.v_sel_exc, PD.v_sel_stuck, PD.v_if, PD.v_and, PD.v_or, PD.v_selR_t, PD.v_selR_f, PD.v_selR_exc, PD.v_selR_stuck, PD.v_not, PD.v_notR, PD.v_notR_exc, PD.v_test, PD.v_testR, PD.v_testR_exc, PD.v_andV, PD.v_orV, PD.v_selV_t, PD.v_selV_f, PD.v_notV, PD.v_notV', PD.v_chain, PD.v_chain_t, PD.v_chain_f, PD.v_add_i, PD.v_add_s, PD.v_add_l, PD.v_add_t, PD.v_cat, PD.v_sub, PD.v_mul, PD.v_div, PD.v_mod, PD.v_pow, PD.v_neg, PD.v_cmp, PD.v_eq_ii, PD.v_eq_bb, PD.v_eq_ss, PD.v_eq_nn, PD.v_ne_ii, PD.v_ne_bb, PD.v_ne_ss, PD.v_eq_ll, PD.v_eq_tt, PD.v_ne_ll, PD.v_ne_tt, PD.v_eq0, PD.v_in_t, PD.v_in_l, PD.v_flat_i, PD.v_flat_s, PD.v_flat_b, PD.v_flat_n, PD.v_isB, PD.v_isN_n, PD.v_isN_i, PD.v_isN_t, PD.v_isN_l, PD.v_isN_s, PD.v_ix_l, PD.v_ix_t, PD.v_ix_s, PD.v_slN, PD.v_slV_l, PD.v_slV_t, PD.v_slV_s, PD.v_len_l, PD.v_len_t, PD.v_len_s, PD.v_len_d, PD.v_list_l, PD.v_list_t, PD.v_tuple_l, PD.v_tuple_t, PD.v_sorted, PD.v_seqOf_l, PD.v_seqOf_t, PD.v_keyOf_i, PD.v_keyOf_s, PD.v_data_l, PD.v_data_d, PD.v_isi, PD.v_isi_int, PD.v_isi_bool, PD.v_isi_str, PD.v_isi_list, PD.v_isi_tuple, PD.i_int_i, PD.i_bool_i, PD.i_tuple_i, PD.i_tuple_t, PD.i_int_t, PD.i_list_l, PD.i_str_s, PD.i_bool_b, PD.v_hTup, PD.v_hCons, PD.v_hNil, PD.w_seq, PD.w_asg, PD.w_outO_s, PD.w_outO_n, PD.w_ret, PD.w_retN, PD.w_retV, PD.w_ret0, PD.w_V, PD.w_Vr, PD.w_C, PD.w_op, PD.w_un, PD.w_CB, PD.w_cons, PD.w_nil, PD.w_tup, PD.w_lst, PD.w_ob, PD.w_call, PD.w_new, PD.w_app, PD.w_ext, PD.w_pop, PD.w_popD, PD.w_putAt, PD.w_aug, PD.w_frz, PD.w_ahead, PD.w_forget, PD.w_forO_nx, PD.w_forO_bk, PD.w_forO_ct, PD.w_forO_rt, PD.w_forO_rn, PD.w_forO_exc, PD.w_drop, PD.w_next, PD.w_bk, PD.w_ct, PD.w_exc, PD.w_lc, PD.w_itL, PD.w_itl, PD.w_itT, PD.w_itt, PD.w_itV, PD.w_itv, PD.w_rng1, PD.w_rng1', PD.w_rng2, PD.w_rng2', PD.w_lrg1, PD.w_lrg1', PD.w_sl, PD.w_no, PD.w_part, PD.w_part', PD.w_newD, PD.w_putD, PD.w_inD, PD.w_getD, PD.w_maxD, PD.w_count, PD.w_for, PD.w_hSet, PD.w_appPop, PD.w_apD, forgetE, owL, putL, owD, putOD, frzE, initE, noPm, wipeE, sizeLine_eq, List.getElem?_cons_zero, List.getElem?_cons_succ, List.set_cons_zero, List.set_cons_succ, List.map_cons, List.map_nil, List.length_cons, List.length_nil, List.replicate, List.cons_append, List.nil_append, Option.bind_some, Option.bind_none, Option.map_some, Option.map_none, ite_true, ite_false, if_true, if_false, reduceCtorEq, Nat.reduceAdd, Nat.reduceSub, Nat.reduceLeDiff, Bool.and_true, Bool.true_and, Bool.and_false, Bool.false_and, Bool.or_true, Bool.true_or, Bool.or_false, Bool.false_or, Bool.not_true, Bool.not_false, decide_true, decide_false, Bool.false_eq_true, Int.reduceEq, Int.reduceBEq, Option.isSome_some, Option.isSome_none, List.all_cons, List.all_nil, and_self, and_true, true_and, atI_0, atI_1, c, hl2]
theorem ev_join {kind : Str} {one other : D} {m1 m2 : List Int} (hk : (kind == ("|" : Str) || kind == ("-" : Str)) = true) (h1 : Tr "" one m1) (h2 : Tr "" other m2) (hw : wt one + wt other ≤ 1000000) :
    ∃ t ms, f__law_join [.str kind, one, other] = .ok t ∧ Tr "" t ms ∧ ms.Perm (m1 ++ m2) ∧ wt t ≤ 3 + wt one + wt other := by
  obtain ⟨p1, p2, p3⟩ := parts_tr (kind := kind) h1
  obtain ⟨q1, q2, q3⟩ := parts_tr (kind := kind) h2
  have l1 := wtL_len (partsOf kind one)
  refine ⟨.tuple [.str kind, .tuple (partsOf kind one ++ partsOf kind other)], m2 ++ m1, ?_, ?_, List.perm_append_comm, ?_⟩
  · unfold f__law_join funT F__law_join
    have s1 := joinStep (kind := kind) (one := one) (other := other) h1 [] (by simp; omega)
    have s2 := joinStep (kind := kind) (one := one) (other := other) h2 (partsOf kind one) (by omega)
    rw [List.nil_append] at s1
    have e : forF (hSet 4) B__law_join_1 [one, other] [.fr (.str kind), .fr one, .fr other, .ow (.l []), .un] = .nx [.fr (.str kind), .fr one, .fr other, .ow (.l (partsOf kind one ++ partsOf kind other)), .un] := by
      unfold forF
      simp only [PD.v_bind_ok, PD.v_bind_exc, PD.v_bind_stuck, PD.v_bindS_ok, PD.v_bindS_exc, PD.v_bindS_stuck, PD.v_of_some, PD.v_of_none, PD.v_seq_nx, PD.v_seq_rt, PD.v_seq_rn, PD.v_seq_bk, PD.v_seq_ct, PD.v_seq_exc, PD.v_seq_stuck, PD.v_ifS, PD.v_sel_t, PD.v_sel_f, PD.v_sel_exc, PD.v_sel_stuck, PD.v_if, PD.v_and, PD.v_or, PD.v_selR_t, PD.v_selR_f, PD.v_selR_exc, PD.v_selR_stuck, PD.v_not, PD.v_notR, PD.v_notR_exc, PD.v_test, PD.v_testR, PD.v_testR_exc, PD.v_andV, PD.v_orV, PD.v_selV_t, PD.v_selV_f, PD.v_notV, PD.v_notV', PD.v_chain, PD.v_chain_t, PD.v_chain_f, PD.v_add_i, PD.v_add_s, PD.v_add_l, PD.v_add_t, PD.v_cat, PD.v_sub, PD.v_mul, PD.v_div, PD.v_mod, PD.v_pow, PD.v_neg, PD.v_cmp, PD.v_eq_ii, PD.v_eq_bb, PD.v_eq_ss, PD.v_eq_nn, PD.v_ne_ii, PD.v_ne_bb, PD.v_ne_ss, PD.v_eq_ll, PD.v_eq_tt, PD.v_ne_ll, PD.v_ne_tt, PD.v_eq0, PD.v_in_t, PD.v_in_l, PD.v_flat_i, PD.v_flat_s, PD.v_flat_b, PD.v_flat_n, PD.v_isB, PD.v_isN_n, PD.v_isN_i, PD.v_isN_t, PD.v_isN_l, PD.v_isN_s, PD.v_ix_l, PD.v_ix_t, PD.v_ix_s, PD.v_slN, PD.v_slV_l, PD.v_slV_t, PD.v_slV_s, PD.v_len_l, PD.v_len_t, PD.v_len_s, PD.v_len_d, PD.v_list_l, PD.v_list_t, PD.v_tuple_l, PD.v_tuple_t, PD.v_sorted, PD.v_seqOf_l, PD.v_seqOf_t, PD.v_keyOf_i, PD.v_keyOf_s, PD.v_data_l, PD.v_data_d, PD.v_isi, PD.v_isi_int, PD.v_isi_bool, PD.v_isi_str, PD.v_isi_list, PD.v_isi_tuple, PD.i_int_i, PD.i_bool_i, PD.i_tuple_i, PD.i_tuple_t, PD.i_int_t, PD.i_list_l, PD.i_str_s, PD.i_bool_b, PD.v_hTup, PD.v_hCons, PD.v_hNil, PD.w_seq, PD.w_asg, PD.w_outO_s, PD.w_outO_n, PD.w_ret, PD.w_retN, PD.w_retV, PD.w_ret0, PD.w_V, PD.w_Vr, PD.w_C, PD.w_op, PD.w_un, PD.w_CB, PD.w_cons, PD.w_nil, PD.w_tup, PD.w_lst, PD.w_ob, PD.w_call, PD.w_new, PD.w_app, PD.w_ext, PD.w_pop, PD.w_popD, PD.w_putAt, PD.w_aug, PD.w_frz, PD.w_ahead, PD.w_forget, PD.w_forO_nx, PD.w_forO_bk, PD.w_forO_ct, PD.w_forO_rt, PD.w_forO_rn, PD.w_forO_exc, PD.w_drop, PD.w_next, PD.w_bk, PD.w_ct, PD.w_exc, PD.w_lc, PD.w_itL, PD.w_itl, PD.w_itT, PD.w_itt, PD.w_itV, PD.w_itv, PD.w_rng1, PD.w_rng1', PD.w_rng2, PD.w_rng2', PD.w_lrg1, PD.w_lrg1', PD.w_sl, PD.w_no, PD.w_part, PD.w_part', PD.w_newD, PD.w_putD, PD.w_inD, PD.w_getD, PD.w_maxD, PD.w_count, PD.w_for, PD.w_hSet, PD.w_appPop, PD.w_apD, forgetE, owL, putL, owD, putOD, frzE, initE, noPm, wipeE, sizeLine_eq, List.getElem?_cons_zero, List.getElem?_cons_succ, List.set_cons_zero, List.set_cons_succ, List.map_cons, List.map_nil, List.length_cons, List.length_nil, List.replicate, List.cons_append, List.nil_append, Option.bind_some, Option.bind_none, Option.map_some, Option.map_none, ite_true, ite_false, if_true, if_false, reduceCtorEq, Nat.reduceAdd, Nat.reduceSub, Nat.reduceLeDiff, Bool.and_true, Bool.true_and, Bool.and_false, Bool.false_and, Bool.or_true, Bool.true_or, Bool.or_false, Bool.false_or, Bool.not_true, Bool.not_false, decide_true, decide_false, Bool.false_eq_true, Int.reduceEq, Int.reduceBEq, Option.isSome_some, Option.isSome_none, List.all_cons, List.all_nil, and_self, and_true, true_and, s1]
      unfold forF
      simp only [PD.v_bind_ok, PD.v_bind_exc, PD.v_bind_stuck, PD.v_bindS_ok, PD.v_bindS_exc, PD.v_bindS_stuck, PD.v_of_some, PD.v_of_none, PD.v_seq_nx, PD.v_seq_rt, PD.v_seq_rn, PD.v_seq_bk, PD.v_seq_ct, PD.v_seq_exc, PD.v_seq_stuck, PD.v_ifS, PD.v_sel_t, PD.v_sel_f, PD.v_sel_exc, PD.v_sel_stuck, PD.v_if, PD.v_and, PD.v_or, PD.v_selR_t, PD.v_selR_f, PD.v_selR_exc, PD.v_selR_stuck, PD.v_not, PD.v_notR, PD.v_notR_exc, PD.v_test, PD.v_testR, PD.v_testR_exc, PD.v_andV, PD.v_orV, PD.v_selV_t, PD.v_selV_f, PD.v_notV, PD.v_notV', PD.v_chain, PD.v_chain_t, PD.v_chain_f, PD.v_add_i, PD.v_add_s, PD.v_add_l, PD.v_add_t, PD.v_cat, PD.v_sub, PD.v_mul, PD.v_div, PD.v_mod, PD.v_pow, PD.v_neg, PD.v_cmp, PD.v_eq_ii, PD.v_eq_bb, PD.v_eq_ss, PD.v_eq_nn, PD.v_ne_ii, PD.v_ne_bb, PD.v_ne_ss, PD.v_eq_ll, PD.v_eq_tt, PD.v_ne_ll, PD.v_ne_tt, PD.v_eq0, PD.v_in_t, PD.v_in_l, PD.v_flat_i, PD.v_flat_s, PD.v_flat_b, PD.v_flat_n, PD.v_isB, PD.v_isN_n, PD.v_isN_i, PD.v_isN_t, PD.v_isN_l, PD.v_isN_s, PD.v_ix_l, PD.v_ix_t, PD.v_ix_s, PD.v_slN, PD.v_slV_l, PD.v_slV_t, PD.v_slV_s, PD.v_len_l, PD.v_len_t, PD.v_len_s, PD.v_len_d, PD.v_list_l, PD.v_list_t, PD.v_tuple_l, PD.v_tuple_t, PD.v_sorted, PD.v_seqOf_l, PD.v_seqOf_t, PD.v_keyOf_i, PD.v_keyOf_s, PD.v_data_l, PD.v_data_d, PD.v_isi, PD.v_isi_int, PD.v_isi_bool, PD.v_isi_str, PD.v_isi_list, PD.v_isi_tuple, PD.i_int_i, PD.i_bool_i, PD.i_tuple_i, PD.i_tuple_t, PD.i_int_t, PD.i_list_l, PD.i_str_s, PD.i_bool_b, PD.v_hTup, PD.v_hCons, PD.v_hNil, PD.w_seq, PD.w_asg, PD.w_outO_s, PD.w_outO_n, PD.w_ret, PD.w_retN, PD.w_retV, PD.w_ret0, PD.w_V, PD.w_Vr, PD.w_C, PD.w_op, PD.w_un, PD.w_CB, PD.w_cons, PD.w_nil, PD.w_tup, PD.w_lst, PD.w_ob, PD.w_call, PD.w_new, PD.w_app, PD.w_ext, PD.w_pop, PD.w_popD, PD.w_putAt, PD.w_aug, PD.w_frz, PD.w_ahead, PD.w_forget, PD.w_forO_nx, PD.w_forO_bk, PD.w_forO_ct, PD.w_forO_rt, PD.w_forO_rn, PD.w_forO_exc, PD.w_drop, PD.w_next, PD.w_bk, PD.w_ct, PD.w_exc, PD.w_lc, PD.w_itL, PD.w_itl, PD.w_itT, PD.w_itt, PD.w_itV, PD.w_itv, PD.w_rng1, PD.w_rng1', PD.w_rng2, PD.w_rng2', PD.w_lrg1, PD.w_lrg1', PD.w_sl, PD.w_no, PD.w_part, PD.w_part', PD.w_newD, PD.w_putD, PD.w_inD, PD.w_getD, PD.w_maxD, PD.w_count, PD.w_for, PD.w_hSet, PD.w_appPop, PD.w_apD, forgetE, owL, putL, owD, putOD, frzE, initE, noPm, wipeE, sizeLine_eq, List.getElem?_cons_zero, List.getElem?_cons_succ, List.set_cons_zero, List.set_cons_succ, List.map_cons, List.map_nil, List.length_cons, List.length_nil, List.replicate, List.cons_append, List.nil_append, Option.bind_some, Option.bind_none, Option.map_some, Option.map_none, ite_true, ite_false, if_true, if_false, reduceCtorEq, Nat.reduceAdd, Nat.reduceSub, Nat.reduceLeDiff, Bool.and_true, Bool.true_and, Bool.and_false, Bool.false_and, Bool.or_true, Bool.true_or, Bool.or_false, Bool.false_or, Bool.not_true, Bool.not_false, decide_true, decide_false, Bool.false_eq_true, Int.reduceEq, Int.reduceBEq, Option.isSome_some, Option.isSome_none, List.all_cons, List.all_nil, and_self, and_true, true_and, s2]
      rfl
    simp only [PD.v_bind_ok, PD.v_bind_exc, PD.v_bind_stuck, PD.v_bindS_ok, PD.v_bindS_exc, PD.v_bindS_stuck, PD.v_of_some, PD.v_of_none, PD.v_seq_nx, PD.v_seq_rt, PD.v_seq_rn, PD.v_seq_bk, PD.v_seq_ct, PD.v_seq_exc, PD.v_seq_stuck, PD.v_ifS, PD.v_sel_t, PD.v_sel_f, PD.v_sel_exc, PD.v_sel_stuck, PD.v_if, PD.v_and, PD.v_or, PD.v_selR_t, PD.v_selR_f, PD.v_selR_exc, PD.v_selR_stuck, PD.v_not, PD.v_notR, PD.v_notR_exc, PD.v_test, PD.v_testR, PD.v_testR_exc, PD.v_andV, PD.v_orV, PD.v_selV_t, PD.v_selV_f, PD.v_notV, PD.v_notV', PD.v_chain, PD.v_chain_t, PD.v_chain_f, PD.v_add_i, PD.v_add_s, PD.v_add_l, PD.v_add_t, PD.v_cat, PD.v_sub, PD.v_mul, PD.v_div, PD.v_mod, PD.v_pow, PD.v_neg, PD.v_cmp, PD.v_eq_ii, PD.v_eq_bb, PD.v_eq_ss, PD.v_eq_nn, PD.v_ne_ii, PD.v_ne_bb, PD.v_ne_ss, PD.v_eq_ll, PD.v_eq_tt, PD.v_ne_ll, PD.v_ne_tt, PD.v_eq0, PD.v_in_t, PD.v_in_l, PD.v_flat_i, PD.v_flat_s, PD.v_flat_b, PD.v_flat_n, PD.v_isB, PD.v_isN_n, PD.v_isN_i, PD.v_isN_t, PD.v_isN_l, PD.v_isN_s, PD.v_ix_l, PD.v_ix_t, PD.v_ix_s, PD.v_slN, PD.v_slV_l, PD.v_slV_t, PD.v_slV_s, PD.v_len_l, PD.v_len_t, PD.v_len_s, PD.v_len_d, PD.v_list_l, PD.v_list_t, PD.v_tuple_l, PD.v_tuple_t, PD.v_sorted, PD.v_seqOf_l, PD.v_seqOf_t, PD.v_keyOf_i, PD.v_keyOf_s, PD.v_data_l, PD.v_data_d, PD.v_isi, PD.v_isi_int, PD.v_isi_bool, PD.v_isi_str, PD.v_isi_list, PD.v_isi_tuple, PD.i_int_i, PD.i_bool_i, PD.i_tuple_i, PD.i_tuple_t, PD.i_int_t, PD.i_list_l, PD.i_str_s, PD.i_bool_b, PD.v_hTup, PD.v_hCons, PD.v_hNil, PD.w_seq, PD.w_asg, PD.w_outO_s, PD.w_outO_n, PD.w_ret, PD.w_retN, PD.w_retV, PD.w_ret0, PD.w_V, PD.w_Vr, PD.w_C, PD.w_op, PD.w_un, PD.w_CB, PD.w_cons, PD.w_nil, PD.w_tup, PD.w_lst, PD.w_ob, PD.w_call, PD.w_new, PD.w_app, PD.w_ext, PD.w_pop, PD.w_popD, PD.w_putAt, PD.w_aug, PD.w_frz, PD.w_ahead, PD.w_forget, PD.w_forO_nx, PD.w_forO_bk, PD.w_forO_ct, PD.w_forO_rt, PD.w_forO_rn, PD.w_forO_exc, PD.w_drop, PD.w_next, PD.w_bk, PD.w_ct, PD.w_exc, PD.w_lc, PD.w_itL, PD.w_itl, PD.w_itT, PD.w_itt, PD.w_itV, PD.w_itv, PD.w_rng1, PD.w_rng1', PD.w_rng2, PD.w_rng2', PD.w_lrg1, PD.w_lrg1', PD.w_sl, PD.w_no, PD.w_part, PD.w_part', PD.w_newD, PD.w_putD, PD.w_inD, PD.w_getD, PD.w_maxD, PD.w_count, PD.w_for, PD.w_hSet, PD.w_appPop, PD.w_apD, forgetE, owL, putL, owD, putOD, frzE, initE, noPm, wipeE, sizeLine_eq, List.getElem?_cons_zero, List.getElem?_cons_succ, List.set_cons_zero, List.set_cons_succ, List.map_cons, List.map_nil, List.length_cons, List.length_nil, List.replicate, List.cons_append, List.nil_append, Option.bind_some, Option.bind_none, Option.map_some, Option.map_none, ite_true, ite_false, if_true, if_false, reduceCtorEq, Nat.reduceAdd, Nat.reduceSub, Nat.reduceLeDiff, Bool.and_true, Bool.true_and, Bool.and_false, Bool.false_and, Bool.or_true, Bool.true_or, Bool.or_false, Bool.false_or, Bool.not_true, Bool.not_false, decide_true, decide_false, Bool.false_eq_true, Int.reduceEq, Int.reduceBEq, Option.isSome_some, Option.isSome_none, List.all_cons, List.all_nil, and_self, and_true, true_and, e]
  · refine .box _ kind _ _ ?_ (p1.app q1)
    unfold kGood
    have c : (kind == ("" : Str)) = false := by
      rcases Bool.or_eq_true_iff.mp hk with q | q <;> (have := beq_iff_eq.mp q; subst this; decide)
    rw [hk, c]
    simp only [Bool.not_false, Bool.true_and, decide_eq_true_eq, List.length_append]
    omega
  · rw [wt_knot, wtL_app]; omega

end K33

set_option Elab.async false
set_option linter.all false
set_option maxRecDepth 100000
set_option maxHeartbeats 1000000
namespace K33
open PySem L2 PD
/-! the law's tree -/
theorem perm_at : ∀ (l : List Int) (i : Nat) (h : i < l.length), l.Perm (l[i] :: l.eraseIdx i)
  | x :: l, 0, _ => List.Perm.refl _
  | x :: l, i + 1, h => by
    have := perm_at l i (by simpa using h)
    exact (List.Perm.cons x this).trans (List.Perm.swap _ _ _)
theorem erase_map (f : Int → D) : ∀ (l : List Int) (i : Nat), (l.map f).eraseIdx i = (l.eraseIdx i).map f
  | [], _ => rfl
  | x :: l, 0 => rfl
  | x :: l, i + 1 => by simp only [List.map_cons, List.eraseIdx_cons_succ, erase_map f l i]
theorem drawStep (cells : D) (xs ys : List Int) (c : Int) (hc : ys ≠ []) (hx : xs.length < 16777216) (hy : ys.length ≤ 30) (hb : Builtin.Int.intBits c ≤ 1048576) :
    ∃ x ys', ys.Perm (x :: ys') ∧ B__law_tree_1 [.fr cells, .ow (.l (ys.map .int)), .ow (.l (xs.map .int)), .fr (.int c), .un, .un] = .nx [.fr cells, .ow (.l (ys'.map .int)), .ow (.l ((xs ++ [x]).map .int)), .un, .un, .un] := by
  have hl : 0 < ys.length := List.length_pos_iff.mpr hc
  have m0 := Int.emod_nonneg (c / 64) (show ((ys.length : Nat) : Int) ≠ 0 by omega)
  have m1 := Int.emod_lt_of_pos (c / 64) (show (0 : Int) < ((ys.length : Nat) : Int) by omega)
  obtain ⟨i, hi, hi2⟩ : ∃ i : Nat, c / 64 % ((ys.length : Nat) : Int) = (i : Int) ∧ i < ys.length := ⟨(c / 64 % ((ys.length : Nat) : Int)).toNat, by omega, by omega⟩
  have hd : divOk 64 = true := rfl
  have hd2 : divOk ((ys.length : Nat) : Int) = true := divOk_iff.mpr (by omega)
  have hg : (ys.map PyData.int)[i]? = some (.int ys[i]) := by rw [List.getElem?_map, List.getElem?_eq_getElem hi2]; rfl
  refine ⟨ys[i], ys.eraseIdx i, ?_, ?_⟩
  · exact perm_at ys i hi2
  · unfold B__law_tree_1
    have he : (ys.map PyData.int).eraseIdx i = (ys.eraseIdx i).map .int := by rw [erase_map]
    have ap := appPop_go (i := 2) (j := 1) (f := dOp dMod (dOp dDiv (dVr 3) (dC (.int 64))) (dCB dLen1 (dCons (dVr 1) dNil))) (ρ := [.fr cells, .ow (.l (ys.map .int)), .ow (.l (xs.map .int)), .fr (.int c), .un, .un]) (ds := xs.map .int) (es := ys.map .int) (k := i) (x := .int ys[i]) rfl rfl (by (simp only [PD.v_bind_ok, PD.v_bind_exc, PD.v_bind_stuck, PD.v_bindS_ok, PD.v_bindS_exc, PD.v_bindS_stuck, PD.v_of_some, PD.v_of_none, PD.v_seq_nx, PD.v_seq_rt, PD.v_seq_rn, PD.v_seq_bk, PD.v_seq_ct, PD.v_seq_exc, PD.v_seq_stuck, PD.v_ifS, PD.v_sel_t, PD.v_sel_f, PD.v_sel_exc, PD.v_sel_stuck, PD.v_if, PD.v_and, PD.v_or, PD.v_selR_t, PD.v_selR_f, PD.v_selR_exc, PD.v_selR_stuck, PD.v_not, PD.v_notR, PD.v_notR_exc, PD.v_test, PD.v_testR, PD.v_testR_exc, PD.v_andV, PD.v_orV, PD.v_selV_t, PD.v_selV_f, PD.v_notV, PD.v_notV', PD.v_chain, PD.v_chain_t, PD.v_chain_f, PD.v_add_i, PD.v_add_s, PD.v_add_l, PD.v_add_t, PD.v_cat, PD.v_sub, PD.v_mul, PD.v_div, PD.v_mod, PD.v_pow, PD.v_neg, PD.v_cmp, PD.v_eq_ii, PD.v_eq_bb, PD.v_eq_ss, PD.v_eq_nn, PD.v_ne_ii, PD.v_ne_bb, PD.v_ne_ss, PD.v_eq_ll, PD.v_eq_tt, PD.v_ne_ll, PD.v_ne_tt, PD.v_eq0, PD.v_in_t, PD.v_in_l, PD.v_flat_i, PD.v_flat_s, PD.v_flat_b, PD.v_flat_n, PD.v_isB, PD.v_isN_n, PD.v_isN_i, PD.v_isN_t, PD.v_isN_l, PD.v_isN_s, PD.v_ix_l, PD.v_ix_t, PD.v_ix_s, PD.v_slN, PD.v_slV_l, PD.v_slV_t, PD.v_slV_s, PD.v_len_l, PD.v_len_t, PD.v_len_s, PD.v_len_d, PD.v_list_l, PD.v_list_t, PD.v_tuple_l, PD.v_tuple_t, PD.v_sorted, PD.v_seqOf_l, PD.v_seqOf_t, PD.v_keyOf_i, PD.v_keyOf_s, PD.v_data_l, PD.v_data_d, PD.v_isi, PD.v_isi_int, PD.v_isi_bool, PD.v_isi_str, PD.v_isi_list, PD.v_isi_tuple, PD.i_int_i, PD.i_bool_i, PD.i_tuple_i, PD.i_tuple_t, PD.i_int_t, PD.i_list_l, PD.i_str_s, PD.i_bool_b, PD.v_hTup, PD.v_hCons, PD.v_hNil, PD.w_seq, PD.w_asg, PD.w_outO_s, PD.w_outO_n, PD.w_ret, PD.w_retN, PD.w_retV, PD.w_ret0, PD.w_V, PD.w_Vr, PD.w_C, PD.w_op, PD.w_un, PD.w_CB, PD.w_cons, PD.w_nil, PD.w_tup, PD.w_lst, PD.w_ob, PD.w_call, PD.w_new, PD.w_app, PD.w_ext, PD.w_pop, PD.w_popD, PD.w_putAt, PD.w_aug, PD.w_frz, PD.w_ahead, PD.w_forget, PD.w_forO_nx, PD.w_forO_bk, PD.w_forO_ct, PD.w_forO_rt, PD.w_forO_rn, PD.w_forO_exc, PD.w_drop, PD.w_next, PD.w_bk, PD.w_ct, PD.w_exc, PD.w_lc, PD.w_itL, PD.w_itl, PD.w_itT, PD.w_itt, PD.w_itV, PD.w_itv, PD.w_rng1, PD.w_rng1', PD.w_rng2, PD.w_rng2', PD.w_lrg1, PD.w_lrg1', PD.w_sl, PD.w_no, PD.w_part, PD.w_part', PD.w_newD, PD.w_putD, PD.w_inD, PD.w_getD, PD.w_maxD, PD.w_count, PD.w_for, PD.w_hSet, PD.w_appPop, PD.w_apD, forgetE, owL, putL, owD, putOD, frzE, initE, noPm, wipeE, sizeLine_eq, List.getElem?_cons_zero, List.getElem?_cons_succ, List.set_cons_zero, List.set_cons_succ, List.map_cons, List.map_nil, List.length_cons, List.length_nil, List.replicate, List.cons_append, List.nil_append, Option.bind_some, Option.bind_none, Option.map_some, Option.map_none, ite_true, ite_false, if_true, if_false, reduceCtorEq, Nat.reduceAdd, Nat.reduceSub, Nat.reduceLeDiff, Bool.and_true, Bool.true_and, Bool.and_false, Bool.false_and, Bool.or_true, Bool.true_or, Bool.or_false, Bool.false_or, Bool.not_true, Bool.not_false, decide_true, decide_false, Bool.false_eq_true, Int.reduceEq, Int.reduceBEq, Option.isSome_some, Option.isSome_none, List.all_cons, List.all_nil, and_self, and_true, true_and, List.length_map, hd, hd2, hi])) hg (by rw [List.length_map]; omega) rfl (by rw [List.length_map]; exact hx)
    rw [PD.w_forget, ap, he]
    simp only [PD.v_bind_ok, PD.v_bind_exc, PD.v_bind_stuck, PD.v_bindS_ok, PD.v_bindS_exc, PD.v_bindS_stuck, PD.v_of_some, PD.v_of_none, PD.v_seq_nx, PD.v_seq_rt, PD.v_seq_rn, PD.v_seq_bk, PD.v_seq_ct, PD.v_seq_exc, PD.v_seq_stuck, PD.v_ifS, PD.v_sel_t, PD.v_sel_f, PD.v_sel_exc, PD.v_sel_stuck, PD.v_if, PD.v_and, PD.v_or, PD.v_selR_t, PD.v_selR_f, PD.v_selR_exc, PD.v_selR_stuck, PD.v_not, PD.v_notR, PD.v_notR_exc, PD.v_test, PD.v_testR, PD.v_testR_exc, PD.v_andV, PD.v_orV, PD.v_selV_t, PD.v_selV_f, PD.v_notV, PD.v_notV', PD.v_chain, PD.v_chain_t, PD.v_chain_f, PD.v_add_i, PD.v_add_s, PD.v_add_l, PD.v_add_t, PD.v_cat, PD.v_sub, PD.v_mul, PD.v_div, PD.v_mod, PD.v_pow, PD.v_neg, PD.v_cmp, PD.v_eq_ii, PD.v_eq_bb, PD.v_eq_ss, PD.v_eq_nn, PD.v_ne_ii, PD.v_ne_bb, PD.v_ne_ss, PD.v_eq_ll, PD.v_eq_tt, PD.v_ne_ll, PD.v_ne_tt, PD.v_eq0, PD.v_in_t, PD.v_in_l, PD.v_flat_i, PD.v_flat_s, PD.v_flat_b, PD.v_flat_n, PD.v_isB, PD.v_isN_n, PD.v_isN_i, PD.v_isN_t, PD.v_isN_l, PD.v_isN_s, PD.v_ix_l, PD.v_ix_t, PD.v_ix_s, PD.v_slN, PD.v_slV_l, PD.v_slV_t, PD.v_slV_s, PD.v_len_l, PD.v_len_t, PD.v_len_s, PD.v_len_d, PD.v_list_l, PD.v_list_t, PD.v_tuple_l, PD.v_tuple_t, PD.v_sorted, PD.v_seqOf_l, PD.v_seqOf_t, PD.v_keyOf_i, PD.v_keyOf_s, PD.v_data_l, PD.v_data_d, PD.v_isi, PD.v_isi_int, PD.v_isi_bool, PD.v_isi_str, PD.v_isi_list, PD.v_isi_tuple, PD.i_int_i, PD.i_bool_i, PD.i_tuple_i, PD.i_tuple_t, PD.i_int_t, PD.i_list_l, PD.i_str_s, PD.i_bool_b, PD.v_hTup, PD.v_hCons, PD.v_hNil, PD.w_seq, PD.w_asg, PD.w_outO_s, PD.w_outO_n, PD.w_ret, PD.w_retN, PD.w_retV, PD.w_ret0, PD.w_V, PD.w_Vr, PD.w_C, PD.w_op, PD.w_un, PD.w_CB, PD.w_cons, PD.w_nil, PD.w_tup, PD.w_lst, PD.w_ob, PD.w_call, PD.w_new, PD.w_app, PD.w_ext, PD.w_pop, PD.w_popD, PD.w_putAt, PD.w_aug, PD.w_frz, PD.w_ahead, PD.w_forget, PD.w_forO_nx, PD.w_forO_bk, PD.w_forO_ct, PD.w_forO_rt, PD.w_forO_rn, PD.w_forO_exc, PD.w_drop, PD.w_next, PD.w_bk, PD.w_ct, PD.w_exc, PD.w_lc, PD.w_itL, PD.w_itl, PD.w_itT, PD.w_itt, PD.w_itV, PD.w_itv, PD.w_rng1, PD.w_rng1', PD.w_rng2, PD.w_rng2', PD.w_lrg1, PD.w_lrg1', PD.w_sl, PD.w_no, PD.w_part, PD.w_part', PD.w_newD, PD.w_putD, PD.w_inD, PD.w_getD, PD.w_maxD, PD.w_count, PD.w_for, PD.w_hSet, PD.w_appPop, PD.w_apD, forgetE, owL, putL, owD, putOD, frzE, initE, noPm, wipeE, sizeLine_eq, List.getElem?_cons_zero, List.getElem?_cons_succ, List.set_cons_zero, List.set_cons_succ, List.map_cons, List.map_nil, List.length_cons, List.length_nil, List.replicate, List.cons_append, List.nil_append, Option.bind_some, Option.bind_none, Option.map_some, Option.map_none, ite_true, ite_false, if_true, if_false, reduceCtorEq, Nat.reduceAdd, Nat.reduceSub, Nat.reduceLeDiff, Bool.and_true, Bool.true_and, Bool.and_false, Bool.false_and, Bool.or_true, Bool.true_or, Bool.or_false, Bool.false_or, Bool.not_true, Bool.not_false, decide_true, decide_false, Bool.false_eq_true, Int.reduceEq, Int.reduceBEq, Option.isSome_some, Option.isSome_none, List.all_cons, List.all_nil, and_self, and_true, true_and, map_snoc]
theorem drawAll (cells : D) : ∀ (cs xs ys : List Int), cs.length = ys.length → xs.length + ys.length ≤ 30 → (∀ c ∈ cs, Builtin.Int.intBits c ≤ 1048576) →
    ∃ zs : List Int, zs.Perm (xs ++ ys) ∧ forF (hSet 3) B__law_tree_1 (cs.map .int) [.fr cells, .ow (.l (ys.map .int)), .ow (.l (xs.map .int)), .un, .un, .un] = .nx [.fr cells, .ow (.l []), .ow (.l (zs.map .int)), .un, .un, .un]
  | [], xs, ys, h, _, _ => by
    have : ys = [] := List.length_eq_zero_iff.mp h.symm
    subst this
    exact ⟨xs, by simp, rfl⟩
  | c :: cs, xs, ys, h, hl, hb => by
    simp only [List.length_cons] at h
    obtain ⟨x, ys', p, e⟩ := drawStep cells xs ys c (fun q => by subst q; simp at h) (by omega) (by omega) (hb c List.mem_cons_self)
    have pl := p.length_eq
    simp only [List.length_cons] at pl
    obtain ⟨zs, p2, e2⟩ := drawAll cells cs (xs ++ [x]) ys' (by omega) (by simp only [List.length_append, List.length_singleton]; omega) fun c hc => hb c (List.mem_cons_of_mem _ hc)
    refine ⟨zs, p2.trans ?_, ?_⟩
    · rw [List.append_assoc]
      exact List.Perm.append_left xs p.symm
    · rw [List.map_cons]
      unfold forF
      simp only [PD.v_bind_ok, PD.v_bind_exc, PD.v_bind_stuck, PD.v_bindS_ok, PD.v_bindS_exc, PD.v_bindS_stuck, PD.v_of_some, PD.v_of_none, PD.v_seq_nx, PD.v_seq_rt, PD.v_seq_rn, PD.v_seq_bk, PD.v_seq_ct, PD.v_seq_exc, PD.v_seq_stuck, PD.v_ifS, PD.v_sel_t, PD.v_sel_f, PD.v_sel_exc, PD.v_sel_stuck, PD.v_if, PD.v_and, PD.v_or, PD.v_selR_t, PD.v_selR_f, PD.v_selR_exc, PD.v_selR_stuck, PD.v_not, PD.v_notR, PD.v_notR_exc, PD.v_test, PD.v_testR, PD.v_testR_exc, PD.v_andV, PD.v_orV, PD.v_selV_t, PD.v_selV_f, PD.v_notV, PD.v_notV', PD.v_chain, PD.v_chain_t, PD.v_chain_f, PD.v_add_i, PD.v_add_s, PD.v_add_l, PD.v_add_t, PD.v_cat, PD.v_sub, PD.v_mul, PD.v_div, PD.v_mod, PD.v_pow, PD.v_neg, PD.v_cmp, PD.v_eq_ii, PD.v_eq_bb, PD.v_eq_ss, PD.v_eq_nn, PD.v_ne_ii, PD.v_ne_bb, PD.v_ne_ss, PD.v_eq_ll, PD.v_eq_tt, PD.v_ne_ll, PD.v_ne_tt, PD.v_eq0, PD.v_in_t, PD.v_in_l, PD.v_flat_i, PD.v_flat_s, PD.v_flat_b, PD.v_flat_n, PD.v_isB, PD.v_isN_n, PD.v_isN_i, PD.v_isN_t, PD.v_isN_l, PD.v_isN_s, PD.v_ix_l, PD.v_ix_t, PD.v_ix_s, PD.v_slN, PD.v_slV_l, PD.v_slV_t, PD.v_slV_s, PD.v_len_l, PD.v_len_t, PD.v_len_s, PD.v_len_d, PD.v_list_l, PD.v_list_t, PD.v_tuple_l, PD.v_tuple_t, PD.v_sorted, PD.v_seqOf_l, PD.v_seqOf_t, PD.v_keyOf_i, PD.v_keyOf_s, PD.v_data_l, PD.v_data_d, PD.v_isi, PD.v_isi_int, PD.v_isi_bool, PD.v_isi_str, PD.v_isi_list, PD.v_isi_tuple, PD.i_int_i, PD.i_bool_i, PD.i_tuple_i, PD.i_tuple_t, PD.i_int_t, PD.i_list_l, PD.i_str_s, PD.i_bool_b, PD.v_hTup, PD.v_hCons, PD.v_hNil, PD.w_seq, PD.w_asg, PD.w_outO_s, PD.w_outO_n, PD.w_ret, PD.w_retN, PD.w_retV, PD.w_ret0, PD.w_V, PD.w_Vr, PD.w_C, PD.w_op, PD.w_un, PD.w_CB, PD.w_cons, PD.w_nil, PD.w_tup, PD.w_lst, PD.w_ob, PD.w_call, PD.w_new, PD.w_app, PD.w_ext, PD.w_pop, PD.w_popD, PD.w_putAt, PD.w_aug, PD.w_frz, PD.w_ahead, PD.w_forget, PD.w_forO_nx, PD.w_forO_bk, PD.w_forO_ct, PD.w_forO_rt, PD.w_forO_rn, PD.w_forO_exc, PD.w_drop, PD.w_next, PD.w_bk, PD.w_ct, PD.w_exc, PD.w_lc, PD.w_itL, PD.w_itl, PD.w_itT, PD.w_itt, PD.w_itV, PD.w_itv, PD.w_rng1, PD.w_rng1', PD.w_rng2, PD.w_rng2', PD.w_lrg1, PD.w_lrg1', PD.w_sl, PD.w_no, PD.w_part, PD.w_part', PD.w_newD, PD.w_putD, PD.w_inD, PD.w_getD, PD.w_maxD, PD.w_count, PD.w_for, PD.w_hSet, PD.w_appPop, PD.w_apD, forgetE, owL, putL, owD, putOD, frzE, initE, noPm, wipeE, sizeLine_eq, List.getElem?_cons_zero, List.getElem?_cons_succ, List.set_cons_zero, List.set_cons_succ, List.map_cons, List.map_nil, List.length_cons, List.length_nil, List.replicate, List.cons_append, List.nil_append, Option.bind_some, Option.bind_none, Option.map_some, Option.map_none, ite_true, ite_false, if_true, if_false, reduceCtorEq, Nat.reduceAdd, Nat.reduceSub, Nat.reduceLeDiff, Bool.and_true, Bool.true_and, Bool.and_false, Bool.false_and, Bool.or_true, Bool.true_or, Bool.or_false, Bool.false_or, Bool.not_true, Bool.not_false, decide_true, decide_false, Bool.false_eq_true, Int.reduceEq, Int.reduceBEq, Option.isSome_some, Option.isSome_none, List.all_cons, List.all_nil, and_self, and_true, true_and, e]
      exact e2
theorem kindAt (c : Int) : ∃ k : Str, dIx (.str "|-") (.int (c % 2)) = some (.str k) ∧ (k == ("|" : Str) || k == ("-" : Str)) = true := by
  rcases Int.emod_two_eq c with h | h <;> rw [h]
  · exact ⟨"|", rfl, by decide⟩
  · exact ⟨"-", rfl, by decide⟩
theorem joinAt (cells : D) (items : List D) (ms : List Int) (c : Int) (h : TrL "" items ms) (hl : 2 ≤ items.length) (hl2 : items.length ≤ 30) (hw : wtL items ≤ 1000000) :
    ∃ items' ms', TrL "" items' ms' ∧ ms'.Perm ms ∧ items'.length + 1 = items.length ∧ wtL items' ≤ wtL items + 3 ∧
      B__law_tree_2 [.fr cells, .ow (.l []), .ow (.l items), .fr (.int c), .un, .un] = .nx [.fr cells, .ow (.l []), .ow (.l items'), .un, .un, .un] := by
  have m0 := Int.emod_nonneg (c / 2) (show (((items.length : Nat) : Int) - 1) ≠ 0 by omega)
  have m1 := Int.emod_lt_of_pos (c / 2) (show (0 : Int) < ((items.length : Nat) : Int) - 1 by omega)
  obtain ⟨i, hi, hi2⟩ : ∃ i : Nat, c / 2 % (((items.length : Nat) : Int) - 1) = (i : Int) ∧ i + 1 < items.length := ⟨(c / 2 % (((items.length : Nat) : Int) - 1)).toNat, by omega, by omega⟩
  obtain ⟨A, x, y, B, rfl, rfl⟩ : ∃ A x y B, items = A ++ x :: y :: B ∧ A.length = i := by
    refine ⟨items.take i, items[i], items[i + 1], items.drop (i + 2), ?_, by rw [List.length_take]; omega⟩
    rw [← List.drop_eq_getElem_cons, ← List.drop_eq_getElem_cons, List.take_append_drop]
  obtain ⟨a, b, ha, hb, rfl⟩ := h.split
  cases hb with
  | cons _ _ _ mx bs hx hb =>
    cases hb with
    | cons _ _ _ my bs hy hb =>
      have hwt : wtL A + (wt x + (wt y + wtL B)) ≤ 1000000 := by
        have := hw; rw [wtL_app] at this; simpa only [wtL] using this
      obtain ⟨k, hk1, hk2⟩ := kindAt c
      obtain ⟨t, mt, j1, j2, j3, j4⟩ := ev_join hk2 hx hy (by omega)
      refine ⟨A ++ [t] ++ B, (bs ++ mt) ++ a, ?_, ?_, ?_, ?_, ?_⟩
      · have q := (ha.app (.one j2)).app hb
        rw [List.append_assoc bs]
        exact q
      · refine List.Perm.append_right a ?_
        rw [List.append_assoc]
        exact List.Perm.append_left bs (j3.trans List.perm_append_comm)
      · simp only [List.length_append, List.length_cons, List.length_nil]; omega
      · simp only [wtL_app, wtL]; omega
      · have hd : divOk 2 = true := rfl
        have hd2 : divOk (((((A ++ x :: y :: B).length : Nat)) : Int) - 1) = true := divOk_iff.mpr (by omega)
        have e1 : atI (A ++ x :: y :: B) ((A.length : Nat) : Int) = some x := atI_mid A _ x
        have e2 : atI (A ++ x :: y :: B) (((A.length : Nat) : Int) + 1) = some y := by
          have := atI_mid (A ++ [x]) B y
          simp only [List.append_assoc, List.cons_append, List.nil_append, List.length_append, List.length_cons, List.length_nil, Int.natCast_add] at this
          exact this
        have c1 : cutD (A ++ x :: y :: B) none (some ((A.length : Nat) : Int)) = A := by rw [cut_to]; simp
        have c2 : cutD (A ++ x :: y :: B) (some (((A.length : Nat) : Int) + 2)) none = B := by
          have := cut_from (A ++ x :: y :: B) (A.length + 2)
          rw [show (((A.length + 2 : Nat)) : Int) = ((A.length : Nat) : Int) + 2 by omega] at this
          rw [this, List.drop_append]
          simp
        simp only [List.length_append, List.length_cons] at hl2
        have hs1 : A.length + 1 ≤ 16777216 := by omega
        have hs2 : (A ++ [t]).length + B.length ≤ 16777216 := by simp only [List.length_append, List.length_cons, List.length_nil]; omega
        have hk1' : dIx (.str "|-") (.int (c % 2)) = some (.str k) := hk1
        unfold B__law_tree_2
        simp only [PD.w_forget, PD.w_seq, PD.w_asg, PD.w_op, PD.w_Vr, PD.w_V, PD.w_C, PD.w_CB, PD.w_cons, PD.w_nil, PD.v_bind_ok, PD.v_bindS_ok, PD.v_of_some, PD.v_sub, PD.v_div, PD.v_mod, PD.v_len_l, v_data_l, hd, hd2, hi, if_true, List.getElem?_cons_zero, List.getElem?_cons_succ, PD.w_hSet, PD.w_outO_s, PD.v_seq_nx, List.set_cons_succ, List.set_cons_zero, PD.w_call, hk1', PD.v_ix_l, e1, e2, PD.v_add_i, j1]
        simp only [PD.v_bind_ok, PD.v_bind_exc, PD.v_bind_stuck, PD.v_bindS_ok, PD.v_bindS_exc, PD.v_bindS_stuck, PD.v_of_some, PD.v_of_none, PD.v_seq_nx, PD.v_seq_rt, PD.v_seq_rn, PD.v_seq_bk, PD.v_seq_ct, PD.v_seq_exc, PD.v_seq_stuck, PD.v_ifS, PD.v_sel_t, PD.v_sel_f, PD.v_sel_exc, PD.v_sel_stuck, PD.v_if, PD.v_and, PD.v_or, PD.v_selR_t, PD.v_selR_f, PD.v_selR_exc, PD.v_selR_stuck, PD.v_not, PD.v_notR, PD.v_notR_exc, PD.v_test, PD.v_testR, PD.v_testR_exc, PD.v_andV, PD.v_orV, PD.v_selV_t, PD.v_selV_f, PD.v_notV, PD.v_notV', PD.v_chain, PD.v_chain_t, PD.v_chain_f, PD.v_add_i, PD.v_add_s, PD.v_add_l, PD.v_add_t, PD.v_cat, PD.v_sub, PD.v_mul, PD.v_div, PD.v_mod, PD.v_pow, PD.v_neg, PD.v_cmp, PD.v_eq_ii, PD.v_eq_bb, PD.v_eq_ss, PD.v_eq_nn, PD.v_ne_ii, PD.v_ne_bb, PD.v_ne_ss, PD.v_eq_ll, PD.v_eq_tt, PD.v_ne_ll, PD.v_ne_tt, PD.v_eq0, PD.v_in_t, PD.v_in_l, PD.v_flat_i, PD.v_flat_s, PD.v_flat_b, PD.v_flat_n, PD.v_isB, PD.v_isN_n, PD.v_isN_i, PD.v_isN_t, PD.v_isN_l, PD.v_isN_s, PD.v_ix_l, PD.v_ix_t, PD.v_ix_s, PD.v_slN, PD.v_slV_l, PD.v_slV_t, PD.v_slV_s, PD.v_len_l, PD.v_len_t, PD.v_len_s, PD.v_len_d, PD.v_list_l, PD.v_list_t, PD.v_tuple_l, PD.v_tuple_t, PD.v_sorted, PD.v_seqOf_l, PD.v_seqOf_t, PD.v_keyOf_i, PD.v_keyOf_s, PD.v_data_l, PD.v_data_d, PD.v_isi, PD.v_isi_int, PD.v_isi_bool, PD.v_isi_str, PD.v_isi_list, PD.v_isi_tuple, PD.i_int_i, PD.i_bool_i, PD.i_tuple_i, PD.i_tuple_t, PD.i_int_t, PD.i_list_l, PD.i_str_s, PD.i_bool_b, PD.v_hTup, PD.v_hCons, PD.v_hNil, PD.w_seq, PD.w_asg, PD.w_outO_s, PD.w_outO_n, PD.w_ret, PD.w_retN, PD.w_retV, PD.w_ret0, PD.w_V, PD.w_Vr, PD.w_C, PD.w_op, PD.w_un, PD.w_CB, PD.w_cons, PD.w_nil, PD.w_tup, PD.w_lst, PD.w_ob, PD.w_call, PD.w_new, PD.w_app, PD.w_ext, PD.w_pop, PD.w_popD, PD.w_putAt, PD.w_aug, PD.w_frz, PD.w_ahead, PD.w_forget, PD.w_forO_nx, PD.w_forO_bk, PD.w_forO_ct, PD.w_forO_rt, PD.w_forO_rn, PD.w_forO_exc, PD.w_drop, PD.w_next, PD.w_bk, PD.w_ct, PD.w_exc, PD.w_lc, PD.w_itL, PD.w_itl, PD.w_itT, PD.w_itt, PD.w_itV, PD.w_itv, PD.w_rng1, PD.w_rng1', PD.w_rng2, PD.w_rng2', PD.w_lrg1, PD.w_lrg1', PD.w_sl, PD.w_no, PD.w_part, PD.w_part', PD.w_newD, PD.w_putD, PD.w_inD, PD.w_getD, PD.w_maxD, PD.w_count, PD.w_for, PD.w_hSet, PD.w_appPop, PD.w_apD, forgetE, owL, putL, owD, putOD, frzE, initE, noPm, wipeE, sizeLine_eq, List.getElem?_cons_zero, List.getElem?_cons_succ, List.set_cons_zero, List.set_cons_succ, List.map_cons, List.map_nil, List.length_cons, List.length_nil, List.replicate, List.cons_append, List.nil_append, Option.bind_some, Option.bind_none, Option.map_some, Option.map_none, ite_true, ite_false, if_true, if_false, reduceCtorEq, Nat.reduceAdd, Nat.reduceSub, Nat.reduceLeDiff, Bool.and_true, Bool.true_and, Bool.and_false, Bool.false_and, Bool.or_true, Bool.true_or, Bool.or_false, Bool.false_or, Bool.not_true, Bool.not_false, decide_true, decide_false, Bool.false_eq_true, Int.reduceEq, Int.reduceBEq, Option.isSome_some, Option.isSome_none, List.all_cons, List.all_nil, and_self, and_true, true_and, c1, c2, hs1, hs2]
theorem joinAll (cells : D) : ∀ (cs : List Int) (items : List D) (ms : List Int), TrL "" items ms → items.length = cs.length + 1 → items.length ≤ 30 → wtL items + 3 * cs.length ≤ 1000000 →
    ∃ t ms', Tr "" t ms' ∧ ms'.Perm ms ∧ wt t ≤ wtL items + 3 * cs.length ∧ forF (hSet 3) B__law_tree_2 (cs.map .int) [.fr cells, .ow (.l []), .ow (.l items), .un, .un, .un] = .nx [.fr cells, .ow (.l []), .ow (.l [t]), .un, .un, .un]
  | [], items, ms, h, hl, _, hw => by
    match items, hl with
    | [t], _ => exact ⟨t, ms, Tr.of_one h, List.Perm.refl _, by simp only [wtL]; omega, rfl⟩
  | c :: cs, items, ms, h, hl, hl2, hw => by
    simp only [List.length_cons] at hl hw
    obtain ⟨items', ms', h1, h2, h3, h4, h5⟩ := joinAt cells items ms c h (by omega) hl2 (by omega)
    obtain ⟨t, ms2, g1, g2, g3, g4⟩ := joinAll cells cs items' ms' h1 (by omega) (by omega) (by omega)
    refine ⟨t, ms2, g1, g2.trans h2, by simp only [List.length_cons]; omega, ?_⟩
    rw [List.map_cons]
    unfold forF
    simp only [PD.v_bind_ok, PD.v_bind_exc, PD.v_bind_stuck, PD.v_bindS_ok, PD.v_bindS_exc, PD.v_bindS_stuck, PD.v_of_some, PD.v_of_none, PD.v_seq_nx, PD.v_seq_rt, PD.v_seq_rn, PD.v_seq_bk, PD.v_seq_ct, PD.v_seq_exc, PD.v_seq_stuck, PD.v_ifS, PD.v_sel_t, PD.v_sel_f, PD.v_sel_exc, PD.v_sel_stuck, PD.v_if, PD.v_and, PD.v_or, PD.v_selR_t, PD.v_selR_f, PD.v_selR_exc, PD.v_selR_stuck, PD.v_not, PD.v_notR, PD.v_notR_exc, PD.v_test, PD.v_testR, PD.v_testR_exc, PD.v_andV, PD.v_orV, PD.v_selV_t, PD.v_selV_f, PD.v_notV, PD.v_notV', PD.v_chain, PD.v_chain_t, PD.v_chain_f, PD.v_add_i, PD.v_add_s, PD.v_add_l, PD.v_add_t, PD.v_cat, PD.v_sub, PD.v_mul, PD.v_div, PD.v_mod, PD.v_pow, PD.v_neg, PD.v_cmp, PD.v_eq_ii, PD.v_eq_bb, PD.v_eq_ss, PD.v_eq_nn, PD.v_ne_ii, PD.v_ne_bb, PD.v_ne_ss, PD.v_eq_ll, PD.v_eq_tt, PD.v_ne_ll, PD.v_ne_tt, PD.v_eq0, PD.v_in_t, PD.v_in_l, PD.v_flat_i, PD.v_flat_s, PD.v_flat_b, PD.v_flat_n, PD.v_isB, PD.v_isN_n, PD.v_isN_i, PD.v_isN_t, PD.v_isN_l, PD.v_isN_s, PD.v_ix_l, PD.v_ix_t, PD.v_ix_s, PD.v_slN, PD.v_slV_l, PD.v_slV_t, PD.v_slV_s, PD.v_len_l, PD.v_len_t, PD.v_len_s, PD.v_len_d, PD.v_list_l, PD.v_list_t, PD.v_tuple_l, PD.v_tuple_t, PD.v_sorted, PD.v_seqOf_l, PD.v_seqOf_t, PD.v_keyOf_i, PD.v_keyOf_s, PD.v_data_l, PD.v_data_d, PD.v_isi, PD.v_isi_int, PD.v_isi_bool, PD.v_isi_str, PD.v_isi_list, PD.v_isi_tuple, PD.i_int_i, PD.i_bool_i, PD.i_tuple_i, PD.i_tuple_t, PD.i_int_t, PD.i_list_l, PD.i_str_s, PD.i_bool_b, PD.v_hTup, PD.v_hCons, PD.v_hNil, PD.w_seq, PD.w_asg, PD.w_outO_s, PD.w_outO_n, PD.w_ret, PD.w_retN, PD.w_retV, PD.w_ret0, PD.w_V, PD.w_Vr, PD.w_C, PD.w_op, PD.w_un, PD.w_CB, PD.w_cons, PD.w_nil, PD.w_tup, PD.w_lst, PD.w_ob, PD.w_call, PD.w_new, PD.w_app, PD.w_ext, PD.w_pop, PD.w_popD, PD.w_putAt, PD.w_aug, PD.w_frz, PD.w_ahead, PD.w_forget, PD.w_forO_nx, PD.w_forO_bk, PD.w_forO_ct, PD.w_forO_rt, PD.w_forO_rn, PD.w_forO_exc, PD.w_drop, PD.w_next, PD.w_bk, PD.w_ct, PD.w_exc, PD.w_lc, PD.w_itL, PD.w_itl, PD.w_itT, PD.w_itt, PD.w_itV, PD.w_itv, PD.w_rng1, PD.w_rng1', PD.w_rng2, PD.w_rng2', PD.w_lrg1, PD.w_lrg1', PD.w_sl, PD.w_no, PD.w_part, PD.w_part', PD.w_newD, PD.w_putD, PD.w_inD, PD.w_getD, PD.w_maxD, PD.w_count, PD.w_for, PD.w_hSet, PD.w_appPop, PD.w_apD, forgetE, owL, putL, owD, putOD, frzE, initE, noPm, wipeE, sizeLine_eq, List.getElem?_cons_zero, List.getElem?_cons_succ, List.set_cons_zero, List.set_cons_succ, List.map_cons, List.map_nil, List.length_cons, List.length_nil, List.replicate, List.cons_append, List.nil_append, Option.bind_some, Option.bind_none, Option.map_some, Option.map_none, ite_true, ite_false, if_true, if_false, reduceCtorEq, Nat.reduceAdd, Nat.reduceSub, Nat.reduceLeDiff, Bool.and_true, Bool.true_and, Bool.and_false, Bool.false_and, Bool.or_true, Bool.true_or, Bool.or_false, Bool.false_or, Bool.not_true, Bool.not_false, decide_true, decide_false, Bool.false_eq_true, Int.reduceEq, Int.reduceBEq, Option.isSome_some, Option.isSome_none, List.all_cons, List.all_nil, and_self, and_true, true_and, h5]
    exact g4
theorem TrL.ints (zs : List Int) : ∃ ms, TrL "" (zs.map .int) ms ∧ ms.Perm zs := by
  induction zs with
  | nil => exact ⟨[], .nil _, List.Perm.refl _⟩
  | cons z zs ih =>
    obtain ⟨ms, h, p⟩ := ih
    exact ⟨ms ++ [z], .cons _ _ _ _ _ (.num _ z) h, (List.perm_append_comm).trans (List.Perm.cons z p)⟩
theorem wtL_ints (zs : List Int) : wtL (zs.map .int) = zs.length := by
  induction zs with
  | nil => rfl
  | cons z zs ih => simp only [List.map_cons, wtL, wt, ih, List.length_cons]; omega
theorem ev_law_tree (cs : List Int) (hl : cs.length ≤ 23) (hb : ∀ c ∈ cs, Builtin.Int.intBits c ≤ 1048576) :
    ∃ t ms, f__law_tree [.list (cs.map .int)] = .ok t ∧ Tr "" t ms ∧ ms.Perm (rgI 0 (cs.length + 1)) ∧ wt t ≤ 200 := by
  obtain ⟨zs, z1, z2⟩ := drawAll (.list (cs.map .int)) (cs ++ [0]) [] (rgI 0 (cs.length + 1)) (by rw [List.length_append, rgI_len]; rfl) (by rw [rgI_len]; simp; omega) (by
    intro c hc
    rcases List.mem_append.mp hc with h | h
    · exact hb c h
    · rw [List.mem_singleton.mp h]; decide)
  rw [List.nil_append] at z1
  have zl : zs.length = cs.length + 1 := by rw [z1.length_eq, rgI_len]
  obtain ⟨m0, t0, p0⟩ := TrL.ints zs
  obtain ⟨t, ms, h1, h2, h3, h4⟩ := joinAll (.list (cs.map .int)) cs (zs.map .int) m0 t0 (by rw [List.length_map, zl]) (by rw [List.length_map]; omega) (by rw [wtL_ints]; omega)
  rw [wtL_ints] at h3
  refine ⟨t, ms, ?_, h1, (h2.trans p0).trans z1, by omega⟩
  unfold f__law_tree funT F__law_tree
  have hr : rgOk (((cs.length : Nat) : Int) + 1) = true := by
    exact rgOk_iff.mpr (by omega)
  have ht : (((cs.length : Nat) : Int) + 1).toNat = cs.length + 1 := by omega
  have hs : cs.length + 1 ≤ 16777216 := by omega
  have z2' : forF (hSet 3) B__law_tree_1 (cs.map PyData.int ++ [.int 0]) [.fr (.list (cs.map .int)), .ow (.l ((rgI 0 (cs.length + 1)).map .int)), .ow (.l []), .un, .un, .un] = .nx [.fr (.list (cs.map .int)), .ow (.l []), .ow (.l (zs.map .int)), .un, .un, .un] := by
    rw [map_snoc]; exact z2
  simp only [PD.v_bind_ok, PD.v_bind_exc, PD.v_bind_stuck, PD.v_bindS_ok, PD.v_bindS_exc, PD.v_bindS_stuck, PD.v_of_some, PD.v_of_none, PD.v_seq_nx, PD.v_seq_rt, PD.v_seq_rn, PD.v_seq_bk, PD.v_seq_ct, PD.v_seq_exc, PD.v_seq_stuck, PD.v_ifS, PD.v_sel_t, PD.v_sel_f, PD.v_sel_exc, PD.v_sel_stuck, PD.v_if, PD.v_and, PD.v_or, PD.v_selR_t, PD.v_selR_f, PD.v_selR_exc, PD.v_selR_stuck, PD.v_not, PD.v_notR, PD.v_notR_exc, PD.v_test, PD.v_testR, PD.v_testR_exc, PD.v_andV, PD.v_orV, PD.v_selV_t, PD.v_selV_f, PD.v_notV, PD.v_notV', PD.v_chain, PD.v_chain_t, PD.v_chain_f, PD.v_add_i, PD.v_add_s, PD.v_add_l, PD.v_add_t, PD.v_cat, PD.v_sub, PD.v_mul, PD.v_div, PD.v_mod, PD.v_pow, PD.v_neg, PD.v_cmp, PD.v_eq_ii, PD.v_eq_bb, PD.v_eq_ss, PD.v_eq_nn, PD.v_ne_ii, PD.v_ne_bb, PD.v_ne_ss, PD.v_eq_ll, PD.v_eq_tt, PD.v_ne_ll, PD.v_ne_tt, PD.v_eq0, PD.v_in_t, PD.v_in_l, PD.v_flat_i, PD.v_flat_s, PD.v_flat_b, PD.v_flat_n, PD.v_isB, PD.v_isN_n, PD.v_isN_i, PD.v_isN_t, PD.v_isN_l, PD.v_isN_s, PD.v_ix_l, PD.v_ix_t, PD.v_ix_s, PD.v_slN, PD.v_slV_l, PD.v_slV_t, PD.v_slV_s, PD.v_len_l, PD.v_len_t, PD.v_len_s, PD.v_len_d, PD.v_list_l, PD.v_list_t, PD.v_tuple_l, PD.v_tuple_t, PD.v_sorted, PD.v_seqOf_l, PD.v_seqOf_t, PD.v_keyOf_i, PD.v_keyOf_s, PD.v_data_l, PD.v_data_d, PD.v_isi, PD.v_isi_int, PD.v_isi_bool, PD.v_isi_str, PD.v_isi_list, PD.v_isi_tuple, PD.i_int_i, PD.i_bool_i, PD.i_tuple_i, PD.i_tuple_t, PD.i_int_t, PD.i_list_l, PD.i_str_s, PD.i_bool_b, PD.v_hTup, PD.v_hCons, PD.v_hNil, PD.w_seq, PD.w_asg, PD.w_outO_s, PD.w_outO_n, PD.w_ret, PD.w_retN, PD.w_retV, PD.w_ret0, PD.w_V, PD.w_Vr, PD.w_C, PD.w_op, PD.w_un, PD.w_CB, PD.w_cons, PD.w_nil, PD.w_tup, PD.w_lst, PD.w_ob, PD.w_call, PD.w_new, PD.w_app, PD.w_ext, PD.w_pop, PD.w_popD, PD.w_putAt, PD.w_aug, PD.w_frz, PD.w_ahead, PD.w_forget, PD.w_forO_nx, PD.w_forO_bk, PD.w_forO_ct, PD.w_forO_rt, PD.w_forO_rn, PD.w_forO_exc, PD.w_drop, PD.w_next, PD.w_bk, PD.w_ct, PD.w_exc, PD.w_lc, PD.w_itL, PD.w_itl, PD.w_itT, PD.w_itt, PD.w_itV, PD.w_itv, PD.w_rng1, PD.w_rng1', PD.w_rng2, PD.w_rng2', PD.w_lrg1, PD.w_lrg1', PD.w_sl, PD.w_no, PD.w_part, PD.w_part', PD.w_newD, PD.w_putD, PD.w_inD, PD.w_getD, PD.w_maxD, PD.w_count, PD.w_for, PD.w_hSet, PD.w_appPop, PD.w_apD, forgetE, owL, putL, owD, putOD, frzE, initE, noPm, wipeE, sizeLine_eq, List.getElem?_cons_zero, List.getElem?_cons_succ, List.set_cons_zero, List.set_cons_succ, List.map_cons, List.map_nil, List.length_cons, List.length_nil, List.replicate, List.cons_append, List.nil_append, Option.bind_some, Option.bind_none, Option.map_some, Option.map_none, ite_true, ite_false, if_true, if_false, reduceCtorEq, Nat.reduceAdd, Nat.reduceSub, Nat.reduceLeDiff, Bool.and_true, Bool.true_and, Bool.and_false, Bool.false_and, Bool.or_true, Bool.true_or, Bool.or_false, Bool.false_or, Bool.not_true, Bool.not_false, decide_true, decide_false, Bool.false_eq_true, Int.reduceEq, Int.reduceBEq, Option.isSome_some, Option.isSome_none, List.all_cons, List.all_nil, and_self, and_true, true_and, List.length_map, hr, ht, rgD_I, hs, z2', h4, atI_0]

end K33

set_option Elab.async false
set_option linter.all false
set_option maxRecDepth 100000
set_option maxHeartbeats 1000000
namespace K33
open PySem L2 PD
/-! knots, ways and putting -/
def wayD (w : List Nat) : D := .list (w.map fun k => .int ((k : Nat) : Int))
def child (d : D) (i : Nat) : Option D := match d with
  | .tuple [.str _, .tuple ps] => ps[i]?
  | _ => none
def follow (d : D) : List Nat → Option D
  | [] => some d
  | i :: w => (child d i).bind fun p => follow p w
theorem follow_snoc (i : Nat) : ∀ (w : List Nat) (d x p : D), follow d w = some x → child x i = some p → follow d (w ++ [i]) = some p
  | [], d, x, p, h, hc => by cases h; simp only [List.nil_append, follow, hc, Option.bind_some]
  | j :: w, d, x, p, h, hc => by
    simp only [follow, List.cons_append] at h ⊢
    cases q : child d j with
    | none => rw [q] at h; cases h
    | some y => rw [q] at h; exact follow_snoc i w y x p h hc
/-- a knot found: reached by its way, and a tree itself -/
def Kn (t : D) (e : D × List Nat) : Prop := follow t e.2 = some e.1 ∧ ∃ a ms, Tr a e.1 ms
def kd (e : D × List Nat) : D := .tuple [e.1, wayD e.2]
def layK (st : List (D × List Nat)) : List D := (st.map kd).reverse
theorem layK_cons (e : D × List Nat) (st : List (D × List Nat)) : layK (e :: st) = layK st ++ [kd e] := by unfold layK; rw [List.map_cons, List.reverse_cons]
theorem layK_len (st : List (D × List Nat)) : (layK st).length = st.length := by simp [layK]
def wtK : List (D × List Nat) → Nat
  | [] => 0
  | (d, _) :: st => wt d + wtK st
theorem wtK_app (s t : List (D × List Nat)) : wtK (s ++ t) = wtK s + wtK t := by
  induction s with
  | nil => simp [wtK]
  | cons x s ih => simp [wtK, ih, Nat.add_assoc]
theorem wtK_len (s : List (D × List Nat)) : s.length ≤ wtK s := by
  induction s with
  | nil => simp [wtK]
  | cons x s ih => have := wt_pos x.1; simp only [List.length_cons, wtK]; omega
def kids (w : List Nat) : Nat → List D → List (D × List Nat) → List (D × List Nat)
  | _, [], st => st
  | i, p :: ps, st => kids w (i + 1) ps ((p, w ++ [i]) :: st)
theorem kids_wt (w : List Nat) : ∀ (ps : List D) (i : Nat) (st : List (D × List Nat)), wtK (kids w i ps st) = wtL ps + wtK st
  | [], i, st => by simp only [kids, wtL]; omega
  | p :: ps, i, st => by
    simp only [kids, kids_wt w ps (i + 1), wtK, wtL]; omega
theorem kids_mem (w : List Nat) : ∀ (ps : List D) (i : Nat) (st : List (D × List Nat)) (e : D × List Nat), e ∈ kids w i ps st → e ∈ st ∨ ∃ j p, ps[j]? = some p ∧ e = (p, w ++ [i + j])
  | [], i, st, e, h => .inl h
  | p :: ps, i, st, e, h => by
    rcases kids_mem w ps (i + 1) _ e h with h | ⟨j, q, h1, h2⟩
    · rcases List.mem_cons.mp h with h | h
      · exact .inr ⟨0, p, rfl, h⟩
      · exact .inl h
    · exact .inr ⟨j + 1, q, h1, by rw [h2]; congr 3; omega⟩
def ρK (t : D) (found pile : List D) : PD.Env := [.fr t, .ow (.l found), .ow (.l pile), .un, .un, .un]
theorem condK_eq (t : D) (found pile : List D) : C__law_knots_1 (ρK t found pile) = .ok (!pile.isEmpty) := by
  unfold C__law_knots_1 ρK
  simp only [PD.v_bind_ok, PD.v_bind_exc, PD.v_bind_stuck, PD.v_bindS_ok, PD.v_bindS_exc, PD.v_bindS_stuck, PD.v_of_some, PD.v_of_none, PD.v_seq_nx, PD.v_seq_rt, PD.v_seq_rn, PD.v_seq_bk, PD.v_seq_ct, PD.v_seq_exc, PD.v_seq_stuck, PD.v_ifS, PD.v_sel_t, PD.v_sel_f, PD.v_sel_exc, PD.v_sel_stuck, PD.v_if, PD.v_and, PD.v_or, PD.v_selR_t, PD.v_selR_f, PD.v_selR_exc, PD.v_selR_stuck, PD.v_not, PD.v_notR, PD.v_notR_exc, PD.v_test, PD.v_testR, PD.v_testR_exc, PD.v_andV, PD.v_orV, PD.v_selV_t, PD.v_selV_f, PD.v_notV, PD.v_notV', PD.v_chain, PD.v_chain_t, PD.v_chain_f, PD.v_add_i, PD.v_add_s, PD.v_add_l, PD.v_add_t, PD.v_cat, PD.v_sub, PD.v_mul, PD.v_div, PD.v_mod, PD.v_pow, PD.v_neg, PD.v_cmp, PD.v_eq_ii, PD.v_eq_bb, PD.v_eq_ss, PD.v_eq_nn, PD.v_ne_ii, PD.v_ne_bb, PD.v_ne_ss, PD.v_eq_ll, PD.v_eq_tt, PD.v_ne_ll, PD.v_ne_tt, PD.v_eq0, PD.v_in_t, PD.v_in_l, PD.v_flat_i, PD.v_flat_s, PD.v_flat_b, PD.v_flat_n, PD.v_isB, PD.v_isN_n, PD.v_isN_i, PD.v_isN_t, PD.v_isN_l, PD.v_isN_s, PD.v_ix_l, PD.v_ix_t, PD.v_ix_s, PD.v_slN, PD.v_slV_l, PD.v_slV_t, PD.v_slV_s, PD.v_len_l, PD.v_len_t, PD.v_len_s, PD.v_len_d, PD.v_list_l, PD.v_list_t, PD.v_tuple_l, PD.v_tuple_t, PD.v_sorted, PD.v_seqOf_l, PD.v_seqOf_t, PD.v_keyOf_i, PD.v_keyOf_s, PD.v_data_l, PD.v_data_d, PD.v_isi, PD.v_isi_int, PD.v_isi_bool, PD.v_isi_str, PD.v_isi_list, PD.v_isi_tuple, PD.i_int_i, PD.i_bool_i, PD.i_tuple_i, PD.i_tuple_t, PD.i_int_t, PD.i_list_l, PD.i_str_s, PD.i_bool_b, PD.v_hTup, PD.v_hCons, PD.v_hNil, PD.w_seq, PD.w_asg, PD.w_outO_s, PD.w_outO_n, PD.w_ret, PD.w_retN, PD.w_retV, PD.w_ret0, PD.w_V, PD.w_Vr, PD.w_C, PD.w_op, PD.w_un, PD.w_CB, PD.w_cons, PD.w_nil, PD.w_tup, PD.w_lst, PD.w_ob, PD.w_call, PD.w_new, PD.w_app, PD.w_ext, PD.w_pop, PD.w_popD, PD.w_putAt, PD.w_aug, PD.w_frz, PD.w_ahead, PD.w_forget, PD.w_forO_nx, PD.w_forO_bk, PD.w_forO_ct, PD.w_forO_rt, PD.w_forO_rn, PD.w_forO_exc, PD.w_drop, PD.w_next, PD.w_bk, PD.w_ct, PD.w_exc, PD.w_lc, PD.w_itL, PD.w_itl, PD.w_itT, PD.w_itt, PD.w_itV, PD.w_itv, PD.w_rng1, PD.w_rng1', PD.w_rng2, PD.w_rng2', PD.w_lrg1, PD.w_lrg1', PD.w_sl, PD.w_no, PD.w_part, PD.w_part', PD.w_newD, PD.w_putD, PD.w_inD, PD.w_getD, PD.w_maxD, PD.w_count, PD.w_for, PD.w_hSet, PD.w_appPop, PD.w_apD, forgetE, owL, putL, owD, putOD, frzE, initE, noPm, wipeE, sizeLine_eq, List.getElem?_cons_zero, List.getElem?_cons_succ, List.set_cons_zero, List.set_cons_succ, List.map_cons, List.map_nil, List.length_cons, List.length_nil, List.replicate, List.cons_append, List.nil_append, Option.bind_some, Option.bind_none, Option.map_some, Option.map_none, ite_true, ite_false, if_true, if_false, reduceCtorEq, Nat.reduceAdd, Nat.reduceSub, Nat.reduceLeDiff, Bool.and_true, Bool.true_and, Bool.and_false, Bool.false_and, Bool.or_true, Bool.true_or, Bool.or_false, Bool.false_or, Bool.not_true, Bool.not_false, decide_true, decide_false, Bool.false_eq_true, Int.reduceEq, Int.reduceBEq, Option.isSome_some, Option.isSome_none, List.all_cons, List.all_nil, and_self, and_true, true_and]
theorem pushK (t : D) (found : List D) (k : Str) (qs : List D) (w : List Nat) (hq : qs.length ≤ 100000) (hw : w.length ≤ 100000) : ∀ (ps : List D) (i : Nat) (st : List (D × List Nat)), qs.drop i = ps → st.length + ps.length ≤ 16777216 →
    forF (hSet 5) B__law_knots_2 ((rgI i ps.length).map .int) [.fr t, .ow (.l found), .ow (.l (layK st)), .fr (.tuple [.str k, .tuple qs]), .fr (wayD w), .un] = .nx [.fr t, .ow (.l found), .ow (.l (layK (kids w i ps st))), .fr (.tuple [.str k, .tuple qs]), .fr (wayD w), .un]
  | [], i, st, _, _ => rfl
  | p :: ps, i, st, hd, hl => by
    have hi : i < qs.length := by
      have := congrArg List.length hd
      rw [List.length_drop, List.length_cons] at this
      omega
    have hp : atI qs ((i : Nat) : Int) = some p := by
      rw [atI_nat qs i hi]
      rw [List.drop_eq_getElem_cons hi] at hd
      cases hd; rfl
    have hd2 : qs.drop (i + 1) = ps := by
      rw [List.drop_eq_getElem_cons hi] at hd
      exact (List.cons.inj hd).2
    have ih := pushK t found k qs w hq hw ps (i + 1) ((p, w ++ [i]) :: st) hd2 (by simp only [List.length_cons] at hl ⊢; omega)
    simp only [List.length_cons] at hl
    have h1 : (layK st).length < 16777216 := by rw [layK_len]; omega
    have h2 : w.length + 1 ≤ 16777216 := by omega
    rw [List.length_cons, rgI_succ, List.map_cons]
    unfold forF
    have e : B__law_knots_2 [.fr t, .ow (.l found), .ow (.l (layK st)), .fr (.tuple [.str k, .tuple qs]), .fr (wayD w), .fr (.int ((i : Nat) : Int))] = .nx [.fr t, .ow (.l found), .ow (.l (layK ((p, w ++ [i]) :: st))), .fr (.tuple [.str k, .tuple qs]), .fr (wayD w), .un] := by
      rw [layK_cons]
      have hwd : wayD (w ++ [i]) = .list (w.map (fun k => PyData.int ((k : Nat) : Int)) ++ [.int ((i : Nat) : Int)]) := by unfold wayD; rw [List.map_append]; rfl
      unfold kd
      simp only [hwd]
      unfold B__law_knots_2 wayD
      simp only [PD.v_bind_ok, PD.v_bind_exc, PD.v_bind_stuck, PD.v_bindS_ok, PD.v_bindS_exc, PD.v_bindS_stuck, PD.v_of_some, PD.v_of_none, PD.v_seq_nx, PD.v_seq_rt, PD.v_seq_rn, PD.v_seq_bk, PD.v_seq_ct, PD.v_seq_exc, PD.v_seq_stuck, PD.v_ifS, PD.v_sel_t, PD.v_sel_f, PD.v_sel_exc, PD.v_sel_stuck, PD.v_if, PD.v_and, PD.v_or, PD.v_selR_t, PD.v_selR_f, PD.v_selR_exc, PD.v_selR_stuck, PD.v_not, PD.v_notR, PD.v_notR_exc, PD.v_test, PD.v_testR, PD.v_testR_exc, PD.v_andV, PD.v_orV, PD.v_selV_t, PD.v_selV_f, PD.v_notV, PD.v_notV', PD.v_chain, PD.v_chain_t, PD.v_chain_f, PD.v_add_i, PD.v_add_s, PD.v_add_l, PD.v_add_t, PD.v_cat, PD.v_sub, PD.v_mul, PD.v_div, PD.v_mod, PD.v_pow, PD.v_neg, PD.v_cmp, PD.v_eq_ii, PD.v_eq_bb, PD.v_eq_ss, PD.v_eq_nn, PD.v_ne_ii, PD.v_ne_bb, PD.v_ne_ss, PD.v_eq_ll, PD.v_eq_tt, PD.v_ne_ll, PD.v_ne_tt, PD.v_eq0, PD.v_in_t, PD.v_in_l, PD.v_flat_i, PD.v_flat_s, PD.v_flat_b, PD.v_flat_n, PD.v_isB, PD.v_isN_n, PD.v_isN_i, PD.v_isN_t, PD.v_isN_l, PD.v_isN_s, PD.v_ix_l, PD.v_ix_t, PD.v_ix_s, PD.v_slN, PD.v_slV_l, PD.v_slV_t, PD.v_slV_s, PD.v_len_l, PD.v_len_t, PD.v_len_s, PD.v_len_d, PD.v_list_l, PD.v_list_t, PD.v_tuple_l, PD.v_tuple_t, PD.v_sorted, PD.v_seqOf_l, PD.v_seqOf_t, PD.v_keyOf_i, PD.v_keyOf_s, PD.v_data_l, PD.v_data_d, PD.v_isi, PD.v_isi_int, PD.v_isi_bool, PD.v_isi_str, PD.v_isi_list, PD.v_isi_tuple, PD.i_int_i, PD.i_bool_i, PD.i_tuple_i, PD.i_tuple_t, PD.i_int_t, PD.i_list_l, PD.i_str_s, PD.i_bool_b, PD.v_hTup, PD.v_hCons, PD.v_hNil, PD.w_seq, PD.w_asg, PD.w_outO_s, PD.w_outO_n, PD.w_ret, PD.w_retN, PD.w_retV, PD.w_ret0, PD.w_V, PD.w_Vr, PD.w_C, PD.w_op, PD.w_un, PD.w_CB, PD.w_cons, PD.w_nil, PD.w_tup, PD.w_lst, PD.w_ob, PD.w_call, PD.w_new, PD.w_app, PD.w_ext, PD.w_pop, PD.w_popD, PD.w_putAt, PD.w_aug, PD.w_frz, PD.w_ahead, PD.w_forget, PD.w_forO_nx, PD.w_forO_bk, PD.w_forO_ct, PD.w_forO_rt, PD.w_forO_rn, PD.w_forO_exc, PD.w_drop, PD.w_next, PD.w_bk, PD.w_ct, PD.w_exc, PD.w_lc, PD.w_itL, PD.w_itl, PD.w_itT, PD.w_itt, PD.w_itV, PD.w_itv, PD.w_rng1, PD.w_rng1', PD.w_rng2, PD.w_rng2', PD.w_lrg1, PD.w_lrg1', PD.w_sl, PD.w_no, PD.w_part, PD.w_part', PD.w_newD, PD.w_putD, PD.w_inD, PD.w_getD, PD.w_maxD, PD.w_count, PD.w_for, PD.w_hSet, PD.w_appPop, PD.w_apD, forgetE, owL, putL, owD, putOD, frzE, initE, noPm, wipeE, sizeLine_eq, List.getElem?_cons_zero, List.getElem?_cons_succ, List.set_cons_zero, List.set_cons_succ, List.map_cons, List.map_nil, List.length_cons, List.length_nil, List.replicate, List.cons_append, List.nil_append, Option.bind_some, Option.bind_none, Option.map_some, Option.map_none, ite_true, ite_false, if_true, if_false, reduceCtorEq, Nat.reduceAdd, Nat.reduceSub, Nat.reduceLeDiff, Bool.and_true, Bool.true_and, Bool.and_false, Bool.false_and, Bool.or_true, Bool.true_or, Bool.or_false, Bool.false_or, Bool.not_true, Bool.not_false, decide_true, decide_false, Bool.false_eq_true, Int.reduceEq, Int.reduceBEq, Option.isSome_some, Option.isSome_none, List.all_cons, List.all_nil, and_self, and_true, true_and, atI_0, atI_1, hp, h1, h2, List.length_map]
    simp only [PD.v_bind_ok, PD.v_bind_exc, PD.v_bind_stuck, PD.v_bindS_ok, PD.v_bindS_exc, PD.v_bindS_stuck, PD.v_of_some, PD.v_of_none, PD.v_seq_nx, PD.v_seq_rt, PD.v_seq_rn, PD.v_seq_bk, PD.v_seq_ct, PD.v_seq_exc, PD.v_seq_stuck, PD.v_ifS, PD.v_sel_t, PD.v_sel_f, PD.v_sel_exc, PD.v_sel_stuck, PD.v_if, PD.v_and, PD.v_or, PD.v_selR_t, PD.v_selR_f, PD.v_selR_exc, PD.v_selR_stuck, PD.v_not, PD.v_notR, PD.v_notR_exc, PD.v_test, PD.v_testR, PD.v_testR_exc, PD.v_andV, PD.v_orV, PD.v_selV_t, PD.v_selV_f, PD.v_notV, PD.v_notV', PD.v_chain, PD.v_chain_t, PD.v_chain_f, PD.v_add_i, PD.v_add_s, PD.v_add_l, PD.v_add_t, PD.v_cat, PD.v_sub, PD.v_mul, PD.v_div, PD.v_mod, PD.v_pow, PD.v_neg, PD.v_cmp, PD.v_eq_ii, PD.v_eq_bb, PD.v_eq_ss, PD.v_eq_nn, PD.v_ne_ii, PD.v_ne_bb, PD.v_ne_ss, PD.v_eq_ll, PD.v_eq_tt, PD.v_ne_ll, PD.v_ne_tt, PD.v_eq0, PD.v_in_t, PD.v_in_l, PD.v_flat_i, PD.v_flat_s, PD.v_flat_b, PD.v_flat_n, PD.v_isB, PD.v_isN_n, PD.v_isN_i, PD.v_isN_t, PD.v_isN_l, PD.v_isN_s, PD.v_ix_l, PD.v_ix_t, PD.v_ix_s, PD.v_slN, PD.v_slV_l, PD.v_slV_t, PD.v_slV_s, PD.v_len_l, PD.v_len_t, PD.v_len_s, PD.v_len_d, PD.v_list_l, PD.v_list_t, PD.v_tuple_l, PD.v_tuple_t, PD.v_sorted, PD.v_seqOf_l, PD.v_seqOf_t, PD.v_keyOf_i, PD.v_keyOf_s, PD.v_data_l, PD.v_data_d, PD.v_isi, PD.v_isi_int, PD.v_isi_bool, PD.v_isi_str, PD.v_isi_list, PD.v_isi_tuple, PD.i_int_i, PD.i_bool_i, PD.i_tuple_i, PD.i_tuple_t, PD.i_int_t, PD.i_list_l, PD.i_str_s, PD.i_bool_b, PD.v_hTup, PD.v_hCons, PD.v_hNil, PD.w_seq, PD.w_asg, PD.w_outO_s, PD.w_outO_n, PD.w_ret, PD.w_retN, PD.w_retV, PD.w_ret0, PD.w_V, PD.w_Vr, PD.w_C, PD.w_op, PD.w_un, PD.w_CB, PD.w_cons, PD.w_nil, PD.w_tup, PD.w_lst, PD.w_ob, PD.w_call, PD.w_new, PD.w_app, PD.w_ext, PD.w_pop, PD.w_popD, PD.w_putAt, PD.w_aug, PD.w_frz, PD.w_ahead, PD.w_forget, PD.w_forO_nx, PD.w_forO_bk, PD.w_forO_ct, PD.w_forO_rt, PD.w_forO_rn, PD.w_forO_exc, PD.w_drop, PD.w_next, PD.w_bk, PD.w_ct, PD.w_exc, PD.w_lc, PD.w_itL, PD.w_itl, PD.w_itT, PD.w_itt, PD.w_itV, PD.w_itv, PD.w_rng1, PD.w_rng1', PD.w_rng2, PD.w_rng2', PD.w_lrg1, PD.w_lrg1', PD.w_sl, PD.w_no, PD.w_part, PD.w_part', PD.w_newD, PD.w_putD, PD.w_inD, PD.w_getD, PD.w_maxD, PD.w_count, PD.w_for, PD.w_hSet, PD.w_appPop, PD.w_apD, forgetE, owL, putL, owD, putOD, frzE, initE, noPm, wipeE, sizeLine_eq, List.getElem?_cons_zero, List.getElem?_cons_succ, List.set_cons_zero, List.set_cons_succ, List.map_cons, List.map_nil, List.length_cons, List.length_nil, List.replicate, List.cons_append, List.nil_append, Option.bind_some, Option.bind_none, Option.map_some, Option.map_none, ite_true, ite_false, if_true, if_false, reduceCtorEq, Nat.reduceAdd, Nat.reduceSub, Nat.reduceLeDiff, Bool.and_true, Bool.true_and, Bool.and_false, Bool.false_and, Bool.or_true, Bool.true_or, Bool.or_false, Bool.false_or, Bool.not_true, Bool.not_false, decide_true, decide_false, Bool.false_eq_true, Int.reduceEq, Int.reduceBEq, Option.isSome_some, Option.isSome_none, List.all_cons, List.all_nil, and_self, and_true, true_and, e]
    rw [show (((i : Nat) : Int) + 1) = ((i + 1 : Nat) : Int) by omega]
    exact ih
def kidsOf (d : D) (w : List Nat) (st : List (D × List Nat)) : List (D × List Nat) := match d with
  | .tuple [.str _, .tuple ps] => kids w 0 ps st
  | _ => st
theorem turnK (t : D) (found : List D) (st : List (D × List Nat)) (d : D) (w : List Nat) (hf : found.length < 16777216) (hk : ∃ a ms, Tr a d ms) (hw : w.length ≤ 100000) (hs : st.length + wt d ≤ 100000) :
    B__law_knots_1 (ρK t found (layK ((d, w) :: st))) = .nx (ρK t (found ++ [kd (d, w)]) (layK (kidsOf d w st))) := by
  rw [layK_cons]
  obtain ⟨a, ms, h⟩ := hk
  cases h with
  | num _ n =>
    unfold B__law_knots_1 ρK kd kidsOf
    simp only [PD.v_bind_ok, PD.v_bind_exc, PD.v_bind_stuck, PD.v_bindS_ok, PD.v_bindS_exc, PD.v_bindS_stuck, PD.v_of_some, PD.v_of_none, PD.v_seq_nx, PD.v_seq_rt, PD.v_seq_rn, PD.v_seq_bk, PD.v_seq_ct, PD.v_seq_exc, PD.v_seq_stuck, PD.v_ifS, PD.v_sel_t, PD.v_sel_f, PD.v_sel_exc, PD.v_sel_stuck, PD.v_if, PD.v_and, PD.v_or, PD.v_selR_t, PD.v_selR_f, PD.v_selR_exc, PD.v_selR_stuck, PD.v_not, PD.v_notR, PD.v_notR_exc, PD.v_test, PD.v_testR, PD.v_testR_exc, PD.v_andV, PD.v_orV, PD.v_selV_t, PD.v_selV_f, PD.v_notV, PD.v_notV', PD.v_chain, PD.v_chain_t, PD.v_chain_f, PD.v_add_i, PD.v_add_s, PD.v_add_l, PD.v_add_t, PD.v_cat, PD.v_sub, PD.v_mul, PD.v_div, PD.v_mod, PD.v_pow, PD.v_neg, PD.v_cmp, PD.v_eq_ii, PD.v_eq_bb, PD.v_eq_ss, PD.v_eq_nn, PD.v_ne_ii, PD.v_ne_bb, PD.v_ne_ss, PD.v_eq_ll, PD.v_eq_tt, PD.v_ne_ll, PD.v_ne_tt, PD.v_eq0, PD.v_in_t, PD.v_in_l, PD.v_flat_i, PD.v_flat_s, PD.v_flat_b, PD.v_flat_n, PD.v_isB, PD.v_isN_n, PD.v_isN_i, PD.v_isN_t, PD.v_isN_l, PD.v_isN_s, PD.v_ix_l, PD.v_ix_t, PD.v_ix_s, PD.v_slN, PD.v_slV_l, PD.v_slV_t, PD.v_slV_s, PD.v_len_l, PD.v_len_t, PD.v_len_s, PD.v_len_d, PD.v_list_l, PD.v_list_t, PD.v_tuple_l, PD.v_tuple_t, PD.v_sorted, PD.v_seqOf_l, PD.v_seqOf_t, PD.v_keyOf_i, PD.v_keyOf_s, PD.v_data_l, PD.v_data_d, PD.v_isi, PD.v_isi_int, PD.v_isi_bool, PD.v_isi_str, PD.v_isi_list, PD.v_isi_tuple, PD.i_int_i, PD.i_bool_i, PD.i_tuple_i, PD.i_tuple_t, PD.i_int_t, PD.i_list_l, PD.i_str_s, PD.i_bool_b, PD.v_hTup, PD.v_hCons, PD.v_hNil, PD.w_seq, PD.w_asg, PD.w_outO_s, PD.w_outO_n, PD.w_ret, PD.w_retN, PD.w_retV, PD.w_ret0, PD.w_V, PD.w_Vr, PD.w_C, PD.w_op, PD.w_un, PD.w_CB, PD.w_cons, PD.w_nil, PD.w_tup, PD.w_lst, PD.w_ob, PD.w_call, PD.w_new, PD.w_app, PD.w_ext, PD.w_pop, PD.w_popD, PD.w_putAt, PD.w_aug, PD.w_frz, PD.w_ahead, PD.w_forget, PD.w_forO_nx, PD.w_forO_bk, PD.w_forO_ct, PD.w_forO_rt, PD.w_forO_rn, PD.w_forO_exc, PD.w_drop, PD.w_next, PD.w_bk, PD.w_ct, PD.w_exc, PD.w_lc, PD.w_itL, PD.w_itl, PD.w_itT, PD.w_itt, PD.w_itV, PD.w_itv, PD.w_rng1, PD.w_rng1', PD.w_rng2, PD.w_rng2', PD.w_lrg1, PD.w_lrg1', PD.w_sl, PD.w_no, PD.w_part, PD.w_part', PD.w_newD, PD.w_putD, PD.w_inD, PD.w_getD, PD.w_maxD, PD.w_count, PD.w_for, PD.w_hSet, PD.w_appPop, PD.w_apD, forgetE, owL, putL, owD, putOD, frzE, initE, noPm, wipeE, sizeLine_eq, List.getElem?_cons_zero, List.getElem?_cons_succ, List.set_cons_zero, List.set_cons_succ, List.map_cons, List.map_nil, List.length_cons, List.length_nil, List.replicate, List.cons_append, List.nil_append, Option.bind_some, Option.bind_none, Option.map_some, Option.map_none, ite_true, ite_false, if_true, if_false, reduceCtorEq, Nat.reduceAdd, Nat.reduceSub, Nat.reduceLeDiff, Bool.and_true, Bool.true_and, Bool.and_false, Bool.false_and, Bool.or_true, Bool.true_or, Bool.or_false, Bool.false_or, Bool.not_true, Bool.not_false, decide_true, decide_false, Bool.false_eq_true, Int.reduceEq, Int.reduceBEq, Option.isSome_some, Option.isSome_none, List.all_cons, List.all_nil, and_self, and_true, true_and, getLast_app, dropLast_app, hf]
  | box _ k ps ms hg h =>
    rw [wt_knot] at hs
    have hp := wtL_len ps
    have hr : rgOk ((ps.length : Nat) : Int) = true := rgOk_iff.mpr (by omega)
    have P := pushK t (found ++ [kd (.tuple [.str k, .tuple ps], w)]) k ps w (by omega) hw ps 0 st rfl (by omega)
    unfold kd at P
    unfold B__law_knots_1 ρK kd kidsOf
    simp only [PD.v_bind_ok, PD.v_bind_exc, PD.v_bind_stuck, PD.v_bindS_ok, PD.v_bindS_exc, PD.v_bindS_stuck, PD.v_of_some, PD.v_of_none, PD.v_seq_nx, PD.v_seq_rt, PD.v_seq_rn, PD.v_seq_bk, PD.v_seq_ct, PD.v_seq_exc, PD.v_seq_stuck, PD.v_ifS, PD.v_sel_t, PD.v_sel_f, PD.v_sel_exc, PD.v_sel_stuck, PD.v_if, PD.v_and, PD.v_or, PD.v_selR_t, PD.v_selR_f, PD.v_selR_exc, PD.v_selR_stuck, PD.v_not, PD.v_notR, PD.v_notR_exc, PD.v_test, PD.v_testR, PD.v_testR_exc, PD.v_andV, PD.v_orV, PD.v_selV_t, PD.v_selV_f, PD.v_notV, PD.v_notV', PD.v_chain, PD.v_chain_t, PD.v_chain_f, PD.v_add_i, PD.v_add_s, PD.v_add_l, PD.v_add_t, PD.v_cat, PD.v_sub, PD.v_mul, PD.v_div, PD.v_mod, PD.v_pow, PD.v_neg, PD.v_cmp, PD.v_eq_ii, PD.v_eq_bb, PD.v_eq_ss, PD.v_eq_nn, PD.v_ne_ii, PD.v_ne_bb, PD.v_ne_ss, PD.v_eq_ll, PD.v_eq_tt, PD.v_ne_ll, PD.v_ne_tt, PD.v_eq0, PD.v_in_t, PD.v_in_l, PD.v_flat_i, PD.v_flat_s, PD.v_flat_b, PD.v_flat_n, PD.v_isB, PD.v_isN_n, PD.v_isN_i, PD.v_isN_t, PD.v_isN_l, PD.v_isN_s, PD.v_ix_l, PD.v_ix_t, PD.v_ix_s, PD.v_slN, PD.v_slV_l, PD.v_slV_t, PD.v_slV_s, PD.v_len_l, PD.v_len_t, PD.v_len_s, PD.v_len_d, PD.v_list_l, PD.v_list_t, PD.v_tuple_l, PD.v_tuple_t, PD.v_sorted, PD.v_seqOf_l, PD.v_seqOf_t, PD.v_keyOf_i, PD.v_keyOf_s, PD.v_data_l, PD.v_data_d, PD.v_isi, PD.v_isi_int, PD.v_isi_bool, PD.v_isi_str, PD.v_isi_list, PD.v_isi_tuple, PD.i_int_i, PD.i_bool_i, PD.i_tuple_i, PD.i_tuple_t, PD.i_int_t, PD.i_list_l, PD.i_str_s, PD.i_bool_b, PD.v_hTup, PD.v_hCons, PD.v_hNil, PD.w_seq, PD.w_asg, PD.w_outO_s, PD.w_outO_n, PD.w_ret, PD.w_retN, PD.w_retV, PD.w_ret0, PD.w_V, PD.w_Vr, PD.w_C, PD.w_op, PD.w_un, PD.w_CB, PD.w_cons, PD.w_nil, PD.w_tup, PD.w_lst, PD.w_ob, PD.w_call, PD.w_new, PD.w_app, PD.w_ext, PD.w_pop, PD.w_popD, PD.w_putAt, PD.w_aug, PD.w_frz, PD.w_ahead, PD.w_forget, PD.w_forO_nx, PD.w_forO_bk, PD.w_forO_ct, PD.w_forO_rt, PD.w_forO_rn, PD.w_forO_exc, PD.w_drop, PD.w_next, PD.w_bk, PD.w_ct, PD.w_exc, PD.w_lc, PD.w_itL, PD.w_itl, PD.w_itT, PD.w_itt, PD.w_itV, PD.w_itv, PD.w_rng1, PD.w_rng1', PD.w_rng2, PD.w_rng2', PD.w_lrg1, PD.w_lrg1', PD.w_sl, PD.w_no, PD.w_part, PD.w_part', PD.w_newD, PD.w_putD, PD.w_inD, PD.w_getD, PD.w_maxD, PD.w_count, PD.w_for, PD.w_hSet, PD.w_appPop, PD.w_apD, forgetE, owL, putL, owD, putOD, frzE, initE, noPm, wipeE, sizeLine_eq, List.getElem?_cons_zero, List.getElem?_cons_succ, List.set_cons_zero, List.set_cons_succ, List.map_cons, List.map_nil, List.length_cons, List.length_nil, List.replicate, List.cons_append, List.nil_append, Option.bind_some, Option.bind_none, Option.map_some, Option.map_none, ite_true, ite_false, if_true, if_false, reduceCtorEq, Nat.reduceAdd, Nat.reduceSub, Nat.reduceLeDiff, Bool.and_true, Bool.true_and, Bool.and_false, Bool.false_and, Bool.or_true, Bool.true_or, Bool.or_false, Bool.false_or, Bool.not_true, Bool.not_false, decide_true, decide_false, Bool.false_eq_true, Int.reduceEq, Int.reduceBEq, Option.isSome_some, Option.isSome_none, List.all_cons, List.all_nil, and_self, and_true, true_and, getLast_app, dropLast_app, hf, atI_1, hr, Int.toNat_natCast, rgD_I]
    have z : (((0 : Nat) : Nat) : Int) = 0 := rfl
    rw [z] at P
    simp only [PD.v_bind_ok, PD.v_bind_exc, PD.v_bind_stuck, PD.v_bindS_ok, PD.v_bindS_exc, PD.v_bindS_stuck, PD.v_of_some, PD.v_of_none, PD.v_seq_nx, PD.v_seq_rt, PD.v_seq_rn, PD.v_seq_bk, PD.v_seq_ct, PD.v_seq_exc, PD.v_seq_stuck, PD.v_ifS, PD.v_sel_t, PD.v_sel_f, PD.v_sel_exc, PD.v_sel_stuck, PD.v_if, PD.v_and, PD.v_or, PD.v_selR_t, PD.v_selR_f, PD.v_selR_exc, PD.v_selR_stuck, PD.v_not, PD.v_notR, PD.v_notR_exc, PD.v_test, PD.v_testR, PD.v_testR_exc, PD.v_andV, PD.v_orV, PD.v_selV_t, PD.v_selV_f, PD.v_notV, PD.v_notV', PD.v_chain, PD.v_chain_t, PD.v_chain_f, PD.v_add_i, PD.v_add_s, PD.v_add_l, PD.v_add_t, PD.v_cat, PD.v_sub, PD.v_mul, PD.v_div, PD.v_mod, PD.v_pow, PD.v_neg, PD.v_cmp, PD.v_eq_ii, PD.v_eq_bb, PD.v_eq_ss, PD.v_eq_nn, PD.v_ne_ii, PD.v_ne_bb, PD.v_ne_ss, PD.v_eq_ll, PD.v_eq_tt, PD.v_ne_ll, PD.v_ne_tt, PD.v_eq0, PD.v_in_t, PD.v_in_l, PD.v_flat_i, PD.v_flat_s, PD.v_flat_b, PD.v_flat_n, PD.v_isB, PD.v_isN_n, PD.v_isN_i, PD.v_isN_t, PD.v_isN_l, PD.v_isN_s, PD.v_ix_l, PD.v_ix_t, PD.v_ix_s, PD.v_slN, PD.v_slV_l, PD.v_slV_t, PD.v_slV_s, PD.v_len_l, PD.v_len_t, PD.v_len_s, PD.v_len_d, PD.v_list_l, PD.v_list_t, PD.v_tuple_l, PD.v_tuple_t, PD.v_sorted, PD.v_seqOf_l, PD.v_seqOf_t, PD.v_keyOf_i, PD.v_keyOf_s, PD.v_data_l, PD.v_data_d, PD.v_isi, PD.v_isi_int, PD.v_isi_bool, PD.v_isi_str, PD.v_isi_list, PD.v_isi_tuple, PD.i_int_i, PD.i_bool_i, PD.i_tuple_i, PD.i_tuple_t, PD.i_int_t, PD.i_list_l, PD.i_str_s, PD.i_bool_b, PD.v_hTup, PD.v_hCons, PD.v_hNil, PD.w_seq, PD.w_asg, PD.w_outO_s, PD.w_outO_n, PD.w_ret, PD.w_retN, PD.w_retV, PD.w_ret0, PD.w_V, PD.w_Vr, PD.w_C, PD.w_op, PD.w_un, PD.w_CB, PD.w_cons, PD.w_nil, PD.w_tup, PD.w_lst, PD.w_ob, PD.w_call, PD.w_new, PD.w_app, PD.w_ext, PD.w_pop, PD.w_popD, PD.w_putAt, PD.w_aug, PD.w_frz, PD.w_ahead, PD.w_forget, PD.w_forO_nx, PD.w_forO_bk, PD.w_forO_ct, PD.w_forO_rt, PD.w_forO_rn, PD.w_forO_exc, PD.w_drop, PD.w_next, PD.w_bk, PD.w_ct, PD.w_exc, PD.w_lc, PD.w_itL, PD.w_itl, PD.w_itT, PD.w_itt, PD.w_itV, PD.w_itv, PD.w_rng1, PD.w_rng1', PD.w_rng2, PD.w_rng2', PD.w_lrg1, PD.w_lrg1', PD.w_sl, PD.w_no, PD.w_part, PD.w_part', PD.w_newD, PD.w_putD, PD.w_inD, PD.w_getD, PD.w_maxD, PD.w_count, PD.w_for, PD.w_hSet, PD.w_appPop, PD.w_apD, forgetE, owL, putL, owD, putOD, frzE, initE, noPm, wipeE, sizeLine_eq, List.getElem?_cons_zero, List.getElem?_cons_succ, List.set_cons_zero, List.set_cons_succ, List.map_cons, List.map_nil, List.length_cons, List.length_nil, List.replicate, List.cons_append, List.nil_append, Option.bind_some, Option.bind_none, Option.map_some, Option.map_none, ite_true, ite_false, if_true, if_false, reduceCtorEq, Nat.reduceAdd, Nat.reduceSub, Nat.reduceLeDiff, Bool.and_true, Bool.true_and, Bool.and_false, Bool.false_and, Bool.or_true, Bool.true_or, Bool.or_false, Bool.false_or, Bool.not_true, Bool.not_false, decide_true, decide_false, Bool.false_eq_true, Int.reduceEq, Int.reduceBEq, Option.isSome_some, Option.isSome_none, List.all_cons, List.all_nil, and_self, and_true, true_and, P]
theorem follow_len : ∀ (w : List Nat) (d x : D), follow d w = some x → w.length + wt x ≤ wt d
  | [], d, x, h => by cases h; simp
  | i :: w, d, x, h => by
    simp only [follow] at h
    cases q : child d i with
    | none => rw [q] at h; cases h
    | some y =>
      rw [q] at h
      have := follow_len w y x h
      unfold child at q
      split at q
      · rename_i k ps
        rw [wt_knot]
        have hm : y ∈ ps := List.mem_of_getElem? q
        have : wt y ≤ wtL ps := by
          clear q h
          induction ps with
          | nil => cases hm
          | cons p ps ih =>
            simp only [wtL]
            rcases List.mem_cons.mp hm with rfl | hm
            · omega
            · have := ih hm; omega
        simp only [List.length_cons]; omega
      · cases q
theorem TrL.mem {k : Str} {ps : List D} {ms : List Int} (h : TrL k ps ms) {p : D} (hp : p ∈ ps) : ∃ m, Tr k p m := by
  match h with
  | .nil _ => cases hp
  | .cons k q ps m ms hq hl =>
    rcases List.mem_cons.mp hp with rfl | hp
    · exact ⟨m, hq⟩
    · exact hl.mem hp
mutual
def lv : D → Nat
  | .int _ => 1
  | .tuple ds => lvL ds
  | _ => 0
def lvL : List D → Nat
  | [] => 0
  | d :: ds => lv d + lvL ds
end
def lvS : List (D × List Nat) → Nat
  | [] => 0
  | (d, _) :: st => lv d + lvS st
theorem kids_lv (w : List Nat) : ∀ (ps : List D) (i : Nat) (st : List (D × List Nat)), lvS (kids w i ps st) = lvL ps + lvS st
  | [], i, st => by simp only [kids, lvL]; omega
  | p :: ps, i, st => by
    simp only [kids, kids_lv w ps (i + 1), lvS, lvL]; omega
def isWK (e : D × List Nat) : Bool := isW e.1
theorem loopK (t : D) (ht : wt t ≤ 10000) : ∀ (f : Nat) (st : List (D × List Nat)) (found : List (D × List Nat)), wtK st ≤ f → found.length + wtK st ≤ wt t → (∀ e ∈ found, Kn t e) → (∀ e ∈ st, Kn t e) →
    ∃ out : List (D × List Nat), dWhile C__law_knots_1 B__law_knots_1 (ρK t (found.map kd) (layK st)) = .nx (ρK t (out.map kd) []) ∧ (∀ e ∈ out, Kn t e) ∧ (0 < found.length + st.length → 1 ≤ out.length) ∧ out.length ≤ wt t ∧ (out.filter isWK).length = (found.filter isWK).length + lvS st := by
  intro f
  induction f with
  | zero =>
    intro st found h1 h2 h3 h4
    match st with
    | [] => exact ⟨found, by rw [dWhile_step, condK_eq]; rfl, h3, by simp only [List.length_nil]; omega, by omega, by simp only [lvS, Nat.add_zero]⟩
    | (d, a) :: st => have := wt_pos d; simp only [wtK] at h1; omega
  | succ f ih =>
    intro st found h1 h2 h3 h4
    match st with
    | [] => exact ⟨found, by rw [dWhile_step, condK_eq]; rfl, h3, by simp only [List.length_nil]; omega, by omega, by simp only [lvS, Nat.add_zero]⟩
    | (d, w) :: st =>
      have hw := wt_pos d
      simp only [wtK] at h1 h2
      have hk := h4 (d, w) List.mem_cons_self
      have hl := follow_len w t d hk.1
      have hsl := wtK_len st
      have T := turnK t (found.map kd) st d w (by rw [List.length_map]; omega) hk.2 (by omega) (by omega)
      rw [dWhile_step, condK_eq]
      have hne : (layK ((d, w) :: st)).isEmpty = false := by rw [layK_cons]; simp
      simp only [hne, Bool.not_false, Res.bindS, if_true, T]
      have e1 : found.map kd ++ [kd (d, w)] = (found ++ [(d, w)]).map kd := by rw [List.map_append]; rfl
      rw [e1]
      have h5 : ∀ e ∈ found ++ [(d, w)], Kn t e := fun e he => by
        rcases List.mem_append.mp he with h | h
        · exact h3 e h
        · rw [List.mem_singleton.mp h]; exact hk
      obtain ⟨a, ms, hT⟩ := hk.2
      have key : ∀ st2 : List (D × List Nat), wtK st2 + 1 ≤ wt d + wtK st → (∀ e ∈ st2, Kn t e) → ∃ out : List (D × List Nat), dWhile C__law_knots_1 B__law_knots_1 (ρK t ((found ++ [(d, w)]).map kd) (layK st2)) = .nx (ρK t (out.map kd) []) ∧ (∀ e ∈ out, Kn t e) ∧ (0 < found.length + ((d, w) :: st).length → 1 ≤ out.length) ∧ out.length ≤ wt t ∧ (out.filter isWK).length = (found.filter isWK).length + (([(d, w)] : List (D × List Nat)).filter isWK).length + lvS st2 := fun st2 a b => by
        obtain ⟨out, o1, o2, o3, o4, o5⟩ := ih st2 (found ++ [(d, w)]) (by omega) (by simp only [List.length_append, List.length_singleton]; omega) h5 b
        simp only [List.length_append, List.length_singleton] at o3
        exact ⟨out, o1, o2, fun _ => o3 (by omega), o4, by rw [o5, List.filter_append, List.length_append]⟩
      cases hT with
      | num _ n =>
        obtain ⟨out, o1, o2, o3, o4, o5⟩ := key st (by simp only [wt]; omega) fun e he => h4 e (List.mem_cons_of_mem _ he)
        refine ⟨out, o1, o2, o3, o4, ?_⟩
        rw [o5]
        simp only [lvS, lv, List.filter_cons, isWK, isW, if_true, List.filter_nil, List.length_cons, List.length_nil]
        omega
      | box _ k ps ms hg hl =>
        obtain ⟨out, o1, o2, o3, o4, o5⟩ := key (kids w 0 ps st) (by rw [kids_wt, wt_knot]; omega) fun e he => by
          rcases kids_mem w ps 0 st e he with h | ⟨j, p, h6, rfl⟩
          · exact h4 e (List.mem_cons_of_mem _ h)
          · rw [Nat.zero_add]
            obtain ⟨m, hm⟩ := hl.mem (List.mem_of_getElem? h6)
            exact ⟨follow_snoc j w t _ p hk.1 h6, k, m, hm⟩
        refine ⟨out, o1, o2, o3, o4, ?_⟩
        rw [o5, kids_lv]
        simp only [lvS, lv, lvL, List.filter_cons, isWK, isW, List.filter_nil, List.length_nil, Bool.false_eq_true, if_false]
        omega
theorem ev_knots (t : D) (a : Str) (ms : List Int) (h : Tr a t ms) (ht : wt t ≤ 10000) : ∃ out : List (D × List Nat), f__law_knots [t] = .ok (.l (out.map kd)) ∧ (∀ e ∈ out, Kn t e) ∧ 1 ≤ out.length ∧ out.length ≤ wt t ∧ (out.filter isWK).length = lv t := by
  have hp := wt_pos t
  obtain ⟨out, o1, o2, o3, o4, o5⟩ := loopK t ht (wt t) [(t, [])] [] (by simp [wtK]) (by simp [wtK]) (fun e he => by cases he) fun e he => by
    rw [List.mem_singleton.mp he]; exact ⟨rfl, a, ms, h⟩
  refine ⟨out, ?_, o2, o3 (by simp), o4, by rw [o5]; simp [lvS]⟩
  unfold f__law_knots funN F__law_knots
  have e : ρK t (([] : List (D × List Nat)).map kd) (layK [(t, [])]) = [.fr t, .ow (.l []), .ow (.l [.tuple [t, .list []]]), .un, .un, .un] := rfl
  rw [e] at o1
  simp only [PD.v_bind_ok, PD.v_bind_exc, PD.v_bind_stuck, PD.v_bindS_ok, PD.v_bindS_exc, PD.v_bindS_stuck, PD.v_of_some, PD.v_of_none, PD.v_seq_nx, PD.v_seq_rt, PD.v_seq_rn, PD.v_seq_bk, PD.v_seq_ct, PD.v_seq_exc, PD.v_seq_stuck, PD.v_ifS, PD.v_sel_t, PD.v_sel_f, PD.v_sel_exc, PD.v_sel_stuck, PD.v_if, PD.v_and, PD.v_or, PD.v_selR_t, PD.v_selR_f, PD.v_selR_exc, PD.v_selR_stuck, PD.v_not, PD.v_notR, PD.v_notR_exc, PD.v_test, PD.v_testR, PD.v_testR_exc, PD.v_andV, PD.v_orV, PD.v_selV_t, PD.v_selV_f, PD.v_notV, PD.v_notV', PD.v_chain, PD.v_chain_t, PD.v_chain_f, PD.v_add_i, PD.v_add_s, PD.v_add_l, PD.v_add_t, PD.v_cat, PD.v_sub, PD.v_mul, PD.v_div, PD.v_mod, PD.v_pow, PD.v_neg, PD.v_cmp, PD.v_eq_ii, PD.v_eq_bb, PD.v_eq_ss, PD.v_eq_nn, PD.v_ne_ii, PD.v_ne_bb, PD.v_ne_ss, PD.v_eq_ll, PD.v_eq_tt, PD.v_ne_ll, PD.v_ne_tt, PD.v_eq0, PD.v_in_t, PD.v_in_l, PD.v_flat_i, PD.v_flat_s, PD.v_flat_b, PD.v_flat_n, PD.v_isB, PD.v_isN_n, PD.v_isN_i, PD.v_isN_t, PD.v_isN_l, PD.v_isN_s, PD.v_ix_l, PD.v_ix_t, PD.v_ix_s, PD.v_slN, PD.v_slV_l, PD.v_slV_t, PD.v_slV_s, PD.v_len_l, PD.v_len_t, PD.v_len_s, PD.v_len_d, PD.v_list_l, PD.v_list_t, PD.v_tuple_l, PD.v_tuple_t, PD.v_sorted, PD.v_seqOf_l, PD.v_seqOf_t, PD.v_keyOf_i, PD.v_keyOf_s, PD.v_data_l, PD.v_data_d, PD.v_isi, PD.v_isi_int, PD.v_isi_bool, PD.v_isi_str, PD.v_isi_list, PD.v_isi_tuple, PD.i_int_i, PD.i_bool_i, PD.i_tuple_i, PD.i_tuple_t, PD.i_int_t, PD.i_list_l, PD.i_str_s, PD.i_bool_b, PD.v_hTup, PD.v_hCons, PD.v_hNil, PD.w_seq, PD.w_asg, PD.w_outO_s, PD.w_outO_n, PD.w_ret, PD.w_retN, PD.w_retV, PD.w_ret0, PD.w_V, PD.w_Vr, PD.w_C, PD.w_op, PD.w_un, PD.w_CB, PD.w_cons, PD.w_nil, PD.w_tup, PD.w_lst, PD.w_ob, PD.w_call, PD.w_new, PD.w_app, PD.w_ext, PD.w_pop, PD.w_popD, PD.w_putAt, PD.w_aug, PD.w_frz, PD.w_ahead, PD.w_forget, PD.w_forO_nx, PD.w_forO_bk, PD.w_forO_ct, PD.w_forO_rt, PD.w_forO_rn, PD.w_forO_exc, PD.w_drop, PD.w_next, PD.w_bk, PD.w_ct, PD.w_exc, PD.w_lc, PD.w_itL, PD.w_itl, PD.w_itT, PD.w_itt, PD.w_itV, PD.w_itv, PD.w_rng1, PD.w_rng1', PD.w_rng2, PD.w_rng2', PD.w_lrg1, PD.w_lrg1', PD.w_sl, PD.w_no, PD.w_part, PD.w_part', PD.w_newD, PD.w_putD, PD.w_inD, PD.w_getD, PD.w_maxD, PD.w_count, PD.w_for, PD.w_hSet, PD.w_appPop, PD.w_apD, forgetE, owL, putL, owD, putOD, frzE, initE, noPm, wipeE, sizeLine_eq, List.getElem?_cons_zero, List.getElem?_cons_succ, List.set_cons_zero, List.set_cons_succ, List.map_cons, List.map_nil, List.length_cons, List.length_nil, List.replicate, List.cons_append, List.nil_append, Option.bind_some, Option.bind_none, Option.map_some, Option.map_none, ite_true, ite_false, if_true, if_false, reduceCtorEq, Nat.reduceAdd, Nat.reduceSub, Nat.reduceLeDiff, Bool.and_true, Bool.true_and, Bool.and_false, Bool.false_and, Bool.or_true, Bool.true_or, Bool.or_false, Bool.false_or, Bool.not_true, Bool.not_false, decide_true, decide_false, Bool.false_eq_true, Int.reduceEq, Int.reduceBEq, Option.isSome_some, Option.isSome_none, List.all_cons, List.all_nil, and_self, and_true, true_and, o1]
  unfold ρK
  simp only [PD.v_bind_ok, PD.v_bind_exc, PD.v_bind_stuck, PD.v_bindS_ok, PD.v_bindS_exc, PD.v_bindS_stuck, PD.v_of_some, PD.v_of_none, PD.v_seq_nx, PD.v_seq_rt, PD.v_seq_rn, PD.v_seq_bk, PD.v_seq_ct, PD.v_seq_exc, PD.v_seq_stuck, PD.v_ifS, PD.v_sel_t, PD.v_sel_f, PD.v_sel_exc, PD.v_sel_stuck, PD.v_if, PD.v_and, PD.v_or, PD.v_selR_t, PD.v_selR_f, PD.v_selR_exc, PD.v_selR_stuck, PD.v_not, PD.v_notR, PD.v_notR_exc, PD.v_test, PD.v_testR, PD.v_testR_exc, PD.v_andV, PD.v_orV, PD.v_selV_t, PD.v_selV_f, PD.v_notV, PD.v_notV', PD.v_chain, PD.v_chain_t, PD.v_chain_f, PD.v_add_i, PD.v_add_s, PD.v_add_l, PD.v_add_t, PD.v_cat, PD.v_sub, PD.v_mul, PD.v_div, PD.v_mod, PD.v_pow, PD.v_neg, PD.v_cmp, PD.v_eq_ii, PD.v_eq_bb, PD.v_eq_ss, PD.v_eq_nn, PD.v_ne_ii, PD.v_ne_bb, PD.v_ne_ss, PD.v_eq_ll, PD.v_eq_tt, PD.v_ne_ll, PD.v_ne_tt, PD.v_eq0, PD.v_in_t, PD.v_in_l, PD.v_flat_i, PD.v_flat_s, PD.v_flat_b, PD.v_flat_n, PD.v_isB, PD.v_isN_n, PD.v_isN_i, PD.v_isN_t, PD.v_isN_l, PD.v_isN_s, PD.v_ix_l, PD.v_ix_t, PD.v_ix_s, PD.v_slN, PD.v_slV_l, PD.v_slV_t, PD.v_slV_s, PD.v_len_l, PD.v_len_t, PD.v_len_s, PD.v_len_d, PD.v_list_l, PD.v_list_t, PD.v_tuple_l, PD.v_tuple_t, PD.v_sorted, PD.v_seqOf_l, PD.v_seqOf_t, PD.v_keyOf_i, PD.v_keyOf_s, PD.v_data_l, PD.v_data_d, PD.v_isi, PD.v_isi_int, PD.v_isi_bool, PD.v_isi_str, PD.v_isi_list, PD.v_isi_tuple, PD.i_int_i, PD.i_bool_i, PD.i_tuple_i, PD.i_tuple_t, PD.i_int_t, PD.i_list_l, PD.i_str_s, PD.i_bool_b, PD.v_hTup, PD.v_hCons, PD.v_hNil, PD.w_seq, PD.w_asg, PD.w_outO_s, PD.w_outO_n, PD.w_ret, PD.w_retN, PD.w_retV, PD.w_ret0, PD.w_V, PD.w_Vr, PD.w_C, PD.w_op, PD.w_un, PD.w_CB, PD.w_cons, PD.w_nil, PD.w_tup, PD.w_lst, PD.w_ob, PD.w_call, PD.w_new, PD.w_app, PD.w_ext, PD.w_pop, PD.w_popD, PD.w_putAt, PD.w_aug, PD.w_frz, PD.w_ahead, PD.w_forget, PD.w_forO_nx, PD.w_forO_bk, PD.w_forO_ct, PD.w_forO_rt, PD.w_forO_rn, PD.w_forO_exc, PD.w_drop, PD.w_next, PD.w_bk, PD.w_ct, PD.w_exc, PD.w_lc, PD.w_itL, PD.w_itl, PD.w_itT, PD.w_itt, PD.w_itV, PD.w_itv, PD.w_rng1, PD.w_rng1', PD.w_rng2, PD.w_rng2', PD.w_lrg1, PD.w_lrg1', PD.w_sl, PD.w_no, PD.w_part, PD.w_part', PD.w_newD, PD.w_putD, PD.w_inD, PD.w_getD, PD.w_maxD, PD.w_count, PD.w_for, PD.w_hSet, PD.w_appPop, PD.w_apD, forgetE, owL, putL, owD, putOD, frzE, initE, noPm, wipeE, sizeLine_eq, List.getElem?_cons_zero, List.getElem?_cons_succ, List.set_cons_zero, List.set_cons_succ, List.map_cons, List.map_nil, List.length_cons, List.length_nil, List.replicate, List.cons_append, List.nil_append, Option.bind_some, Option.bind_none, Option.map_some, Option.map_none, ite_true, ite_false, if_true, if_false, reduceCtorEq, Nat.reduceAdd, Nat.reduceSub, Nat.reduceLeDiff, Bool.and_true, Bool.true_and, Bool.and_false, Bool.false_and, Bool.or_true, Bool.true_or, Bool.or_false, Bool.false_or, Bool.not_true, Bool.not_false, decide_true, decide_false, Bool.false_eq_true, Int.reduceEq, Int.reduceBEq, Option.isSome_some, Option.isSome_none, List.all_cons, List.all_nil, and_self, and_true, true_and]

end K33

set_option Elab.async false
set_option linter.all false
set_option maxRecDepth 100000
set_option maxHeartbeats 1000000
namespace K33
open PySem L2 PD
def trail (d : D) : List Nat → List D
  | [] => []
  | i :: w => .tuple [d, .int ((i : Nat) : Int)] :: (match child d i with
    | some p => trail p w
    | none => [])
def plug (d : D) : List Nat → D → D
  | [], new => new
  | i :: w, new => match d with
    | .tuple [.str k, .tuple ps] => match ps[i]? with
      | some p => .tuple [.str k, .tuple (ps.take i ++ [plug p w new] ++ ps.drop (i + 1))]
      | none => d
    | _ => d
theorem child_box {d p : D} {i : Nat} (h : child d i = some p) : ∃ k ps, d = .tuple [.str k, .tuple ps] ∧ ps[i]? = some p := by
  unfold child at h
  split at h
  · exact ⟨_, _, rfl, h⟩
  · cases h
theorem atI_some {ps : List D} {i : Nat} {p : D} (h : ps[i]? = some p) : atI ps ((i : Nat) : Int) = some p := by
  obtain ⟨h1, h2⟩ := List.getElem?_eq_some_iff.mp h
  rw [atI_nat ps i h1, h2]
theorem put1 (tree way new : D) : ∀ (w : List Nat) (ab : List D) (here x : D), follow here w = some x → ab.length + w.length ≤ 16777216 →
    forF (hSet 5) B__law_put_1 (w.map fun k => .int ((k : Nat) : Int)) [.fr tree, .fr way, .fr new, .ow (.l ab), .fr here, .un, .un, .un] = .nx [.fr tree, .fr way, .fr new, .ow (.l (ab ++ trail here w)), .fr x, .un, .un, .un]
  | [], ab, here, x, h, _ => by cases h; rw [trail, List.append_nil]; rfl
  | i :: w, ab, here, x, h, hl => by
    simp only [follow] at h
    cases q : child here i with
    | none => rw [q] at h; cases h
    | some p =>
      rw [q] at h
      obtain ⟨k, ps, rfl, hp⟩ := child_box q
      have ha := atI_some hp
      simp only [List.length_cons] at hl
      have hl2 : ab.length < 16777216 := by omega
      have ih := put1 tree way new w (ab ++ [.tuple [.tuple [.str k, .tuple ps], .int ((i : Nat) : Int)]]) p x h (by simp only [List.length_append, List.length_singleton]; omega)
      rw [List.map_cons]
      unfold forF
      have e : B__law_put_1 [.fr tree, .fr way, .fr new, .ow (.l ab), .fr (.tuple [.str k, .tuple ps]), .fr (.int ((i : Nat) : Int)), .un, .un] = .nx [.fr tree, .fr way, .fr new, .ow (.l (ab ++ [.tuple [.tuple [.str k, .tuple ps], .int ((i : Nat) : Int)]])), .fr p, .un, .un, .un] := by
        unfold B__law_put_1
        simp only [PD.v_bind_ok, PD.v_bind_exc, PD.v_bind_stuck, PD.v_bindS_ok, PD.v_bindS_exc, PD.v_bindS_stuck, PD.v_of_some, PD.v_of_none, PD.v_seq_nx, PD.v_seq_rt, PD.v_seq_rn, PD.v_seq_bk, PD.v_seq_ct, PD.v_seq_exc, PD.v_seq_stuck, PD.v_ifS, PD.v_sel_t, PD.v_sel_f, PD.v_sel_exc, PD.v_sel_stuck, PD.v_if, PD.v_and, PD.v_or, PD.v_selR_t, PD.v_selR_f, PD.v_selR_exc, PD.v_selR_stuck, PD.v_not, PD.v_notR, PD.v_notR_exc, PD.v_test, PD.v_testR, PD.v_testR_exc, PD.v_andV, PD.v_orV, PD.v_selV_t, PD.v_selV_f, PD.v_notV, PD.v_notV', PD.v_chain, PD.v_chain_t, PD.v_chain_f, PD.v_add_i, PD.v_add_s, PD.v_add_l, PD.v_add_t, PD.v_cat, PD.v_sub, PD.v_mul, PD.v_div, PD.v_mod, PD.v_pow, PD.v_neg, PD.v_cmp, PD.v_eq_ii, PD.v_eq_bb, PD.v_eq_ss, PD.v_eq_nn, PD.v_ne_ii, PD.v_ne_bb, PD.v_ne_ss, PD.v_eq_ll, PD.v_eq_tt, PD.v_ne_ll, PD.v_ne_tt, PD.v_eq0, PD.v_in_t, PD.v_in_l, PD.v_flat_i, PD.v_flat_s, PD.v_flat_b, PD.v_flat_n, PD.v_isB, PD.v_isN_n, PD.v_isN_i, PD.v_isN_t, PD.v_isN_l, PD.v_isN_s, PD.v_ix_l, PD.v_ix_t, PD.v_ix_s, PD.v_slN, PD.v_slV_l, PD.v_slV_t, PD.v_slV_s, PD.v_len_l, PD.v_len_t, PD.v_len_s, PD.v_len_d, PD.v_list_l, PD.v_list_t, PD.v_tuple_l, PD.v_tuple_t, PD.v_sorted, PD.v_seqOf_l, PD.v_seqOf_t, PD.v_keyOf_i, PD.v_keyOf_s, PD.v_data_l, PD.v_data_d, PD.v_isi, PD.v_isi_int, PD.v_isi_bool, PD.v_isi_str, PD.v_isi_list, PD.v_isi_tuple, PD.i_int_i, PD.i_bool_i, PD.i_tuple_i, PD.i_tuple_t, PD.i_int_t, PD.i_list_l, PD.i_str_s, PD.i_bool_b, PD.v_hTup, PD.v_hCons, PD.v_hNil, PD.w_seq, PD.w_asg, PD.w_outO_s, PD.w_outO_n, PD.w_ret, PD.w_retN, PD.w_retV, PD.w_ret0, PD.w_V, PD.w_Vr, PD.w_C, PD.w_op, PD.w_un, PD.w_CB, PD.w_cons, PD.w_nil, PD.w_tup, PD.w_lst, PD.w_ob, PD.w_call, PD.w_new, PD.w_app, PD.w_ext, PD.w_pop, PD.w_popD, PD.w_putAt, PD.w_aug, PD.w_frz, PD.w_ahead, PD.w_forget, PD.w_forO_nx, PD.w_forO_bk, PD.w_forO_ct, PD.w_forO_rt, PD.w_forO_rn, PD.w_forO_exc, PD.w_drop, PD.w_next, PD.w_bk, PD.w_ct, PD.w_exc, PD.w_lc, PD.w_itL, PD.w_itl, PD.w_itT, PD.w_itt, PD.w_itV, PD.w_itv, PD.w_rng1, PD.w_rng1', PD.w_rng2, PD.w_rng2', PD.w_lrg1, PD.w_lrg1', PD.w_sl, PD.w_no, PD.w_part, PD.w_part', PD.w_newD, PD.w_putD, PD.w_inD, PD.w_getD, PD.w_maxD, PD.w_count, PD.w_for, PD.w_hSet, PD.w_appPop, PD.w_apD, forgetE, owL, putL, owD, putOD, frzE, initE, noPm, wipeE, sizeLine_eq, List.getElem?_cons_zero, List.getElem?_cons_succ, List.set_cons_zero, List.set_cons_succ, List.map_cons, List.map_nil, List.length_cons, List.length_nil, List.replicate, List.cons_append, List.nil_append, Option.bind_some, Option.bind_none, Option.map_some, Option.map_none, ite_true, ite_false, if_true, if_false, reduceCtorEq, Nat.reduceAdd, Nat.reduceSub, Nat.reduceLeDiff, Bool.and_true, Bool.true_and, Bool.and_false, Bool.false_and, Bool.or_true, Bool.true_or, Bool.or_false, Bool.false_or, Bool.not_true, Bool.not_false, decide_true, decide_false, Bool.false_eq_true, Int.reduceEq, Int.reduceBEq, Option.isSome_some, Option.isSome_none, List.all_cons, List.all_nil, and_self, and_true, true_and, hl2, atI_1, ha]
      simp only [PD.v_bind_ok, PD.v_bind_exc, PD.v_bind_stuck, PD.v_bindS_ok, PD.v_bindS_exc, PD.v_bindS_stuck, PD.v_of_some, PD.v_of_none, PD.v_seq_nx, PD.v_seq_rt, PD.v_seq_rn, PD.v_seq_bk, PD.v_seq_ct, PD.v_seq_exc, PD.v_seq_stuck, PD.v_ifS, PD.v_sel_t, PD.v_sel_f, PD.v_sel_exc, PD.v_sel_stuck, PD.v_if, PD.v_and, PD.v_or, PD.v_selR_t, PD.v_selR_f, PD.v_selR_exc, PD.v_selR_stuck, PD.v_not, PD.v_notR, PD.v_notR_exc, PD.v_test, PD.v_testR, PD.v_testR_exc, PD.v_andV, PD.v_orV, PD.v_selV_t, PD.v_selV_f, PD.v_notV, PD.v_notV', PD.v_chain, PD.v_chain_t, PD.v_chain_f, PD.v_add_i, PD.v_add_s, PD.v_add_l, PD.v_add_t, PD.v_cat, PD.v_sub, PD.v_mul, PD.v_div, PD.v_mod, PD.v_pow, PD.v_neg, PD.v_cmp, PD.v_eq_ii, PD.v_eq_bb, PD.v_eq_ss, PD.v_eq_nn, PD.v_ne_ii, PD.v_ne_bb, PD.v_ne_ss, PD.v_eq_ll, PD.v_eq_tt, PD.v_ne_ll, PD.v_ne_tt, PD.v_eq0, PD.v_in_t, PD.v_in_l, PD.v_flat_i, PD.v_flat_s, PD.v_flat_b, PD.v_flat_n, PD.v_isB, PD.v_isN_n, PD.v_isN_i, PD.v_isN_t, PD.v_isN_l, PD.v_isN_s, PD.v_ix_l, PD.v_ix_t, PD.v_ix_s, PD.v_slN, PD.v_slV_l, PD.v_slV_t, PD.v_slV_s, PD.v_len_l, PD.v_len_t, PD.v_len_s, PD.v_len_d, PD.v_list_l, PD.v_list_t, PD.v_tuple_l, PD.v_tuple_t, PD.v_sorted, PD.v_seqOf_l, PD.v_seqOf_t, PD.v_keyOf_i, PD.v_keyOf_s, PD.v_data_l, PD.v_data_d, PD.v_isi, PD.v_isi_int, PD.v_isi_bool, PD.v_isi_str, PD.v_isi_list, PD.v_isi_tuple, PD.i_int_i, PD.i_bool_i, PD.i_tuple_i, PD.i_tuple_t, PD.i_int_t, PD.i_list_l, PD.i_str_s, PD.i_bool_b, PD.v_hTup, PD.v_hCons, PD.v_hNil, PD.w_seq, PD.w_asg, PD.w_outO_s, PD.w_outO_n, PD.w_ret, PD.w_retN, PD.w_retV, PD.w_ret0, PD.w_V, PD.w_Vr, PD.w_C, PD.w_op, PD.w_un, PD.w_CB, PD.w_cons, PD.w_nil, PD.w_tup, PD.w_lst, PD.w_ob, PD.w_call, PD.w_new, PD.w_app, PD.w_ext, PD.w_pop, PD.w_popD, PD.w_putAt, PD.w_aug, PD.w_frz, PD.w_ahead, PD.w_forget, PD.w_forO_nx, PD.w_forO_bk, PD.w_forO_ct, PD.w_forO_rt, PD.w_forO_rn, PD.w_forO_exc, PD.w_drop, PD.w_next, PD.w_bk, PD.w_ct, PD.w_exc, PD.w_lc, PD.w_itL, PD.w_itl, PD.w_itT, PD.w_itt, PD.w_itV, PD.w_itv, PD.w_rng1, PD.w_rng1', PD.w_rng2, PD.w_rng2', PD.w_lrg1, PD.w_lrg1', PD.w_sl, PD.w_no, PD.w_part, PD.w_part', PD.w_newD, PD.w_putD, PD.w_inD, PD.w_getD, PD.w_maxD, PD.w_count, PD.w_for, PD.w_hSet, PD.w_appPop, PD.w_apD, forgetE, owL, putL, owD, putOD, frzE, initE, noPm, wipeE, sizeLine_eq, List.getElem?_cons_zero, List.getElem?_cons_succ, List.set_cons_zero, List.set_cons_succ, List.map_cons, List.map_nil, List.length_cons, List.length_nil, List.replicate, List.cons_append, List.nil_append, Option.bind_some, Option.bind_none, Option.map_some, Option.map_none, ite_true, ite_false, if_true, if_false, reduceCtorEq, Nat.reduceAdd, Nat.reduceSub, Nat.reduceLeDiff, Bool.and_true, Bool.true_and, Bool.and_false, Bool.false_and, Bool.or_true, Bool.true_or, Bool.or_false, Bool.false_or, Bool.not_true, Bool.not_false, decide_true, decide_false, Bool.false_eq_true, Int.reduceEq, Int.reduceBEq, Option.isSome_some, Option.isSome_none, List.all_cons, List.all_nil, and_self, and_true, true_and, e]
      rw [ih, trail, q, List.append_assoc]
      rfl
theorem put2 (tree way new : D) (ab : D) (hx : D) : ∀ (w : List Nat) (d x made : D) (rest : List D), follow d w = some x → wt d ≤ 10000 →
    forF (hTup 2 (hCons (hSet 7) (hCons (hSet 5) hNil))) B__law_put_2 ((trail d w).reverse ++ rest) [.fr tree, .fr way, .fr new, .fr ab, .fr hx, .un, .fr made, .un] = forF (hTup 2 (hCons (hSet 7) (hCons (hSet 5) hNil))) B__law_put_2 rest [.fr tree, .fr way, .fr new, .fr ab, .fr hx, .un, .fr (plug d w made), .un]
  | [], d, x, made, rest, h, _ => rfl
  | i :: w, d, x, made, rest, h, hw => by
    simp only [follow] at h
    cases q : child d i with
    | none => rw [q] at h; cases h
    | some p =>
      rw [q] at h
      obtain ⟨k, ps, rfl, hp⟩ := child_box q
      rw [wt_knot] at hw
      have hpl := wtL_len ps
      have hwp : wt p ≤ wtL ps := by
        have hf : follow (.tuple [.str k, .tuple ps]) [i] = some p := by simp only [follow, q, Option.bind_some]
        have := follow_len [i] _ p hf
        clear hf h
        have hm : p ∈ ps := List.mem_of_getElem? hp
        clear hp q this hpl hw
        induction ps with
        | nil => cases hm
        | cons y ps ih =>
          simp only [wtL]
          rcases List.mem_cons.mp hm with rfl | hm
          · omega
          · have := ih hm; omega
      have ih := put2 tree way new ab hx w p x made (.tuple [.tuple [.str k, .tuple ps], .int ((i : Nat) : Int)] :: rest) h (by omega)
      simp only [trail, q, List.reverse_cons, List.append_assoc, List.cons_append, List.nil_append] at ih ⊢
      rw [ih]
      have c1 := cut_to ps i
      have c2 := cut_from ps (i + 1)
      rw [show (((i + 1 : Nat)) : Int) = ((i : Nat) : Int) + 1 by omega] at c2
      have z1 : (ps.take i).length + 1 ≤ 16777216 := by rw [List.length_take]; omega
      have z2 : (ps.take i).length + 1 + (ps.drop (i + 1)).length ≤ 16777216 := by rw [List.length_take, List.length_drop]; omega
      have e : B__law_put_2 [.fr tree, .fr way, .fr new, .fr ab, .fr hx, .fr (.int ((i : Nat) : Int)), .fr (plug p w made), .fr (.tuple [.str k, .tuple ps])] = .nx [.fr tree, .fr way, .fr new, .fr ab, .fr hx, .un, .fr (plug (.tuple [.str k, .tuple ps]) (i :: w) made), .un] := by
        have pl : plug (.tuple [.str k, .tuple ps]) (i :: w) made = .tuple [.str k, .tuple (ps.take i ++ [plug p w made] ++ ps.drop (i + 1))] := by
          rw [plug]; simp only [hp]
        rw [pl]
        unfold B__law_put_2
        simp only [PD.v_bind_ok, PD.v_bind_exc, PD.v_bind_stuck, PD.v_bindS_ok, PD.v_bindS_exc, PD.v_bindS_stuck, PD.v_of_some, PD.v_of_none, PD.v_seq_nx, PD.v_seq_rt, PD.v_seq_rn, PD.v_seq_bk, PD.v_seq_ct, PD.v_seq_exc, PD.v_seq_stuck, PD.v_ifS, PD.v_sel_t, PD.v_sel_f, PD.v_sel_exc, PD.v_sel_stuck, PD.v_if, PD.v_and, PD.v_or, PD.v_selR_t, PD.v_selR_f, PD.v_selR_exc, PD.v_selR_stuck, PD.v_not, PD.v_notR, PD.v_notR_exc, PD.v_test, PD.v_testR, PD.v_testR_exc, PD.v_andV, PD.v_orV, PD.v_selV_t, PD.v_selV_f, PD.v_notV, PD.v_notV', PD.v_chain, PD.v_chain_t, PD.v_chain_f, PD.v_add_i, PD.v_add_s, PD.v_add_l, PD.v_add_t, PD.v_cat, PD.v_sub, PD.v_mul, PD.v_div, PD.v_mod, PD.v_pow, PD.v_neg, PD.v_cmp, PD.v_eq_ii, PD.v_eq_bb, PD.v_eq_ss, PD.v_eq_nn, PD.v_ne_ii, PD.v_ne_bb, PD.v_ne_ss, PD.v_eq_ll, PD.v_eq_tt, PD.v_ne_ll, PD.v_ne_tt, PD.v_eq0, PD.v_in_t, PD.v_in_l, PD.v_flat_i, PD.v_flat_s, PD.v_flat_b, PD.v_flat_n, PD.v_isB, PD.v_isN_n, PD.v_isN_i, PD.v_isN_t, PD.v_isN_l, PD.v_isN_s, PD.v_ix_l, PD.v_ix_t, PD.v_ix_s, PD.v_slN, PD.v_slV_l, PD.v_slV_t, PD.v_slV_s, PD.v_len_l, PD.v_len_t, PD.v_len_s, PD.v_len_d, PD.v_list_l, PD.v_list_t, PD.v_tuple_l, PD.v_tuple_t, PD.v_sorted, PD.v_seqOf_l, PD.v_seqOf_t, PD.v_keyOf_i, PD.v_keyOf_s, PD.v_data_l, PD.v_data_d, PD.v_isi, PD.v_isi_int, PD.v_isi_bool, PD.v_isi_str, PD.v_isi_list, PD.v_isi_tuple, PD.i_int_i, PD.i_bool_i, PD.i_tuple_i, PD.i_tuple_t, PD.i_int_t, PD.i_list_l, PD.i_str_s, PD.i_bool_b, PD.v_hTup, PD.v_hCons, PD.v_hNil, PD.w_seq, PD.w_asg, PD.w_outO_s, PD.w_outO_n, PD.w_ret, PD.w_retN, PD.w_retV, PD.w_ret0, PD.w_V, PD.w_Vr, PD.w_C, PD.w_op, PD.w_un, PD.w_CB, PD.w_cons, PD.w_nil, PD.w_tup, PD.w_lst, PD.w_ob, PD.w_call, PD.w_new, PD.w_app, PD.w_ext, PD.w_pop, PD.w_popD, PD.w_putAt, PD.w_aug, PD.w_frz, PD.w_ahead, PD.w_forget, PD.w_forO_nx, PD.w_forO_bk, PD.w_forO_ct, PD.w_forO_rt, PD.w_forO_rn, PD.w_forO_exc, PD.w_drop, PD.w_next, PD.w_bk, PD.w_ct, PD.w_exc, PD.w_lc, PD.w_itL, PD.w_itl, PD.w_itT, PD.w_itt, PD.w_itV, PD.w_itv, PD.w_rng1, PD.w_rng1', PD.w_rng2, PD.w_rng2', PD.w_lrg1, PD.w_lrg1', PD.w_sl, PD.w_no, PD.w_part, PD.w_part', PD.w_newD, PD.w_putD, PD.w_inD, PD.w_getD, PD.w_maxD, PD.w_count, PD.w_for, PD.w_hSet, PD.w_appPop, PD.w_apD, forgetE, owL, putL, owD, putOD, frzE, initE, noPm, wipeE, sizeLine_eq, List.getElem?_cons_zero, List.getElem?_cons_succ, List.set_cons_zero, List.set_cons_succ, List.map_cons, List.map_nil, List.length_cons, List.length_nil, List.replicate, List.cons_append, List.nil_append, Option.bind_some, Option.bind_none, Option.map_some, Option.map_none, ite_true, ite_false, if_true, if_false, reduceCtorEq, Nat.reduceAdd, Nat.reduceSub, Nat.reduceLeDiff, Bool.and_true, Bool.true_and, Bool.and_false, Bool.false_and, Bool.or_true, Bool.true_or, Bool.or_false, Bool.false_or, Bool.not_true, Bool.not_false, decide_true, decide_false, Bool.false_eq_true, Int.reduceEq, Int.reduceBEq, Option.isSome_some, Option.isSome_none, List.all_cons, List.all_nil, and_self, and_true, true_and, atI_0, atI_1, c1, c2, z1, z2, List.length_append]
      conv => lhs; unfold forF
      simp only [PD.v_bind_ok, PD.v_bind_exc, PD.v_bind_stuck, PD.v_bindS_ok, PD.v_bindS_exc, PD.v_bindS_stuck, PD.v_of_some, PD.v_of_none, PD.v_seq_nx, PD.v_seq_rt, PD.v_seq_rn, PD.v_seq_bk, PD.v_seq_ct, PD.v_seq_exc, PD.v_seq_stuck, PD.v_ifS, PD.v_sel_t, PD.v_sel_f, PD.v_sel_exc, PD.v_sel_stuck, PD.v_if, PD.v_and, PD.v_or, PD.v_selR_t, PD.v_selR_f, PD.v_selR_exc, PD.v_selR_stuck, PD.v_not, PD.v_notR, PD.v_notR_exc, PD.v_test, PD.v_testR, PD.v_testR_exc, PD.v_andV, PD.v_orV, PD.v_selV_t, PD.v_selV_f, PD.v_notV, PD.v_notV', PD.v_chain, PD.v_chain_t, PD.v_chain_f, PD.v_add_i, PD.v_add_s, PD.v_add_l, PD.v_add_t, PD.v_cat, PD.v_sub, PD.v_mul, PD.v_div, PD.v_mod, PD.v_pow, PD.v_neg, PD.v_cmp, PD.v_eq_ii, PD.v_eq_bb, PD.v_eq_ss, PD.v_eq_nn, PD.v_ne_ii, PD.v_ne_bb, PD.v_ne_ss, PD.v_eq_ll, PD.v_eq_tt, PD.v_ne_ll, PD.v_ne_tt, PD.v_eq0, PD.v_in_t, PD.v_in_l, PD.v_flat_i, PD.v_flat_s, PD.v_flat_b, PD.v_flat_n, PD.v_isB, PD.v_isN_n, PD.v_isN_i, PD.v_isN_t, PD.v_isN_l, PD.v_isN_s, PD.v_ix_l, PD.v_ix_t, PD.v_ix_s, PD.v_slN, PD.v_slV_l, PD.v_slV_t, PD.v_slV_s, PD.v_len_l, PD.v_len_t, PD.v_len_s, PD.v_len_d, PD.v_list_l, PD.v_list_t, PD.v_tuple_l, PD.v_tuple_t, PD.v_sorted, PD.v_seqOf_l, PD.v_seqOf_t, PD.v_keyOf_i, PD.v_keyOf_s, PD.v_data_l, PD.v_data_d, PD.v_isi, PD.v_isi_int, PD.v_isi_bool, PD.v_isi_str, PD.v_isi_list, PD.v_isi_tuple, PD.i_int_i, PD.i_bool_i, PD.i_tuple_i, PD.i_tuple_t, PD.i_int_t, PD.i_list_l, PD.i_str_s, PD.i_bool_b, PD.v_hTup, PD.v_hCons, PD.v_hNil, PD.w_seq, PD.w_asg, PD.w_outO_s, PD.w_outO_n, PD.w_ret, PD.w_retN, PD.w_retV, PD.w_ret0, PD.w_V, PD.w_Vr, PD.w_C, PD.w_op, PD.w_un, PD.w_CB, PD.w_cons, PD.w_nil, PD.w_tup, PD.w_lst, PD.w_ob, PD.w_call, PD.w_new, PD.w_app, PD.w_ext, PD.w_pop, PD.w_popD, PD.w_putAt, PD.w_aug, PD.w_frz, PD.w_ahead, PD.w_forget, PD.w_forO_nx, PD.w_forO_bk, PD.w_forO_ct, PD.w_forO_rt, PD.w_forO_rn, PD.w_forO_exc, PD.w_drop, PD.w_next, PD.w_bk, PD.w_ct, PD.w_exc, PD.w_lc, PD.w_itL, PD.w_itl, PD.w_itT, PD.w_itt, PD.w_itV, PD.w_itv, PD.w_rng1, PD.w_rng1', PD.w_rng2, PD.w_rng2', PD.w_lrg1, PD.w_lrg1', PD.w_sl, PD.w_no, PD.w_part, PD.w_part', PD.w_newD, PD.w_putD, PD.w_inD, PD.w_getD, PD.w_maxD, PD.w_count, PD.w_for, PD.w_hSet, PD.w_appPop, PD.w_apD, forgetE, owL, putL, owD, putOD, frzE, initE, noPm, wipeE, sizeLine_eq, List.getElem?_cons_zero, List.getElem?_cons_succ, List.set_cons_zero, List.set_cons_succ, List.map_cons, List.map_nil, List.length_cons, List.length_nil, List.replicate, List.cons_append, List.nil_append, Option.bind_some, Option.bind_none, Option.map_some, Option.map_none, ite_true, ite_false, if_true, if_false, reduceCtorEq, Nat.reduceAdd, Nat.reduceSub, Nat.reduceLeDiff, Bool.and_true, Bool.true_and, Bool.and_false, Bool.false_and, Bool.or_true, Bool.true_or, Bool.or_false, Bool.false_or, Bool.not_true, Bool.not_false, decide_true, decide_false, Bool.false_eq_true, Int.reduceEq, Int.reduceBEq, Option.isSome_some, Option.isSome_none, List.all_cons, List.all_nil, and_self, and_true, true_and, e]
theorem wtL_take (ps : List D) (i : Nat) : wtL (ps.take i) + wtL (ps.drop i) = wtL ps := by rw [← wtL_app, List.take_append_drop]
theorem plug_wt : ∀ (w : List Nat) (d x made : D), follow d w = some x → wt (plug d w made) ≤ wt d + wt made
  | [], d, x, made, h => by rw [plug]; omega
  | i :: w, d, x, made, h => by
    simp only [follow] at h
    cases q : child d i with
    | none => rw [q] at h; cases h
    | some p =>
      rw [q] at h
      obtain ⟨k, ps, rfl, hp⟩ := child_box q
      have ih := plug_wt w p x made h
      rw [plug]
      simp only [hp]
      rw [wt_knot, wt_knot, wtL_app, wtL_app]
      have t := wtL_take ps i
      obtain ⟨hi, hpi⟩ := List.getElem?_eq_some_iff.mp hp
      rw [List.drop_eq_getElem_cons hi, hpi] at t
      simp only [wtL] at t ⊢
      omega
theorem ev_put (t : D) (w : List Nat) (x new : D) (h : follow t w = some x) (hw : wt t ≤ 10000) : f__law_put [t, wayD w, new] = .ok (plug t w new) := by
  have hl := follow_len w t x h
  have e1 := put1 t (wayD w) new w [] t x h (by simp; omega)
  have e2 := put2 t (wayD w) new (.list (trail t w)) x w t x new [] h hw
  rw [List.append_nil] at e2
  rw [List.nil_append] at e1
  unfold f__law_put funT F__law_put
  unfold wayD at e1 e2 ⊢
  have e3 : ∀ ρ : PD.Env, forF (hTup 2 (hCons (hSet 7) (hCons (hSet 5) hNil))) B__law_put_2 [] ρ = .nx ρ := fun _ => rfl
  simp only [PD.v_bind_ok, PD.v_bind_exc, PD.v_bind_stuck, PD.v_bindS_ok, PD.v_bindS_exc, PD.v_bindS_stuck, PD.v_of_some, PD.v_of_none, PD.v_seq_nx, PD.v_seq_rt, PD.v_seq_rn, PD.v_seq_bk, PD.v_seq_ct, PD.v_seq_exc, PD.v_seq_stuck, PD.v_ifS, PD.v_sel_t, PD.v_sel_f, PD.v_sel_exc, PD.v_sel_stuck, PD.v_if, PD.v_and, PD.v_or, PD.v_selR_t, PD.v_selR_f, PD.v_selR_exc, PD.v_selR_stuck, PD.v_not, PD.v_notR, PD.v_notR_exc, PD.v_test, PD.v_testR, PD.v_testR_exc, PD.v_andV, PD.v_orV, PD.v_selV_t, PD.v_selV_f, PD.v_notV, PD.v_notV', PD.v_chain, PD.v_chain_t, PD.v_chain_f, PD.v_add_i, PD.v_add_s, PD.v_add_l, PD.v_add_t, PD.v_cat, PD.v_sub, PD.v_mul, PD.v_div, PD.v_mod, PD.v_pow, PD.v_neg, PD.v_cmp, PD.v_eq_ii, PD.v_eq_bb, PD.v_eq_ss, PD.v_eq_nn, PD.v_ne_ii, PD.v_ne_bb, PD.v_ne_ss, PD.v_eq_ll, PD.v_eq_tt, PD.v_ne_ll, PD.v_ne_tt, PD.v_eq0, PD.v_in_t, PD.v_in_l, PD.v_flat_i, PD.v_flat_s, PD.v_flat_b, PD.v_flat_n, PD.v_isB, PD.v_isN_n, PD.v_isN_i, PD.v_isN_t, PD.v_isN_l, PD.v_isN_s, PD.v_ix_l, PD.v_ix_t, PD.v_ix_s, PD.v_slN, PD.v_slV_l, PD.v_slV_t, PD.v_slV_s, PD.v_len_l, PD.v_len_t, PD.v_len_s, PD.v_len_d, PD.v_list_l, PD.v_list_t, PD.v_tuple_l, PD.v_tuple_t, PD.v_sorted, PD.v_seqOf_l, PD.v_seqOf_t, PD.v_keyOf_i, PD.v_keyOf_s, PD.v_data_l, PD.v_data_d, PD.v_isi, PD.v_isi_int, PD.v_isi_bool, PD.v_isi_str, PD.v_isi_list, PD.v_isi_tuple, PD.i_int_i, PD.i_bool_i, PD.i_tuple_i, PD.i_tuple_t, PD.i_int_t, PD.i_list_l, PD.i_str_s, PD.i_bool_b, PD.v_hTup, PD.v_hCons, PD.v_hNil, PD.w_seq, PD.w_asg, PD.w_outO_s, PD.w_outO_n, PD.w_ret, PD.w_retN, PD.w_retV, PD.w_ret0, PD.w_V, PD.w_Vr, PD.w_C, PD.w_op, PD.w_un, PD.w_CB, PD.w_cons, PD.w_nil, PD.w_tup, PD.w_lst, PD.w_ob, PD.w_call, PD.w_new, PD.w_app, PD.w_ext, PD.w_pop, PD.w_popD, PD.w_putAt, PD.w_aug, PD.w_frz, PD.w_ahead, PD.w_forget, PD.w_forO_nx, PD.w_forO_bk, PD.w_forO_ct, PD.w_forO_rt, PD.w_forO_rn, PD.w_forO_exc, PD.w_drop, PD.w_next, PD.w_bk, PD.w_ct, PD.w_exc, PD.w_lc, PD.w_itL, PD.w_itl, PD.w_itT, PD.w_itt, PD.w_itV, PD.w_itv, PD.w_rng1, PD.w_rng1', PD.w_rng2, PD.w_rng2', PD.w_lrg1, PD.w_lrg1', PD.w_sl, PD.w_no, PD.w_part, PD.w_part', PD.w_newD, PD.w_putD, PD.w_inD, PD.w_getD, PD.w_maxD, PD.w_count, PD.w_for, PD.w_hSet, PD.w_appPop, PD.w_apD, forgetE, owL, putL, owD, putOD, frzE, initE, noPm, wipeE, sizeLine_eq, List.getElem?_cons_zero, List.getElem?_cons_succ, List.set_cons_zero, List.set_cons_succ, List.map_cons, List.map_nil, List.length_cons, List.length_nil, List.replicate, List.cons_append, List.nil_append, Option.bind_some, Option.bind_none, Option.map_some, Option.map_none, ite_true, ite_false, if_true, if_false, reduceCtorEq, Nat.reduceAdd, Nat.reduceSub, Nat.reduceLeDiff, Bool.and_true, Bool.true_and, Bool.and_false, Bool.false_and, Bool.or_true, Bool.true_or, Bool.or_false, Bool.false_or, Bool.not_true, Bool.not_false, decide_true, decide_false, Bool.false_eq_true, Int.reduceEq, Int.reduceBEq, Option.isSome_some, Option.isSome_none, List.all_cons, List.all_nil, and_self, and_true, true_and, e1, e2, e3]
theorem pick (L : List D) (i : Int) (P : D → Prop) (h0 : 0 ≤ i) (h1 : i < L.length) (h : ∀ d ∈ L, P d) : ∃ d, atI L i = some d ∧ P d := by
  obtain ⟨d, h2, h3, _⟩ := atI_int L i h0 h1
  exact ⟨d, h2, h d h3⟩
def someL (here kind parts many cut : D) (m : Int) (pl : List D) : List D := [.tuple [kind, cut], .tuple [kind, .tuple []], .tuple [.str "|", parts], .tuple [.str "-", parts], .tuple [.str "", parts], .tuple [.str "|-", parts], .tuple [.int 0, parts], many,
  .tuple [.none, parts], .tuple [kind, .list pl], .tuple [kind, parts, .int 0], .list [kind, parts], .tuple [], .list [], .str "0", .str "", .int (-1), .dict [], .none,
  .bool true, .bool false, .tuple [parts, kind], .tuple [kind, .int 0], .tuple [.str "+", parts], .int 0, .int (m - 1), .int (m + 1), .tuple [.str "|", .tuple [many, .int (m + 1)]],
  .tuple [.str "-", .tuple [many, here]], .tuple [many], .tuple [many, many], .int 1000000000000000000000000000000, .tuple [.list [kind], parts], .tuple [.str "|", .tuple [.str "|", .str "-"]], .int 24, .int 23]
theorem someL_wt (here cut : D) (k : Str) (pl : List D) (m : Int) (hc : wt cut ≤ 1 + wtL pl) : ∀ d ∈ someL here (.str k) (.tuple pl) (.int m) cut m pl, wt d ≤ 20 + wtL pl + wt here := by
  unfold someL
  simp only [List.forall_mem_cons, wt, wtL]
  refine ⟨by omega, by omega, by omega, by omega, by omega, by omega, by omega, by omega, by omega, by omega, by omega, by omega, by omega, by omega, by omega, by omega, by omega, by omega, by omega, by omega, by omega, by omega, by omega, by omega, by omega, by omega, by omega, by omega, by omega, by omega, by omega, by omega, by omega, by omega, by omega, by omega, fun d h => by cases h⟩
theorem cut_wt (pl : List D) : wt (.tuple (cutD pl none (some 1))) ≤ 1 + wtL pl := by
  have := cut_to pl 1
  rw [show (((1 : Nat)) : Int) = 1 from rfl] at this
  rw [this]
  have := wtL_take pl 1
  simp only [wt]; omega
theorem ev_other (here : D) (a : Str) (ms : List Int) (many cell : Int) (h : Tr a here ms) (hw : wt here ≤ 10000) : ∃ d, f__law_other [here, .int many, .int cell] = .ok d ∧ wt d ≤ 2 * wt here + 30 := by
  have m0 := Int.emod_nonneg cell (show (36 : Int) ≠ 0 by omega)
  have m1 := Int.emod_lt_of_pos cell (show (0 : Int) < 36 by omega)
  have hd : divOk 36 = true := rfl
  have h36 : ((36 : Nat) : Int) = 36 := rfl
  have hpw : (0 : Int) ≤ 30 ∧ (30 : Int) ≤ 1000 ∧ (10 : Int).natAbs < 2 ^ 64 := by decide
  have hpv : (10 : Int) ^ (30 : Int).toNat = 1000000000000000000000000000000 := by decide
  cases h with
  | num _ n =>
    obtain ⟨d, p1, p2⟩ := pick (someL (.int n) (.str "|") (.tuple [.int n, .int many]) (.int many) (.tuple (cutD [.int n, .int many] none (some 1))) many [.int n, .int many]) (cell % 36) _ m0 m1 (someL_wt _ _ _ _ _ (cut_wt _))
    refine ⟨d, ?_, by simp only [wt, wtL] at p2 ⊢; omega⟩
    simp only [someL] at p1
    unfold f__law_other funT F__law_other
    simp only [PD.v_bind_ok, PD.v_bind_exc, PD.v_bind_stuck, PD.v_bindS_ok, PD.v_bindS_exc, PD.v_bindS_stuck, PD.v_of_some, PD.v_of_none, PD.v_seq_nx, PD.v_seq_rt, PD.v_seq_rn, PD.v_seq_bk, PD.v_seq_ct, PD.v_seq_exc, PD.v_seq_stuck, PD.v_ifS, PD.v_sel_t, PD.v_sel_f, PD.v_sel_exc, PD.v_sel_stuck, PD.v_if, PD.v_and, PD.v_or, PD.v_selR_t, PD.v_selR_f, PD.v_selR_exc, PD.v_selR_stuck, PD.v_not, PD.v_notR, PD.v_notR_exc, PD.v_test, PD.v_testR, PD.v_testR_exc, PD.v_andV, PD.v_orV, PD.v_selV_t, PD.v_selV_f, PD.v_notV, PD.v_notV', PD.v_chain, PD.v_chain_t, PD.v_chain_f, PD.v_add_i, PD.v_add_s, PD.v_add_l, PD.v_add_t, PD.v_cat, PD.v_sub, PD.v_mul, PD.v_div, PD.v_mod, PD.v_pow, PD.v_neg, PD.v_cmp, PD.v_eq_ii, PD.v_eq_bb, PD.v_eq_ss, PD.v_eq_nn, PD.v_ne_ii, PD.v_ne_bb, PD.v_ne_ss, PD.v_eq_ll, PD.v_eq_tt, PD.v_ne_ll, PD.v_ne_tt, PD.v_eq0, PD.v_in_t, PD.v_in_l, PD.v_flat_i, PD.v_flat_s, PD.v_flat_b, PD.v_flat_n, PD.v_isB, PD.v_isN_n, PD.v_isN_i, PD.v_isN_t, PD.v_isN_l, PD.v_isN_s, PD.v_ix_l, PD.v_ix_t, PD.v_ix_s, PD.v_slN, PD.v_slV_l, PD.v_slV_t, PD.v_slV_s, PD.v_len_l, PD.v_len_t, PD.v_len_s, PD.v_len_d, PD.v_list_l, PD.v_list_t, PD.v_tuple_l, PD.v_tuple_t, PD.v_sorted, PD.v_seqOf_l, PD.v_seqOf_t, PD.v_keyOf_i, PD.v_keyOf_s, PD.v_data_l, PD.v_data_d, PD.v_isi, PD.v_isi_int, PD.v_isi_bool, PD.v_isi_str, PD.v_isi_list, PD.v_isi_tuple, PD.i_int_i, PD.i_bool_i, PD.i_tuple_i, PD.i_tuple_t, PD.i_int_t, PD.i_list_l, PD.i_str_s, PD.i_bool_b, PD.v_hTup, PD.v_hCons, PD.v_hNil, PD.w_seq, PD.w_asg, PD.w_outO_s, PD.w_outO_n, PD.w_ret, PD.w_retN, PD.w_retV, PD.w_ret0, PD.w_V, PD.w_Vr, PD.w_C, PD.w_op, PD.w_un, PD.w_CB, PD.w_cons, PD.w_nil, PD.w_tup, PD.w_lst, PD.w_ob, PD.w_call, PD.w_new, PD.w_app, PD.w_ext, PD.w_pop, PD.w_popD, PD.w_putAt, PD.w_aug, PD.w_frz, PD.w_ahead, PD.w_forget, PD.w_forO_nx, PD.w_forO_bk, PD.w_forO_ct, PD.w_forO_rt, PD.w_forO_rn, PD.w_forO_exc, PD.w_drop, PD.w_next, PD.w_bk, PD.w_ct, PD.w_exc, PD.w_lc, PD.w_itL, PD.w_itl, PD.w_itT, PD.w_itt, PD.w_itV, PD.w_itv, PD.w_rng1, PD.w_rng1', PD.w_rng2, PD.w_rng2', PD.w_lrg1, PD.w_lrg1', PD.w_sl, PD.w_no, PD.w_part, PD.w_part', PD.w_newD, PD.w_putD, PD.w_inD, PD.w_getD, PD.w_maxD, PD.w_count, PD.w_for, PD.w_hSet, PD.w_appPop, PD.w_apD, forgetE, owL, putL, owD, putOD, frzE, initE, noPm, wipeE, sizeLine_eq, List.getElem?_cons_zero, List.getElem?_cons_succ, List.set_cons_zero, List.set_cons_succ, List.map_cons, List.map_nil, List.length_cons, List.length_nil, List.replicate, List.cons_append, List.nil_append, Option.bind_some, Option.bind_none, Option.map_some, Option.map_none, ite_true, ite_false, if_true, if_false, reduceCtorEq, Nat.reduceAdd, Nat.reduceSub, Nat.reduceLeDiff, Bool.and_true, Bool.true_and, Bool.and_false, Bool.false_and, Bool.or_true, Bool.true_or, Bool.or_false, Bool.false_or, Bool.not_true, Bool.not_false, decide_true, decide_false, Bool.false_eq_true, Int.reduceEq, Int.reduceBEq, Option.isSome_some, Option.isSome_none, List.all_cons, List.all_nil, and_self, and_true, true_and, h36, hd, hpw, hpv, p1]
  | box _ k ps ms hg h =>
    obtain ⟨d, p1, p2⟩ := pick (someL (.tuple [.str k, .tuple ps]) (.str k) (.tuple ps) (.int many) (.tuple (cutD ps none (some 1))) many ps) (cell % 36) _ m0 m1 (someL_wt _ _ _ _ _ (cut_wt _))
    refine ⟨d, ?_, by rw [wt_knot] at p2 ⊢; omega⟩
    simp only [someL] at p1
    unfold f__law_other funT F__law_other
    simp only [PD.v_bind_ok, PD.v_bind_exc, PD.v_bind_stuck, PD.v_bindS_ok, PD.v_bindS_exc, PD.v_bindS_stuck, PD.v_of_some, PD.v_of_none, PD.v_seq_nx, PD.v_seq_rt, PD.v_seq_rn, PD.v_seq_bk, PD.v_seq_ct, PD.v_seq_exc, PD.v_seq_stuck, PD.v_ifS, PD.v_sel_t, PD.v_sel_f, PD.v_sel_exc, PD.v_sel_stuck, PD.v_if, PD.v_and, PD.v_or, PD.v_selR_t, PD.v_selR_f, PD.v_selR_exc, PD.v_selR_stuck, PD.v_not, PD.v_notR, PD.v_notR_exc, PD.v_test, PD.v_testR, PD.v_testR_exc, PD.v_andV, PD.v_orV, PD.v_selV_t, PD.v_selV_f, PD.v_notV, PD.v_notV', PD.v_chain, PD.v_chain_t, PD.v_chain_f, PD.v_add_i, PD.v_add_s, PD.v_add_l, PD.v_add_t, PD.v_cat, PD.v_sub, PD.v_mul, PD.v_div, PD.v_mod, PD.v_pow, PD.v_neg, PD.v_cmp, PD.v_eq_ii, PD.v_eq_bb, PD.v_eq_ss, PD.v_eq_nn, PD.v_ne_ii, PD.v_ne_bb, PD.v_ne_ss, PD.v_eq_ll, PD.v_eq_tt, PD.v_ne_ll, PD.v_ne_tt, PD.v_eq0, PD.v_in_t, PD.v_in_l, PD.v_flat_i, PD.v_flat_s, PD.v_flat_b, PD.v_flat_n, PD.v_isB, PD.v_isN_n, PD.v_isN_i, PD.v_isN_t, PD.v_isN_l, PD.v_isN_s, PD.v_ix_l, PD.v_ix_t, PD.v_ix_s, PD.v_slN, PD.v_slV_l, PD.v_slV_t, PD.v_slV_s, PD.v_len_l, PD.v_len_t, PD.v_len_s, PD.v_len_d, PD.v_list_l, PD.v_list_t, PD.v_tuple_l, PD.v_tuple_t, PD.v_sorted, PD.v_seqOf_l, PD.v_seqOf_t, PD.v_keyOf_i, PD.v_keyOf_s, PD.v_data_l, PD.v_data_d, PD.v_isi, PD.v_isi_int, PD.v_isi_bool, PD.v_isi_str, PD.v_isi_list, PD.v_isi_tuple, PD.i_int_i, PD.i_bool_i, PD.i_tuple_i, PD.i_tuple_t, PD.i_int_t, PD.i_list_l, PD.i_str_s, PD.i_bool_b, PD.v_hTup, PD.v_hCons, PD.v_hNil, PD.w_seq, PD.w_asg, PD.w_outO_s, PD.w_outO_n, PD.w_ret, PD.w_retN, PD.w_retV, PD.w_ret0, PD.w_V, PD.w_Vr, PD.w_C, PD.w_op, PD.w_un, PD.w_CB, PD.w_cons, PD.w_nil, PD.w_tup, PD.w_lst, PD.w_ob, PD.w_call, PD.w_new, PD.w_app, PD.w_ext, PD.w_pop, PD.w_popD, PD.w_putAt, PD.w_aug, PD.w_frz, PD.w_ahead, PD.w_forget, PD.w_forO_nx, PD.w_forO_bk, PD.w_forO_ct, PD.w_forO_rt, PD.w_forO_rn, PD.w_forO_exc, PD.w_drop, PD.w_next, PD.w_bk, PD.w_ct, PD.w_exc, PD.w_lc, PD.w_itL, PD.w_itl, PD.w_itT, PD.w_itt, PD.w_itV, PD.w_itv, PD.w_rng1, PD.w_rng1', PD.w_rng2, PD.w_rng2', PD.w_lrg1, PD.w_lrg1', PD.w_sl, PD.w_no, PD.w_part, PD.w_part', PD.w_newD, PD.w_putD, PD.w_inD, PD.w_getD, PD.w_maxD, PD.w_count, PD.w_for, PD.w_hSet, PD.w_appPop, PD.w_apD, forgetE, owL, putL, owD, putOD, frzE, initE, noPm, wipeE, sizeLine_eq, List.getElem?_cons_zero, List.getElem?_cons_succ, List.set_cons_zero, List.set_cons_succ, List.map_cons, List.map_nil, List.length_cons, List.length_nil, List.replicate, List.cons_append, List.nil_append, Option.bind_some, Option.bind_none, Option.map_some, Option.map_none, ite_true, ite_false, if_true, if_false, reduceCtorEq, Nat.reduceAdd, Nat.reduceSub, Nat.reduceLeDiff, Bool.and_true, Bool.true_and, Bool.and_false, Bool.false_and, Bool.or_true, Bool.true_or, Bool.or_false, Bool.false_or, Bool.not_true, Bool.not_false, decide_true, decide_false, Bool.false_eq_true, Int.reduceEq, Int.reduceBEq, Option.isSome_some, Option.isSome_none, List.all_cons, List.all_nil, and_self, and_true, true_and, h36, hd, hpw, hpv, p1]

theorem ev_wrong (t : D) (a : Str) (ms : List Int) (cell : Int) (h : Tr a t ms) (hw : wt t ≤ 1000) : ∃ d, f__law_wrong [t, .int cell] = .ok d ∧ wt d ≤ 10000 := by
  obtain ⟨out, o1, o2, o3, o4, _⟩ := ev_knots t a ms h (by omega)
  have m0 := Int.emod_nonneg (cell / 36) (show ((out.length : Nat) : Int) ≠ 0 by omega)
  have m1 := Int.emod_lt_of_pos (cell / 36) (show (0 : Int) < ((out.length : Nat) : Int) by omega)
  obtain ⟨e, e1, e2, e3⟩ := atI_int (out.map kd) (cell / 36 % ((out.length : Nat) : Int)) m0 (by rw [List.length_map]; exact m1)
  obtain ⟨⟨x, w⟩, hx, rfl⟩ := List.mem_map.mp e2
  obtain ⟨k1, a2, ms2, k2⟩ := o2 _ hx
  simp only at k1 k2
  have hxw := follow_len w t x k1
  obtain ⟨d, d1, d2⟩ := ev_other x a2 ms2 ((((out.length : Nat) : Int) + 1) / 2) cell k2 (by omega)
  have p := ev_put t w x d k1 (by omega)
  have pw := plug_wt w t x d k1
  refine ⟨plug t w d, ?_, by omega⟩
  have h2 : divOk 2 = true := rfl
  have h3 : divOk 36 = true := rfl
  have h4 : divOk ((out.length : Nat) : Int) = true := divOk_iff.mpr (by omega)
  unfold f__law_wrong funT F__law_wrong
  replace e1 : atI (out.map kd) (cell / 36 % ((out.length : Nat) : Int)) = some (.tuple [x, wayD w]) := e1
  simp only [PD.v_bind_ok, PD.v_bind_exc, PD.v_bind_stuck, PD.v_bindS_ok, PD.v_bindS_exc, PD.v_bindS_stuck, PD.v_of_some, PD.v_of_none, PD.v_seq_nx, PD.v_seq_rt, PD.v_seq_rn, PD.v_seq_bk, PD.v_seq_ct, PD.v_seq_exc, PD.v_seq_stuck, PD.v_ifS, PD.v_sel_t, PD.v_sel_f, PD.v_sel_exc, PD.v_sel_stuck, PD.v_if, PD.v_and, PD.v_or, PD.v_selR_t, PD.v_selR_f, PD.v_selR_exc, PD.v_selR_stuck, PD.v_not, PD.v_notR, PD.v_notR_exc, PD.v_test, PD.v_testR, PD.v_testR_exc, PD.v_andV, PD.v_orV, PD.v_selV_t, PD.v_selV_f, PD.v_notV, PD.v_notV', PD.v_chain, PD.v_chain_t, PD.v_chain_f, PD.v_add_i, PD.v_add_s, PD.v_add_l, PD.v_add_t, PD.v_cat, PD.v_sub, PD.v_mul, PD.v_div, PD.v_mod, PD.v_pow, PD.v_neg, PD.v_cmp, PD.v_eq_ii, PD.v_eq_bb, PD.v_eq_ss, PD.v_eq_nn, PD.v_ne_ii, PD.v_ne_bb, PD.v_ne_ss, PD.v_eq_ll, PD.v_eq_tt, PD.v_ne_ll, PD.v_ne_tt, PD.v_eq0, PD.v_in_t, PD.v_in_l, PD.v_flat_i, PD.v_flat_s, PD.v_flat_b, PD.v_flat_n, PD.v_isB, PD.v_isN_n, PD.v_isN_i, PD.v_isN_t, PD.v_isN_l, PD.v_isN_s, PD.v_ix_l, PD.v_ix_t, PD.v_ix_s, PD.v_slN, PD.v_slV_l, PD.v_slV_t, PD.v_slV_s, PD.v_len_l, PD.v_len_t, PD.v_len_s, PD.v_len_d, PD.v_list_l, PD.v_list_t, PD.v_tuple_l, PD.v_tuple_t, PD.v_sorted, PD.v_seqOf_l, PD.v_seqOf_t, PD.v_keyOf_i, PD.v_keyOf_s, PD.v_data_l, PD.v_data_d, PD.v_isi, PD.v_isi_int, PD.v_isi_bool, PD.v_isi_str, PD.v_isi_list, PD.v_isi_tuple, PD.i_int_i, PD.i_bool_i, PD.i_tuple_i, PD.i_tuple_t, PD.i_int_t, PD.i_list_l, PD.i_str_s, PD.i_bool_b, PD.v_hTup, PD.v_hCons, PD.v_hNil, PD.w_seq, PD.w_asg, PD.w_outO_s, PD.w_outO_n, PD.w_ret, PD.w_retN, PD.w_retV, PD.w_ret0, PD.w_V, PD.w_Vr, PD.w_C, PD.w_op, PD.w_un, PD.w_CB, PD.w_cons, PD.w_nil, PD.w_tup, PD.w_lst, PD.w_ob, PD.w_call, PD.w_new, PD.w_app, PD.w_ext, PD.w_pop, PD.w_popD, PD.w_putAt, PD.w_aug, PD.w_frz, PD.w_ahead, PD.w_forget, PD.w_forO_nx, PD.w_forO_bk, PD.w_forO_ct, PD.w_forO_rt, PD.w_forO_rn, PD.w_forO_exc, PD.w_drop, PD.w_next, PD.w_bk, PD.w_ct, PD.w_exc, PD.w_lc, PD.w_itL, PD.w_itl, PD.w_itT, PD.w_itt, PD.w_itV, PD.w_itv, PD.w_rng1, PD.w_rng1', PD.w_rng2, PD.w_rng2', PD.w_lrg1, PD.w_lrg1', PD.w_sl, PD.w_no, PD.w_part, PD.w_part', PD.w_newD, PD.w_putD, PD.w_inD, PD.w_getD, PD.w_maxD, PD.w_count, PD.w_for, PD.w_hSet, PD.w_appPop, PD.w_apD, forgetE, owL, putL, owD, putOD, frzE, initE, noPm, wipeE, sizeLine_eq, List.getElem?_cons_zero, List.getElem?_cons_succ, List.set_cons_zero, List.set_cons_succ, List.map_cons, List.map_nil, List.length_cons, List.length_nil, List.replicate, List.cons_append, List.nil_append, Option.bind_some, Option.bind_none, Option.map_some, Option.map_none, ite_true, ite_false, if_true, if_false, reduceCtorEq, Nat.reduceAdd, Nat.reduceSub, Nat.reduceLeDiff, Bool.and_true, Bool.true_and, Bool.and_false, Bool.false_and, Bool.or_true, Bool.true_or, Bool.or_false, Bool.false_or, Bool.not_true, Bool.not_false, decide_true, decide_false, Bool.false_eq_true, Int.reduceEq, Int.reduceBEq, Option.isSome_some, Option.isSome_none, List.all_cons, List.all_nil, and_self, and_true, true_and, o1, List.length_map, h2, h3, h4, e1, d1, p]
theorem ev_cell_at (ns : List Int) (i : Nat) : ∃ c, f__law_cell_at [.list (ns.map .int), .int ((i : Nat) : Int)] = .ok (.int c) := by
  unfold f__law_cell_at funT F__law_cell_at
  by_cases h : i < ns.length
  · have h1 : decide (((i : Nat) : Int) < ((ns.length : Nat) : Int)) = true := decide_eq_true (by omega)
    have h2 := atI_nat (ns.map PyData.int) i (by rw [List.length_map]; exact h)
    rw [List.getElem_map] at h2
    refine ⟨ns[i], ?_⟩
    simp only [PD.v_bind_ok, PD.v_bind_exc, PD.v_bind_stuck, PD.v_bindS_ok, PD.v_bindS_exc, PD.v_bindS_stuck, PD.v_of_some, PD.v_of_none, PD.v_seq_nx, PD.v_seq_rt, PD.v_seq_rn, PD.v_seq_bk, PD.v_seq_ct, PD.v_seq_exc, PD.v_seq_stuck, PD.v_ifS, PD.v_sel_t, PD.v_sel_f, PD.v_sel_exc, PD.v_sel_stuck, PD.v_if, PD.v_and, PD.v_or, PD.v_selR_t, PD.v_selR_f, PD.v_selR_exc, PD.v_selR_stuck, PD.v_not, PD.v_notR, PD.v_notR_exc, PD.v_test, PD.v_testR, PD.v_testR_exc, PD.v_andV, PD.v_orV, PD.v_selV_t, PD.v_selV_f, PD.v_notV, PD.v_notV', PD.v_chain, PD.v_chain_t, PD.v_chain_f, PD.v_add_i, PD.v_add_s, PD.v_add_l, PD.v_add_t, PD.v_cat, PD.v_sub, PD.v_mul, PD.v_div, PD.v_mod, PD.v_pow, PD.v_neg, PD.v_cmp, PD.v_eq_ii, PD.v_eq_bb, PD.v_eq_ss, PD.v_eq_nn, PD.v_ne_ii, PD.v_ne_bb, PD.v_ne_ss, PD.v_eq_ll, PD.v_eq_tt, PD.v_ne_ll, PD.v_ne_tt, PD.v_eq0, PD.v_in_t, PD.v_in_l, PD.v_flat_i, PD.v_flat_s, PD.v_flat_b, PD.v_flat_n, PD.v_isB, PD.v_isN_n, PD.v_isN_i, PD.v_isN_t, PD.v_isN_l, PD.v_isN_s, PD.v_ix_l, PD.v_ix_t, PD.v_ix_s, PD.v_slN, PD.v_slV_l, PD.v_slV_t, PD.v_slV_s, PD.v_len_l, PD.v_len_t, PD.v_len_s, PD.v_len_d, PD.v_list_l, PD.v_list_t, PD.v_tuple_l, PD.v_tuple_t, PD.v_sorted, PD.v_seqOf_l, PD.v_seqOf_t, PD.v_keyOf_i, PD.v_keyOf_s, PD.v_data_l, PD.v_data_d, PD.v_isi, PD.v_isi_int, PD.v_isi_bool, PD.v_isi_str, PD.v_isi_list, PD.v_isi_tuple, PD.i_int_i, PD.i_bool_i, PD.i_tuple_i, PD.i_tuple_t, PD.i_int_t, PD.i_list_l, PD.i_str_s, PD.i_bool_b, PD.v_hTup, PD.v_hCons, PD.v_hNil, PD.w_seq, PD.w_asg, PD.w_outO_s, PD.w_outO_n, PD.w_ret, PD.w_retN, PD.w_retV, PD.w_ret0, PD.w_V, PD.w_Vr, PD.w_C, PD.w_op, PD.w_un, PD.w_CB, PD.w_cons, PD.w_nil, PD.w_tup, PD.w_lst, PD.w_ob, PD.w_call, PD.w_new, PD.w_app, PD.w_ext, PD.w_pop, PD.w_popD, PD.w_putAt, PD.w_aug, PD.w_frz, PD.w_ahead, PD.w_forget, PD.w_forO_nx, PD.w_forO_bk, PD.w_forO_ct, PD.w_forO_rt, PD.w_forO_rn, PD.w_forO_exc, PD.w_drop, PD.w_next, PD.w_bk, PD.w_ct, PD.w_exc, PD.w_lc, PD.w_itL, PD.w_itl, PD.w_itT, PD.w_itt, PD.w_itV, PD.w_itv, PD.w_rng1, PD.w_rng1', PD.w_rng2, PD.w_rng2', PD.w_lrg1, PD.w_lrg1', PD.w_sl, PD.w_no, PD.w_part, PD.w_part', PD.w_newD, PD.w_putD, PD.w_inD, PD.w_getD, PD.w_maxD, PD.w_count, PD.w_for, PD.w_hSet, PD.w_appPop, PD.w_apD, forgetE, owL, putL, owD, putOD, frzE, initE, noPm, wipeE, sizeLine_eq, List.getElem?_cons_zero, List.getElem?_cons_succ, List.set_cons_zero, List.set_cons_succ, List.map_cons, List.map_nil, List.length_cons, List.length_nil, List.replicate, List.cons_append, List.nil_append, Option.bind_some, Option.bind_none, Option.map_some, Option.map_none, ite_true, ite_false, if_true, if_false, reduceCtorEq, Nat.reduceAdd, Nat.reduceSub, Nat.reduceLeDiff, Bool.and_true, Bool.true_and, Bool.and_false, Bool.false_and, Bool.or_true, Bool.true_or, Bool.or_false, Bool.false_or, Bool.not_true, Bool.not_false, decide_true, decide_false, Bool.false_eq_true, Int.reduceEq, Int.reduceBEq, Option.isSome_some, Option.isSome_none, List.all_cons, List.all_nil, and_self, and_true, true_and, List.length_map, h1, h2]
  · have h1 : decide (((i : Nat) : Int) < ((ns.length : Nat) : Int)) = false := decide_eq_false (by omega)
    refine ⟨0, ?_⟩
    simp only [PD.v_bind_ok, PD.v_bind_exc, PD.v_bind_stuck, PD.v_bindS_ok, PD.v_bindS_exc, PD.v_bindS_stuck, PD.v_of_some, PD.v_of_none, PD.v_seq_nx, PD.v_seq_rt, PD.v_seq_rn, PD.v_seq_bk, PD.v_seq_ct, PD.v_seq_exc, PD.v_seq_stuck, PD.v_ifS, PD.v_sel_t, PD.v_sel_f, PD.v_sel_exc, PD.v_sel_stuck, PD.v_if, PD.v_and, PD.v_or, PD.v_selR_t, PD.v_selR_f, PD.v_selR_exc, PD.v_selR_stuck, PD.v_not, PD.v_notR, PD.v_notR_exc, PD.v_test, PD.v_testR, PD.v_testR_exc, PD.v_andV, PD.v_orV, PD.v_selV_t, PD.v_selV_f, PD.v_notV, PD.v_notV', PD.v_chain, PD.v_chain_t, PD.v_chain_f, PD.v_add_i, PD.v_add_s, PD.v_add_l, PD.v_add_t, PD.v_cat, PD.v_sub, PD.v_mul, PD.v_div, PD.v_mod, PD.v_pow, PD.v_neg, PD.v_cmp, PD.v_eq_ii, PD.v_eq_bb, PD.v_eq_ss, PD.v_eq_nn, PD.v_ne_ii, PD.v_ne_bb, PD.v_ne_ss, PD.v_eq_ll, PD.v_eq_tt, PD.v_ne_ll, PD.v_ne_tt, PD.v_eq0, PD.v_in_t, PD.v_in_l, PD.v_flat_i, PD.v_flat_s, PD.v_flat_b, PD.v_flat_n, PD.v_isB, PD.v_isN_n, PD.v_isN_i, PD.v_isN_t, PD.v_isN_l, PD.v_isN_s, PD.v_ix_l, PD.v_ix_t, PD.v_ix_s, PD.v_slN, PD.v_slV_l, PD.v_slV_t, PD.v_slV_s, PD.v_len_l, PD.v_len_t, PD.v_len_s, PD.v_len_d, PD.v_list_l, PD.v_list_t, PD.v_tuple_l, PD.v_tuple_t, PD.v_sorted, PD.v_seqOf_l, PD.v_seqOf_t, PD.v_keyOf_i, PD.v_keyOf_s, PD.v_data_l, PD.v_data_d, PD.v_isi, PD.v_isi_int, PD.v_isi_bool, PD.v_isi_str, PD.v_isi_list, PD.v_isi_tuple, PD.i_int_i, PD.i_bool_i, PD.i_tuple_i, PD.i_tuple_t, PD.i_int_t, PD.i_list_l, PD.i_str_s, PD.i_bool_b, PD.v_hTup, PD.v_hCons, PD.v_hNil, PD.w_seq, PD.w_asg, PD.w_outO_s, PD.w_outO_n, PD.w_ret, PD.w_retN, PD.w_retV, PD.w_ret0, PD.w_V, PD.w_Vr, PD.w_C, PD.w_op, PD.w_un, PD.w_CB, PD.w_cons, PD.w_nil, PD.w_tup, PD.w_lst, PD.w_ob, PD.w_call, PD.w_new, PD.w_app, PD.w_ext, PD.w_pop, PD.w_popD, PD.w_putAt, PD.w_aug, PD.w_frz, PD.w_ahead, PD.w_forget, PD.w_forO_nx, PD.w_forO_bk, PD.w_forO_ct, PD.w_forO_rt, PD.w_forO_rn, PD.w_forO_exc, PD.w_drop, PD.w_next, PD.w_bk, PD.w_ct, PD.w_exc, PD.w_lc, PD.w_itL, PD.w_itl, PD.w_itT, PD.w_itt, PD.w_itV, PD.w_itv, PD.w_rng1, PD.w_rng1', PD.w_rng2, PD.w_rng2', PD.w_lrg1, PD.w_lrg1', PD.w_sl, PD.w_no, PD.w_part, PD.w_part', PD.w_newD, PD.w_putD, PD.w_inD, PD.w_getD, PD.w_maxD, PD.w_count, PD.w_for, PD.w_hSet, PD.w_appPop, PD.w_apD, forgetE, owL, putL, owD, putOD, frzE, initE, noPm, wipeE, sizeLine_eq, List.getElem?_cons_zero, List.getElem?_cons_succ, List.set_cons_zero, List.set_cons_succ, List.map_cons, List.map_nil, List.length_cons, List.length_nil, List.replicate, List.cons_append, List.nil_append, Option.bind_some, Option.bind_none, Option.map_some, Option.map_none, ite_true, ite_false, if_true, if_false, reduceCtorEq, Nat.reduceAdd, Nat.reduceSub, Nat.reduceLeDiff, Bool.and_true, Bool.true_and, Bool.and_false, Bool.false_and, Bool.or_true, Bool.true_or, Bool.or_false, Bool.false_or, Bool.not_true, Bool.not_false, decide_true, decide_false, Bool.false_eq_true, Int.reduceEq, Int.reduceBEq, Option.isSome_some, Option.isSome_none, List.all_cons, List.all_nil, and_self, and_true, true_and, List.length_map, h1]

end K33

set_option Elab.async false
set_option linter.all false
set_option maxRecDepth 100000
set_option maxHeartbeats 1000000
namespace K33
open PySem L2 PD
mutual
theorem lv_tr {a : Str} {d : D} {ms : List Int} : Tr a d ms → lv d = ms.length
  | .num _ n => rfl
  | .box a k ps ms hg hl => by
    have := lv_trL hl
    simp only [lv, lvL]; omega
theorem lv_trL {k : Str} {ps : List D} {ms : List Int} : TrL k ps ms → lvL ps = ms.length
  | .nil _ => rfl
  | .cons k p ps m ms hp hl => by
    have h1 := lv_tr hp
    have h2 := lv_trL hl
    simp only [lvL, List.length_append]; omega
end
theorem peel (k : Str) (f : Nat) (P : ∀ (d : D) (a : Str) (st : Stk) (r : List Int), visit f ((d, a) :: st) = some r → ∃ ms r', Tr a d ms ∧ visit f st = some r' ∧ r = ms ++ r') : ∀ (es : List D) (st : Stk) (r : List Int), visit f ((es.map fun d => (d, k)) ++ st) = some r → ∃ ms r', TrL k es.reverse ms ∧ visit f st = some r' ∧ r = ms ++ r'
  | [], st, r, h => ⟨[], r, .nil _, h, rfl⟩
  | e :: es, st, r, h => by
    obtain ⟨m1, r1, t1, v1, e1⟩ := P e k _ r h
    obtain ⟨m2, r2, t2, v2, e2⟩ := peel k f P es st r1 v1
    refine ⟨m1 ++ m2, r2, ?_, v2, by rw [e1, e2, List.append_assoc]⟩
    rw [List.reverse_cons]
    exact t2.app (.one t1)
theorem tr_of_visit : ∀ (f : Nat) (d : D) (a : Str) (st : Stk) (r : List Int), visit f ((d, a) :: st) = some r → ∃ ms r', Tr a d ms ∧ visit f st = some r' ∧ r = ms ++ r' := by
  intro f
  induction f with
  | zero => intro d a st r h; cases h
  | succ f ih =>
    intro d a st r h
    unfold visit at h
    cases e : knot d a with
    | num n =>
      simp only [e] at h
      have hd := knot_num e
      subst hd
      cases q : visit f st with
      | none => rw [q] at h; cases h
      | some r' =>
        rw [q] at h
        cases h
        exact ⟨[n], r', .num _ n, visit_mono _ _ _ q, rfl⟩
    | more k ps =>
      simp only [e] at h
      obtain ⟨hd, hg⟩ := knot_more e
      subst hd
      have hp : push k ps = ps.reverse.map fun d => (d, k) := by unfold push; rw [List.map_reverse]
      rw [hp] at h
      obtain ⟨ms, r', t, v, e2⟩ := peel k f ih ps.reverse st r h
      rw [List.reverse_reverse] at t
      exact ⟨ms, r', .box _ k ps _ hg t, visit_mono _ _ _ v, e2⟩
    | bad => simp only [e] at h; cases h
/-- a thing that is a tree is one -/
theorem tr_of (d : D) (hw : wt d ≤ 16777000) (h : f_is_tree [d] = .ok (.bool true)) : ∃ ms, Tr "" d ms ∧ ms.length ≤ 24 ∧ ∀ m ∈ ms, 0 ≤ m ∧ m < 24 := by
  rw [ev_is_tree d hw] at h
  cases q : visit (wt d) [(d, "")] with
  | none => rw [q] at h; cases h
  | some ms =>
    rw [q] at h
    simp only [Res.ok.injEq, PyData.bool.injEq] at h
    have hg := (Bool.and_eq_true_iff.mp h).1
    rw [read_same ms (visit_ne q (by simp))] at h
    have hl := goodI_len ms [] (Bool.and_eq_true_iff.mp h).1 (by simp)
    obtain ⟨m2, r', t, v, e⟩ := tr_of_visit _ _ _ _ _ q
    rw [visit_nil] at v
    cases v
    rw [List.append_nil] at e
    subst e
    have := (good_iff ms []).mp hg
    exact ⟨ms, t, by simpa using hl, fun m hm => ⟨(this.1 m hm).1, (this.1 m hm).2.1⟩⟩
theorem tr_pos {a : Str} {d : D} {ms : List Int} (h : Tr a d ms) : 1 ≤ ms.length := by
  have v := visit_tr h 0 [] [] rfl
  rw [List.append_nil] at v
  have := visit_ne v (by simp)
  exact List.length_pos_iff.mpr this
theorem trL_pos {k : Str} : ∀ {ps : List D} {ms : List Int}, TrL k ps ms → ps.length ≤ ms.length
  | [], _, _ => Nat.zero_le _
  | p :: ps, _, h => by
    cases h with
    | cons _ _ _ m ms hp hl =>
      have h1 := tr_pos hp
      have h2 := trL_pos hl
      simp only [List.length_cons, List.length_append]; omega
theorem ev_need (d : D) (b : Bool) (h : f_is_tree [d] = .ok (.bool b)) : f_need_tree [d] = if b = true then .ok d else .exc "NoTree" := by
  unfold f_need_tree funT F_need_tree
  cases b with
  | true => simp only [PD.v_bind_ok, PD.v_bind_exc, PD.v_bind_stuck, PD.v_bindS_ok, PD.v_bindS_exc, PD.v_bindS_stuck, PD.v_of_some, PD.v_of_none, PD.v_seq_nx, PD.v_seq_rt, PD.v_seq_rn, PD.v_seq_bk, PD.v_seq_ct, PD.v_seq_exc, PD.v_seq_stuck, PD.v_ifS, PD.v_sel_t, PD.v_sel_f, PD.v_sel_exc, PD.v_sel_stuck, PD.v_if, PD.v_and, PD.v_or, PD.v_selR_t, PD.v_selR_f, PD.v_selR_exc, PD.v_selR_stuck, PD.v_not, PD.v_notR, PD.v_notR_exc, PD.v_test, PD.v_testR, PD.v_testR_exc, PD.v_andV, PD.v_orV, PD.v_selV_t, PD.v_selV_f, PD.v_notV, PD.v_notV', PD.v_chain, PD.v_chain_t, PD.v_chain_f, PD.v_add_i, PD.v_add_s, PD.v_add_l, PD.v_add_t, PD.v_cat, PD.v_sub, PD.v_mul, PD.v_div, PD.v_mod, PD.v_pow, PD.v_neg, PD.v_cmp, PD.v_eq_ii, PD.v_eq_bb, PD.v_eq_ss, PD.v_eq_nn, PD.v_ne_ii, PD.v_ne_bb, PD.v_ne_ss, PD.v_eq_ll, PD.v_eq_tt, PD.v_ne_ll, PD.v_ne_tt, PD.v_eq0, PD.v_in_t, PD.v_in_l, PD.v_flat_i, PD.v_flat_s, PD.v_flat_b, PD.v_flat_n, PD.v_isB, PD.v_isN_n, PD.v_isN_i, PD.v_isN_t, PD.v_isN_l, PD.v_isN_s, PD.v_ix_l, PD.v_ix_t, PD.v_ix_s, PD.v_slN, PD.v_slV_l, PD.v_slV_t, PD.v_slV_s, PD.v_len_l, PD.v_len_t, PD.v_len_s, PD.v_len_d, PD.v_list_l, PD.v_list_t, PD.v_tuple_l, PD.v_tuple_t, PD.v_sorted, PD.v_seqOf_l, PD.v_seqOf_t, PD.v_keyOf_i, PD.v_keyOf_s, PD.v_data_l, PD.v_data_d, PD.v_isi, PD.v_isi_int, PD.v_isi_bool, PD.v_isi_str, PD.v_isi_list, PD.v_isi_tuple, PD.i_int_i, PD.i_bool_i, PD.i_tuple_i, PD.i_tuple_t, PD.i_int_t, PD.i_list_l, PD.i_str_s, PD.i_bool_b, PD.v_hTup, PD.v_hCons, PD.v_hNil, PD.w_seq, PD.w_asg, PD.w_outO_s, PD.w_outO_n, PD.w_ret, PD.w_retN, PD.w_retV, PD.w_ret0, PD.w_V, PD.w_Vr, PD.w_C, PD.w_op, PD.w_un, PD.w_CB, PD.w_cons, PD.w_nil, PD.w_tup, PD.w_lst, PD.w_ob, PD.w_call, PD.w_new, PD.w_app, PD.w_ext, PD.w_pop, PD.w_popD, PD.w_putAt, PD.w_aug, PD.w_frz, PD.w_ahead, PD.w_forget, PD.w_forO_nx, PD.w_forO_bk, PD.w_forO_ct, PD.w_forO_rt, PD.w_forO_rn, PD.w_forO_exc, PD.w_drop, PD.w_next, PD.w_bk, PD.w_ct, PD.w_exc, PD.w_lc, PD.w_itL, PD.w_itl, PD.w_itT, PD.w_itt, PD.w_itV, PD.w_itv, PD.w_rng1, PD.w_rng1', PD.w_rng2, PD.w_rng2', PD.w_lrg1, PD.w_lrg1', PD.w_sl, PD.w_no, PD.w_part, PD.w_part', PD.w_newD, PD.w_putD, PD.w_inD, PD.w_getD, PD.w_maxD, PD.w_count, PD.w_for, PD.w_hSet, PD.w_appPop, PD.w_apD, forgetE, owL, putL, owD, putOD, frzE, initE, noPm, wipeE, sizeLine_eq, List.getElem?_cons_zero, List.getElem?_cons_succ, List.set_cons_zero, List.set_cons_succ, List.map_cons, List.map_nil, List.length_cons, List.length_nil, List.replicate, List.cons_append, List.nil_append, Option.bind_some, Option.bind_none, Option.map_some, Option.map_none, ite_true, ite_false, if_true, if_false, reduceCtorEq, Nat.reduceAdd, Nat.reduceSub, Nat.reduceLeDiff, Bool.and_true, Bool.true_and, Bool.and_false, Bool.false_and, Bool.or_true, Bool.true_or, Bool.or_false, Bool.false_or, Bool.not_true, Bool.not_false, decide_true, decide_false, Bool.false_eq_true, Int.reduceEq, Int.reduceBEq, Option.isSome_some, Option.isSome_none, List.all_cons, List.all_nil, and_self, and_true, true_and, h]
  | false =>
    simp only [PD.v_bind_ok, PD.v_bind_exc, PD.v_bind_stuck, PD.v_bindS_ok, PD.v_bindS_exc, PD.v_bindS_stuck, PD.v_of_some, PD.v_of_none, PD.v_seq_nx, PD.v_seq_rt, PD.v_seq_rn, PD.v_seq_bk, PD.v_seq_ct, PD.v_seq_exc, PD.v_seq_stuck, PD.v_ifS, PD.v_sel_t, PD.v_sel_f, PD.v_sel_exc, PD.v_sel_stuck, PD.v_if, PD.v_and, PD.v_or, PD.v_selR_t, PD.v_selR_f, PD.v_selR_exc, PD.v_selR_stuck, PD.v_not, PD.v_notR, PD.v_notR_exc, PD.v_test, PD.v_testR, PD.v_testR_exc, PD.v_andV, PD.v_orV, PD.v_selV_t, PD.v_selV_f, PD.v_notV, PD.v_notV', PD.v_chain, PD.v_chain_t, PD.v_chain_f, PD.v_add_i, PD.v_add_s, PD.v_add_l, PD.v_add_t, PD.v_cat, PD.v_sub, PD.v_mul, PD.v_div, PD.v_mod, PD.v_pow, PD.v_neg, PD.v_cmp, PD.v_eq_ii, PD.v_eq_bb, PD.v_eq_ss, PD.v_eq_nn, PD.v_ne_ii, PD.v_ne_bb, PD.v_ne_ss, PD.v_eq_ll, PD.v_eq_tt, PD.v_ne_ll, PD.v_ne_tt, PD.v_eq0, PD.v_in_t, PD.v_in_l, PD.v_flat_i, PD.v_flat_s, PD.v_flat_b, PD.v_flat_n, PD.v_isB, PD.v_isN_n, PD.v_isN_i, PD.v_isN_t, PD.v_isN_l, PD.v_isN_s, PD.v_ix_l, PD.v_ix_t, PD.v_ix_s, PD.v_slN, PD.v_slV_l, PD.v_slV_t, PD.v_slV_s, PD.v_len_l, PD.v_len_t, PD.v_len_s, PD.v_len_d, PD.v_list_l, PD.v_list_t, PD.v_tuple_l, PD.v_tuple_t, PD.v_sorted, PD.v_seqOf_l, PD.v_seqOf_t, PD.v_keyOf_i, PD.v_keyOf_s, PD.v_data_l, PD.v_data_d, PD.v_isi, PD.v_isi_int, PD.v_isi_bool, PD.v_isi_str, PD.v_isi_list, PD.v_isi_tuple, PD.i_int_i, PD.i_bool_i, PD.i_tuple_i, PD.i_tuple_t, PD.i_int_t, PD.i_list_l, PD.i_str_s, PD.i_bool_b, PD.v_hTup, PD.v_hCons, PD.v_hNil, PD.w_seq, PD.w_asg, PD.w_outO_s, PD.w_outO_n, PD.w_ret, PD.w_retN, PD.w_retV, PD.w_ret0, PD.w_V, PD.w_Vr, PD.w_C, PD.w_op, PD.w_un, PD.w_CB, PD.w_cons, PD.w_nil, PD.w_tup, PD.w_lst, PD.w_ob, PD.w_call, PD.w_new, PD.w_app, PD.w_ext, PD.w_pop, PD.w_popD, PD.w_putAt, PD.w_aug, PD.w_frz, PD.w_ahead, PD.w_forget, PD.w_forO_nx, PD.w_forO_bk, PD.w_forO_ct, PD.w_forO_rt, PD.w_forO_rn, PD.w_forO_exc, PD.w_drop, PD.w_next, PD.w_bk, PD.w_ct, PD.w_exc, PD.w_lc, PD.w_itL, PD.w_itl, PD.w_itT, PD.w_itt, PD.w_itV, PD.w_itv, PD.w_rng1, PD.w_rng1', PD.w_rng2, PD.w_rng2', PD.w_lrg1, PD.w_lrg1', PD.w_sl, PD.w_no, PD.w_part, PD.w_part', PD.w_newD, PD.w_putD, PD.w_inD, PD.w_getD, PD.w_maxD, PD.w_count, PD.w_for, PD.w_hSet, PD.w_appPop, PD.w_apD, forgetE, owL, putL, owD, putOD, frzE, initE, noPm, wipeE, sizeLine_eq, List.getElem?_cons_zero, List.getElem?_cons_succ, List.set_cons_zero, List.set_cons_succ, List.map_cons, List.map_nil, List.length_cons, List.length_nil, List.replicate, List.cons_append, List.nil_append, Option.bind_some, Option.bind_none, Option.map_some, Option.map_none, ite_true, ite_false, if_true, if_false, reduceCtorEq, Nat.reduceAdd, Nat.reduceSub, Nat.reduceLeDiff, Bool.and_true, Bool.true_and, Bool.and_false, Bool.false_and, Bool.or_true, Bool.true_or, Bool.or_false, Bool.false_or, Bool.not_true, Bool.not_false, decide_true, decide_false, Bool.false_eq_true, Int.reduceEq, Int.reduceBEq, Option.isSome_some, Option.isSome_none, List.all_cons, List.all_nil, and_self, and_true, true_and, h]
/-! counting -/
theorem lc_call (g : List D → Res D) (x : D) (v : Ent) (r : D → D) : ∀ ps : List D, (∀ p ∈ ps, g [p] = .ok (r p)) → lcF (hSet 1) dYes (dCall g (dCons (dV 1) dNil)) [.fr x, .un] ps = some (ps.map r) := fun ps h => lcF_map fun p hp => ⟨[.fr x, .fr p], rfl, by
  have := h p hp
  (simp only [PD.v_bind_ok, PD.v_bind_exc, PD.v_bind_stuck, PD.v_bindS_ok, PD.v_bindS_exc, PD.v_bindS_stuck, PD.v_of_some, PD.v_of_none, PD.v_seq_nx, PD.v_seq_rt, PD.v_seq_rn, PD.v_seq_bk, PD.v_seq_ct, PD.v_seq_exc, PD.v_seq_stuck, PD.v_ifS, PD.v_sel_t, PD.v_sel_f, PD.v_sel_exc, PD.v_sel_stuck, PD.v_if, PD.v_and, PD.v_or, PD.v_selR_t, PD.v_selR_f, PD.v_selR_exc, PD.v_selR_stuck, PD.v_not, PD.v_notR, PD.v_notR_exc, PD.v_test, PD.v_testR, PD.v_testR_exc, PD.v_andV, PD.v_orV, PD.v_selV_t, PD.v_selV_f, PD.v_notV, PD.v_notV', PD.v_chain, PD.v_chain_t, PD.v_chain_f, PD.v_add_i, PD.v_add_s, PD.v_add_l, PD.v_add_t, PD.v_cat, PD.v_sub, PD.v_mul, PD.v_div, PD.v_mod, PD.v_pow, PD.v_neg, PD.v_cmp, PD.v_eq_ii, PD.v_eq_bb, PD.v_eq_ss, PD.v_eq_nn, PD.v_ne_ii, PD.v_ne_bb, PD.v_ne_ss, PD.v_eq_ll, PD.v_eq_tt, PD.v_ne_ll, PD.v_ne_tt, PD.v_eq0, PD.v_in_t, PD.v_in_l, PD.v_flat_i, PD.v_flat_s, PD.v_flat_b, PD.v_flat_n, PD.v_isB, PD.v_isN_n, PD.v_isN_i, PD.v_isN_t, PD.v_isN_l, PD.v_isN_s, PD.v_ix_l, PD.v_ix_t, PD.v_ix_s, PD.v_slN, PD.v_slV_l, PD.v_slV_t, PD.v_slV_s, PD.v_len_l, PD.v_len_t, PD.v_len_s, PD.v_len_d, PD.v_list_l, PD.v_list_t, PD.v_tuple_l, PD.v_tuple_t, PD.v_sorted, PD.v_seqOf_l, PD.v_seqOf_t, PD.v_keyOf_i, PD.v_keyOf_s, PD.v_data_l, PD.v_data_d, PD.v_isi, PD.v_isi_int, PD.v_isi_bool, PD.v_isi_str, PD.v_isi_list, PD.v_isi_tuple, PD.i_int_i, PD.i_bool_i, PD.i_tuple_i, PD.i_tuple_t, PD.i_int_t, PD.i_list_l, PD.i_str_s, PD.i_bool_b, PD.v_hTup, PD.v_hCons, PD.v_hNil, PD.w_seq, PD.w_asg, PD.w_outO_s, PD.w_outO_n, PD.w_ret, PD.w_retN, PD.w_retV, PD.w_ret0, PD.w_V, PD.w_Vr, PD.w_C, PD.w_op, PD.w_un, PD.w_CB, PD.w_cons, PD.w_nil, PD.w_tup, PD.w_lst, PD.w_ob, PD.w_call, PD.w_new, PD.w_app, PD.w_ext, PD.w_pop, PD.w_popD, PD.w_putAt, PD.w_aug, PD.w_frz, PD.w_ahead, PD.w_forget, PD.w_forO_nx, PD.w_forO_bk, PD.w_forO_ct, PD.w_forO_rt, PD.w_forO_rn, PD.w_forO_exc, PD.w_drop, PD.w_next, PD.w_bk, PD.w_ct, PD.w_exc, PD.w_lc, PD.w_itL, PD.w_itl, PD.w_itT, PD.w_itt, PD.w_itV, PD.w_itv, PD.w_rng1, PD.w_rng1', PD.w_rng2, PD.w_rng2', PD.w_lrg1, PD.w_lrg1', PD.w_sl, PD.w_no, PD.w_part, PD.w_part', PD.w_newD, PD.w_putD, PD.w_inD, PD.w_getD, PD.w_maxD, PD.w_count, PD.w_for, PD.w_hSet, PD.w_appPop, PD.w_apD, forgetE, owL, putL, owD, putOD, frzE, initE, noPm, wipeE, sizeLine_eq, List.getElem?_cons_zero, List.getElem?_cons_succ, List.set_cons_zero, List.set_cons_succ, List.map_cons, List.map_nil, List.length_cons, List.length_nil, List.replicate, List.cons_append, List.nil_append, Option.bind_some, Option.bind_none, Option.map_some, Option.map_none, ite_true, ite_false, if_true, if_false, reduceCtorEq, Nat.reduceAdd, Nat.reduceSub, Nat.reduceLeDiff, Bool.and_true, Bool.true_and, Bool.and_false, Bool.false_and, Bool.or_true, Bool.true_or, Bool.or_false, Bool.false_or, Bool.not_true, Bool.not_false, decide_true, decide_false, Bool.false_eq_true, Int.reduceEq, Int.reduceBEq, Option.isSome_some, Option.isSome_none, List.all_cons, List.all_nil, and_self, and_true, true_and, this])⟩
mutual
theorem count_tr {a : Str} {d : D} {ms : List Int} : Tr a d ms → ∀ n : Nat, ms.length ≤ n → fr_count_boxes n [d] = .ok (.int ((lv d : Nat) : Int))
  | .num _ i, n, h => by
    obtain ⟨n, rfl⟩ : ∃ m, n = m + 1 := ⟨n - 1, by simp only [List.length_cons, List.length_nil] at h; omega⟩
    unfold fr_count_boxes funT F_count_boxes
    simp only [PD.v_bind_ok, PD.v_bind_exc, PD.v_bind_stuck, PD.v_bindS_ok, PD.v_bindS_exc, PD.v_bindS_stuck, PD.v_of_some, PD.v_of_none, PD.v_seq_nx, PD.v_seq_rt, PD.v_seq_rn, PD.v_seq_bk, PD.v_seq_ct, PD.v_seq_exc, PD.v_seq_stuck, PD.v_ifS, PD.v_sel_t, PD.v_sel_f, PD.v_sel_exc, PD.v_sel_stuck, PD.v_if, PD.v_and, PD.v_or, PD.v_selR_t, PD.v_selR_f, PD.v_selR_exc, PD.v_selR_stuck, PD.v_not, PD.v_notR, PD.v_notR_exc, PD.v_test, PD.v_testR, PD.v_testR_exc, PD.v_andV, PD.v_orV, PD.v_selV_t, PD.v_selV_f, PD.v_notV, PD.v_notV', PD.v_chain, PD.v_chain_t, PD.v_chain_f, PD.v_add_i, PD.v_add_s, PD.v_add_l, PD.v_add_t, PD.v_cat, PD.v_sub, PD.v_mul, PD.v_div, PD.v_mod, PD.v_pow, PD.v_neg, PD.v_cmp, PD.v_eq_ii, PD.v_eq_bb, PD.v_eq_ss, PD.v_eq_nn, PD.v_ne_ii, PD.v_ne_bb, PD.v_ne_ss, PD.v_eq_ll, PD.v_eq_tt, PD.v_ne_ll, PD.v_ne_tt, PD.v_eq0, PD.v_in_t, PD.v_in_l, PD.v_flat_i, PD.v_flat_s, PD.v_flat_b, PD.v_flat_n, PD.v_isB, PD.v_isN_n, PD.v_isN_i, PD.v_isN_t, PD.v_isN_l, PD.v_isN_s, PD.v_ix_l, PD.v_ix_t, PD.v_ix_s, PD.v_slN, PD.v_slV_l, PD.v_slV_t, PD.v_slV_s, PD.v_len_l, PD.v_len_t, PD.v_len_s, PD.v_len_d, PD.v_list_l, PD.v_list_t, PD.v_tuple_l, PD.v_tuple_t, PD.v_sorted, PD.v_seqOf_l, PD.v_seqOf_t, PD.v_keyOf_i, PD.v_keyOf_s, PD.v_data_l, PD.v_data_d, PD.v_isi, PD.v_isi_int, PD.v_isi_bool, PD.v_isi_str, PD.v_isi_list, PD.v_isi_tuple, PD.i_int_i, PD.i_bool_i, PD.i_tuple_i, PD.i_tuple_t, PD.i_int_t, PD.i_list_l, PD.i_str_s, PD.i_bool_b, PD.v_hTup, PD.v_hCons, PD.v_hNil, PD.w_seq, PD.w_asg, PD.w_outO_s, PD.w_outO_n, PD.w_ret, PD.w_retN, PD.w_retV, PD.w_ret0, PD.w_V, PD.w_Vr, PD.w_C, PD.w_op, PD.w_un, PD.w_CB, PD.w_cons, PD.w_nil, PD.w_tup, PD.w_lst, PD.w_ob, PD.w_call, PD.w_new, PD.w_app, PD.w_ext, PD.w_pop, PD.w_popD, PD.w_putAt, PD.w_aug, PD.w_frz, PD.w_ahead, PD.w_forget, PD.w_forO_nx, PD.w_forO_bk, PD.w_forO_ct, PD.w_forO_rt, PD.w_forO_rn, PD.w_forO_exc, PD.w_drop, PD.w_next, PD.w_bk, PD.w_ct, PD.w_exc, PD.w_lc, PD.w_itL, PD.w_itl, PD.w_itT, PD.w_itt, PD.w_itV, PD.w_itv, PD.w_rng1, PD.w_rng1', PD.w_rng2, PD.w_rng2', PD.w_lrg1, PD.w_lrg1', PD.w_sl, PD.w_no, PD.w_part, PD.w_part', PD.w_newD, PD.w_putD, PD.w_inD, PD.w_getD, PD.w_maxD, PD.w_count, PD.w_for, PD.w_hSet, PD.w_appPop, PD.w_apD, forgetE, owL, putL, owD, putOD, frzE, initE, noPm, wipeE, sizeLine_eq, List.getElem?_cons_zero, List.getElem?_cons_succ, List.set_cons_zero, List.set_cons_succ, List.map_cons, List.map_nil, List.length_cons, List.length_nil, List.replicate, List.cons_append, List.nil_append, Option.bind_some, Option.bind_none, Option.map_some, Option.map_none, ite_true, ite_false, if_true, if_false, reduceCtorEq, Nat.reduceAdd, Nat.reduceSub, Nat.reduceLeDiff, Bool.and_true, Bool.true_and, Bool.and_false, Bool.false_and, Bool.or_true, Bool.true_or, Bool.or_false, Bool.false_or, Bool.not_true, Bool.not_false, decide_true, decide_false, Bool.false_eq_true, Int.reduceEq, Int.reduceBEq, Option.isSome_some, Option.isSome_none, List.all_cons, List.all_nil, and_self, and_true, true_and, ev_is_whole, isW, lv]
    rfl
  | .box a k ps ms hg hl, n, h => by
    have h2 : 2 ≤ ps.length := by
      unfold kGood at hg
      exact of_decide_eq_true (Bool.and_eq_true_iff.mp hg).2
    have hp := trL_pos hl
    obtain ⟨n, rfl⟩ : ∃ m, n = m + 1 := ⟨n - 1, by omega⟩
    · have c := count_trL hl n (by omega)
      have e := lc_call (fr_count_boxes n) (.tuple [.str k, .tuple ps]) .un (fun p => .int ((lv p : Nat) : Int)) ps c
      unfold fr_count_boxes funT F_count_boxes
      have hi : intsOf (ps.map fun p => PyData.int ((lv p : Nat) : Int)) = some (ps.map fun p => ((lv p : Nat) : Int)) := by
        rw [← intsOf_map, List.map_map]; rfl
      have hs : ∀ qs : List D, (qs.map fun p => ((lv p : Nat) : Int)).sum = ((lvL qs : Nat) : Int) := fun qs => by
        induction qs with
        | nil => rfl
        | cons q qs ih => rw [List.map_cons, List.sum_cons, ih]; simp only [lvL]; omega
      have hv : lv (.tuple [.str k, .tuple ps]) = lvL ps := by simp only [lv, lvL]; omega
      simp only [PD.v_bind_ok, PD.v_bind_exc, PD.v_bind_stuck, PD.v_bindS_ok, PD.v_bindS_exc, PD.v_bindS_stuck, PD.v_of_some, PD.v_of_none, PD.v_seq_nx, PD.v_seq_rt, PD.v_seq_rn, PD.v_seq_bk, PD.v_seq_ct, PD.v_seq_exc, PD.v_seq_stuck, PD.v_ifS, PD.v_sel_t, PD.v_sel_f, PD.v_sel_exc, PD.v_sel_stuck, PD.v_if, PD.v_and, PD.v_or, PD.v_selR_t, PD.v_selR_f, PD.v_selR_exc, PD.v_selR_stuck, PD.v_not, PD.v_notR, PD.v_notR_exc, PD.v_test, PD.v_testR, PD.v_testR_exc, PD.v_andV, PD.v_orV, PD.v_selV_t, PD.v_selV_f, PD.v_notV, PD.v_notV', PD.v_chain, PD.v_chain_t, PD.v_chain_f, PD.v_add_i, PD.v_add_s, PD.v_add_l, PD.v_add_t, PD.v_cat, PD.v_sub, PD.v_mul, PD.v_div, PD.v_mod, PD.v_pow, PD.v_neg, PD.v_cmp, PD.v_eq_ii, PD.v_eq_bb, PD.v_eq_ss, PD.v_eq_nn, PD.v_ne_ii, PD.v_ne_bb, PD.v_ne_ss, PD.v_eq_ll, PD.v_eq_tt, PD.v_ne_ll, PD.v_ne_tt, PD.v_eq0, PD.v_in_t, PD.v_in_l, PD.v_flat_i, PD.v_flat_s, PD.v_flat_b, PD.v_flat_n, PD.v_isB, PD.v_isN_n, PD.v_isN_i, PD.v_isN_t, PD.v_isN_l, PD.v_isN_s, PD.v_ix_l, PD.v_ix_t, PD.v_ix_s, PD.v_slN, PD.v_slV_l, PD.v_slV_t, PD.v_slV_s, PD.v_len_l, PD.v_len_t, PD.v_len_s, PD.v_len_d, PD.v_list_l, PD.v_list_t, PD.v_tuple_l, PD.v_tuple_t, PD.v_sorted, PD.v_seqOf_l, PD.v_seqOf_t, PD.v_keyOf_i, PD.v_keyOf_s, PD.v_data_l, PD.v_data_d, PD.v_isi, PD.v_isi_int, PD.v_isi_bool, PD.v_isi_str, PD.v_isi_list, PD.v_isi_tuple, PD.i_int_i, PD.i_bool_i, PD.i_tuple_i, PD.i_tuple_t, PD.i_int_t, PD.i_list_l, PD.i_str_s, PD.i_bool_b, PD.v_hTup, PD.v_hCons, PD.v_hNil, PD.w_seq, PD.w_asg, PD.w_outO_s, PD.w_outO_n, PD.w_ret, PD.w_retN, PD.w_retV, PD.w_ret0, PD.w_V, PD.w_Vr, PD.w_C, PD.w_op, PD.w_un, PD.w_CB, PD.w_cons, PD.w_nil, PD.w_tup, PD.w_lst, PD.w_ob, PD.w_call, PD.w_new, PD.w_app, PD.w_ext, PD.w_pop, PD.w_popD, PD.w_putAt, PD.w_aug, PD.w_frz, PD.w_ahead, PD.w_forget, PD.w_forO_nx, PD.w_forO_bk, PD.w_forO_ct, PD.w_forO_rt, PD.w_forO_rn, PD.w_forO_exc, PD.w_drop, PD.w_next, PD.w_bk, PD.w_ct, PD.w_exc, PD.w_lc, PD.w_itL, PD.w_itl, PD.w_itT, PD.w_itt, PD.w_itV, PD.w_itv, PD.w_rng1, PD.w_rng1', PD.w_rng2, PD.w_rng2', PD.w_lrg1, PD.w_lrg1', PD.w_sl, PD.w_no, PD.w_part, PD.w_part', PD.w_newD, PD.w_putD, PD.w_inD, PD.w_getD, PD.w_maxD, PD.w_count, PD.w_for, PD.w_hSet, PD.w_appPop, PD.w_apD, forgetE, owL, putL, owD, putOD, frzE, initE, noPm, wipeE, sizeLine_eq, List.getElem?_cons_zero, List.getElem?_cons_succ, List.set_cons_zero, List.set_cons_succ, List.map_cons, List.map_nil, List.length_cons, List.length_nil, List.replicate, List.cons_append, List.nil_append, Option.bind_some, Option.bind_none, Option.map_some, Option.map_none, ite_true, ite_false, if_true, if_false, reduceCtorEq, Nat.reduceAdd, Nat.reduceSub, Nat.reduceLeDiff, Bool.and_true, Bool.true_and, Bool.and_false, Bool.false_and, Bool.or_true, Bool.true_or, Bool.or_false, Bool.false_or, Bool.not_true, Bool.not_false, decide_true, decide_false, Bool.false_eq_true, Int.reduceEq, Int.reduceBEq, Option.isSome_some, Option.isSome_none, List.all_cons, List.all_nil, and_self, and_true, true_and, ev_is_whole, isW, atI_1, wipeE, noPm, e, dSum1, hi, hs, hv]
theorem count_trL {k : Str} {ps : List D} {ms : List Int} : TrL k ps ms → ∀ n : Nat, ms.length + 1 ≤ n + ps.length → ∀ p ∈ ps, fr_count_boxes n [p] = .ok (.int ((lv p : Nat) : Int))
  | .nil _, n, h, p, hp => by cases hp
  | .cons k q ps m ms hq hl, n, h, p, hp => by
    have h1 := tr_pos hq
    have h2 := trL_pos hl
    simp only [List.length_cons, List.length_append] at h
    rcases List.mem_cons.mp hp with e | hp
    · rw [e]; exact count_tr hq n (by omega)
    · exact count_trL hl n (by omega) p hp
end

end K33

set_option Elab.async false
set_option linter.all false
set_option maxRecDepth 100000
set_option maxHeartbeats 1000000
namespace K33
open PySem L2 PD
theorem txt_join_len (sep : Str) (ys : List Str) : (Txt.join sep ys).length ≤ (ys.map (·.length)).sum + ys.length * sep.length := by
  unfold Txt.join
  rw [StrLaws.glued_eq_join]
  exact StrLaws.join_length_le sep ys
theorem num_len : ∀ k : Fin 24, (toString (((k.val : Nat) : Int)) : Str).length ≤ 2 := by decide +kernel
theorem lc_strs (g : List D → Res D) (x : D) : ∀ ps : List D, (∀ p ∈ ps, ∃ s : Str, g [p] = .ok (.str s) ∧ s.length + 1 ≤ 4 * wt p) →
    ∃ ys : List Str, lcF (hSet 1) dYes (dCall g (dCons (dV 1) dNil)) [.fr x, .un] ps = some (ys.map .str) ∧ (ys.map (·.length)).sum + ys.length ≤ 4 * wtL ps
  | [], _ => ⟨[], rfl, by simp⟩
  | p :: ps, h => by
    obtain ⟨s, h1, h2⟩ := h p List.mem_cons_self
    obtain ⟨ys, i1, i2⟩ := lc_strs g x ps fun q hq => h q (List.mem_cons_of_mem _ hq)
    refine ⟨s :: ys, ?_, by simp only [List.map_cons, List.sum_cons, List.length_cons, wtL]; omega⟩
    unfold lcF
    have e : dCall g (dCons (dV 1) dNil) [Ent.fr x, Ent.fr p] = .ok (.str s) := by (simp only [PD.v_bind_ok, PD.v_bind_exc, PD.v_bind_stuck, PD.v_bindS_ok, PD.v_bindS_exc, PD.v_bindS_stuck, PD.v_of_some, PD.v_of_none, PD.v_seq_nx, PD.v_seq_rt, PD.v_seq_rn, PD.v_seq_bk, PD.v_seq_ct, PD.v_seq_exc, PD.v_seq_stuck, PD.v_ifS, PD.v_sel_t, PD.v_sel_f, PD.v_sel_exc, PD.v_sel_stuck, PD.v_if, PD.v_and, PD.v_or, PD.v_selR_t, PD.v_selR_f, PD.v_selR_exc, PD.v_selR_stuck, PD.v_not, PD.v_notR, PD.v_notR_exc, PD.v_test, PD.v_testR, PD.v_testR_exc, PD.v_andV, PD.v_orV, PD.v_selV_t, PD.v_selV_f, PD.v_notV, PD.v_notV', PD.v_chain, PD.v_chain_t, PD.v_chain_f, PD.v_add_i, PD.v_add_s, PD.v_add_l, PD.v_add_t, PD.v_cat, PD.v_sub, PD.v_mul, PD.v_div, PD.v_mod, PD.v_pow, PD.v_neg, PD.v_cmp, PD.v_eq_ii, PD.v_eq_bb, PD.v_eq_ss, PD.v_eq_nn, PD.v_ne_ii, PD.v_ne_bb, PD.v_ne_ss, PD.v_eq_ll, PD.v_eq_tt, PD.v_ne_ll, PD.v_ne_tt, PD.v_eq0, PD.v_in_t, PD.v_in_l, PD.v_flat_i, PD.v_flat_s, PD.v_flat_b, PD.v_flat_n, PD.v_isB, PD.v_isN_n, PD.v_isN_i, PD.v_isN_t, PD.v_isN_l, PD.v_isN_s, PD.v_ix_l, PD.v_ix_t, PD.v_ix_s, PD.v_slN, PD.v_slV_l, PD.v_slV_t, PD.v_slV_s, PD.v_len_l, PD.v_len_t, PD.v_len_s, PD.v_len_d, PD.v_list_l, PD.v_list_t, PD.v_tuple_l, PD.v_tuple_t, PD.v_sorted, PD.v_seqOf_l, PD.v_seqOf_t, PD.v_keyOf_i, PD.v_keyOf_s, PD.v_data_l, PD.v_data_d, PD.v_isi, PD.v_isi_int, PD.v_isi_bool, PD.v_isi_str, PD.v_isi_list, PD.v_isi_tuple, PD.i_int_i, PD.i_bool_i, PD.i_tuple_i, PD.i_tuple_t, PD.i_int_t, PD.i_list_l, PD.i_str_s, PD.i_bool_b, PD.v_hTup, PD.v_hCons, PD.v_hNil, PD.w_seq, PD.w_asg, PD.w_outO_s, PD.w_outO_n, PD.w_ret, PD.w_retN, PD.w_retV, PD.w_ret0, PD.w_V, PD.w_Vr, PD.w_C, PD.w_op, PD.w_un, PD.w_CB, PD.w_cons, PD.w_nil, PD.w_tup, PD.w_lst, PD.w_ob, PD.w_call, PD.w_new, PD.w_app, PD.w_ext, PD.w_pop, PD.w_popD, PD.w_putAt, PD.w_aug, PD.w_frz, PD.w_ahead, PD.w_forget, PD.w_forO_nx, PD.w_forO_bk, PD.w_forO_ct, PD.w_forO_rt, PD.w_forO_rn, PD.w_forO_exc, PD.w_drop, PD.w_next, PD.w_bk, PD.w_ct, PD.w_exc, PD.w_lc, PD.w_itL, PD.w_itl, PD.w_itT, PD.w_itt, PD.w_itV, PD.w_itv, PD.w_rng1, PD.w_rng1', PD.w_rng2, PD.w_rng2', PD.w_lrg1, PD.w_lrg1', PD.w_sl, PD.w_no, PD.w_part, PD.w_part', PD.w_newD, PD.w_putD, PD.w_inD, PD.w_getD, PD.w_maxD, PD.w_count, PD.w_for, PD.w_hSet, PD.w_appPop, PD.w_apD, forgetE, owL, putL, owD, putOD, frzE, initE, noPm, wipeE, sizeLine_eq, List.getElem?_cons_zero, List.getElem?_cons_succ, List.set_cons_zero, List.set_cons_succ, List.map_cons, List.map_nil, List.length_cons, List.length_nil, List.replicate, List.cons_append, List.nil_append, Option.bind_some, Option.bind_none, Option.map_some, Option.map_none, ite_true, ite_false, if_true, if_false, reduceCtorEq, Nat.reduceAdd, Nat.reduceSub, Nat.reduceLeDiff, Bool.and_true, Bool.true_and, Bool.and_false, Bool.false_and, Bool.or_true, Bool.true_or, Bool.or_false, Bool.false_or, Bool.not_true, Bool.not_false, decide_true, decide_false, Bool.false_eq_true, Int.reduceEq, Int.reduceBEq, Option.isSome_some, Option.isSome_none, List.all_cons, List.all_nil, and_self, and_true, true_and, h1])
    have e0 : hSet 1 p [Ent.fr x, Ent.un] = some [Ent.fr x, Ent.fr p] := rfl
    simp only [e0, dYes, e, i1, Option.map_some, List.map_cons]
theorem kind_len {a k : Str} {ps : List D} (h : kGood k a ps = true) : k.length = 1 := by
  unfold kGood at h
  have h1 := (Bool.and_eq_true_iff.mp (Bool.and_eq_true_iff.mp h).1).1
  rcases Bool.or_eq_true_iff.mp h1 with q | q <;> (rw [beq_iff_eq.mp q]; rfl)
mutual
theorem written_tr {a : Str} {d : D} {ms : List Int} : Tr a d ms → ∀ n : Nat, ms.length ≤ n → (∀ m ∈ ms, 0 ≤ m ∧ m < 24) → wt d ≤ 1000000 → ∃ s : Str, fr_written n [d] = .ok (.str s) ∧ s.length + 1 ≤ 4 * wt d
  | .num _ i, n, h, hm, hw => by
    obtain ⟨n, rfl⟩ : ∃ m, n = m + 1 := ⟨n - 1, by simp only [List.length_cons, List.length_nil] at h; omega⟩
    have hi := hm i List.mem_cons_self
    have hr : inR 1000000 1000000 i = true := inR_iff.mpr (by omega)
    refine ⟨toString i, ?_, ?_⟩
    · unfold fr_written funT F_written
      simp only [PD.v_bind_ok, PD.v_bind_exc, PD.v_bind_stuck, PD.v_bindS_ok, PD.v_bindS_exc, PD.v_bindS_stuck, PD.v_of_some, PD.v_of_none, PD.v_seq_nx, PD.v_seq_rt, PD.v_seq_rn, PD.v_seq_bk, PD.v_seq_ct, PD.v_seq_exc, PD.v_seq_stuck, PD.v_ifS, PD.v_sel_t, PD.v_sel_f, PD.v_sel_exc, PD.v_sel_stuck, PD.v_if, PD.v_and, PD.v_or, PD.v_selR_t, PD.v_selR_f, PD.v_selR_exc, PD.v_selR_stuck, PD.v_not, PD.v_notR, PD.v_notR_exc, PD.v_test, PD.v_testR, PD.v_testR_exc, PD.v_andV, PD.v_orV, PD.v_selV_t, PD.v_selV_f, PD.v_notV, PD.v_notV', PD.v_chain, PD.v_chain_t, PD.v_chain_f, PD.v_add_i, PD.v_add_s, PD.v_add_l, PD.v_add_t, PD.v_cat, PD.v_sub, PD.v_mul, PD.v_div, PD.v_mod, PD.v_pow, PD.v_neg, PD.v_cmp, PD.v_eq_ii, PD.v_eq_bb, PD.v_eq_ss, PD.v_eq_nn, PD.v_ne_ii, PD.v_ne_bb, PD.v_ne_ss, PD.v_eq_ll, PD.v_eq_tt, PD.v_ne_ll, PD.v_ne_tt, PD.v_eq0, PD.v_in_t, PD.v_in_l, PD.v_flat_i, PD.v_flat_s, PD.v_flat_b, PD.v_flat_n, PD.v_isB, PD.v_isN_n, PD.v_isN_i, PD.v_isN_t, PD.v_isN_l, PD.v_isN_s, PD.v_ix_l, PD.v_ix_t, PD.v_ix_s, PD.v_slN, PD.v_slV_l, PD.v_slV_t, PD.v_slV_s, PD.v_len_l, PD.v_len_t, PD.v_len_s, PD.v_len_d, PD.v_list_l, PD.v_list_t, PD.v_tuple_l, PD.v_tuple_t, PD.v_sorted, PD.v_seqOf_l, PD.v_seqOf_t, PD.v_keyOf_i, PD.v_keyOf_s, PD.v_data_l, PD.v_data_d, PD.v_isi, PD.v_isi_int, PD.v_isi_bool, PD.v_isi_str, PD.v_isi_list, PD.v_isi_tuple, PD.i_int_i, PD.i_bool_i, PD.i_tuple_i, PD.i_tuple_t, PD.i_int_t, PD.i_list_l, PD.i_str_s, PD.i_bool_b, PD.v_hTup, PD.v_hCons, PD.v_hNil, PD.w_seq, PD.w_asg, PD.w_outO_s, PD.w_outO_n, PD.w_ret, PD.w_retN, PD.w_retV, PD.w_ret0, PD.w_V, PD.w_Vr, PD.w_C, PD.w_op, PD.w_un, PD.w_CB, PD.w_cons, PD.w_nil, PD.w_tup, PD.w_lst, PD.w_ob, PD.w_call, PD.w_new, PD.w_app, PD.w_ext, PD.w_pop, PD.w_popD, PD.w_putAt, PD.w_aug, PD.w_frz, PD.w_ahead, PD.w_forget, PD.w_forO_nx, PD.w_forO_bk, PD.w_forO_ct, PD.w_forO_rt, PD.w_forO_rn, PD.w_forO_exc, PD.w_drop, PD.w_next, PD.w_bk, PD.w_ct, PD.w_exc, PD.w_lc, PD.w_itL, PD.w_itl, PD.w_itT, PD.w_itt, PD.w_itV, PD.w_itv, PD.w_rng1, PD.w_rng1', PD.w_rng2, PD.w_rng2', PD.w_lrg1, PD.w_lrg1', PD.w_sl, PD.w_no, PD.w_part, PD.w_part', PD.w_newD, PD.w_putD, PD.w_inD, PD.w_getD, PD.w_maxD, PD.w_count, PD.w_for, PD.w_hSet, PD.w_appPop, PD.w_apD, forgetE, owL, putL, owD, putOD, frzE, initE, noPm, wipeE, sizeLine_eq, List.getElem?_cons_zero, List.getElem?_cons_succ, List.set_cons_zero, List.set_cons_succ, List.map_cons, List.map_nil, List.length_cons, List.length_nil, List.replicate, List.cons_append, List.nil_append, Option.bind_some, Option.bind_none, Option.map_some, Option.map_none, ite_true, ite_false, if_true, if_false, reduceCtorEq, Nat.reduceAdd, Nat.reduceSub, Nat.reduceLeDiff, Bool.and_true, Bool.true_and, Bool.and_false, Bool.false_and, Bool.or_true, Bool.true_or, Bool.or_false, Bool.false_or, Bool.not_true, Bool.not_false, decide_true, decide_false, Bool.false_eq_true, Int.reduceEq, Int.reduceBEq, Option.isSome_some, Option.isSome_none, List.all_cons, List.all_nil, and_self, and_true, true_and, ev_is_whole, isW, dStr1, hr]
    · have := num_len ⟨i.toNat, by omega⟩
      simp only [Int.toNat_of_nonneg hi.1] at this
      simp only [wt]; omega
  | .box a k ps ms hg hl, n, h, hm, hw => by
    have h2 : 2 ≤ ps.length := by
      unfold kGood at hg
      exact of_decide_eq_true (Bool.and_eq_true_iff.mp hg).2
    have hp := trL_pos hl
    rw [wt_knot] at hw
    obtain ⟨n, rfl⟩ : ∃ m, n = m + 1 := ⟨n - 1, by omega⟩
    obtain ⟨ys, e, y2⟩ := lc_strs (fr_written n) (.tuple [.str k, .tuple ps]) ps (written_trL hl n (by omega) hm (by omega))
    have hj := txt_join_len " " ys
    have hsp : (" " : Str).length = 1 := rfl
    have hk := kind_len hg
    have hb : Nat.ble ((ys.map (·.length)).sum + ys.length * (" " : Str).length) 16777216 = true := Nat.ble_eq.mpr (by rw [hsp]; omega)
    rw [hsp] at hj
    have e1 : ("(" : Str).length = 1 := rfl
    have e2 : (")" : Str).length = 1 := rfl
    have z1 : ("(" : Str).length + k.length ≤ 16777216 := by omega
    have z2 : (("(" : Str) ++ k).length + (Txt.join " " ys).length ≤ 16777216 := by rw [Str.length_append]; omega
    have z3 : (("(" : Str) ++ k ++ Txt.join " " ys).length + (")" : Str).length ≤ 16777216 := by rw [Str.length_append, Str.length_append]; omega
    refine ⟨("(" : Str) ++ k ++ Txt.join " " ys ++ (")" : Str), ?_, ?_⟩
    · unfold fr_written funT F_written
      simp only [PD.v_bind_ok, PD.v_bind_exc, PD.v_bind_stuck, PD.v_bindS_ok, PD.v_bindS_exc, PD.v_bindS_stuck, PD.v_of_some, PD.v_of_none, PD.v_seq_nx, PD.v_seq_rt, PD.v_seq_rn, PD.v_seq_bk, PD.v_seq_ct, PD.v_seq_exc, PD.v_seq_stuck, PD.v_ifS, PD.v_sel_t, PD.v_sel_f, PD.v_sel_exc, PD.v_sel_stuck, PD.v_if, PD.v_and, PD.v_or, PD.v_selR_t, PD.v_selR_f, PD.v_selR_exc, PD.v_selR_stuck, PD.v_not, PD.v_notR, PD.v_notR_exc, PD.v_test, PD.v_testR, PD.v_testR_exc, PD.v_andV, PD.v_orV, PD.v_selV_t, PD.v_selV_f, PD.v_notV, PD.v_notV', PD.v_chain, PD.v_chain_t, PD.v_chain_f, PD.v_add_i, PD.v_add_s, PD.v_add_l, PD.v_add_t, PD.v_cat, PD.v_sub, PD.v_mul, PD.v_div, PD.v_mod, PD.v_pow, PD.v_neg, PD.v_cmp, PD.v_eq_ii, PD.v_eq_bb, PD.v_eq_ss, PD.v_eq_nn, PD.v_ne_ii, PD.v_ne_bb, PD.v_ne_ss, PD.v_eq_ll, PD.v_eq_tt, PD.v_ne_ll, PD.v_ne_tt, PD.v_eq0, PD.v_in_t, PD.v_in_l, PD.v_flat_i, PD.v_flat_s, PD.v_flat_b, PD.v_flat_n, PD.v_isB, PD.v_isN_n, PD.v_isN_i, PD.v_isN_t, PD.v_isN_l, PD.v_isN_s, PD.v_ix_l, PD.v_ix_t, PD.v_ix_s, PD.v_slN, PD.v_slV_l, PD.v_slV_t, PD.v_slV_s, PD.v_len_l, PD.v_len_t, PD.v_len_s, PD.v_len_d, PD.v_list_l, PD.v_list_t, PD.v_tuple_l, PD.v_tuple_t, PD.v_sorted, PD.v_seqOf_l, PD.v_seqOf_t, PD.v_keyOf_i, PD.v_keyOf_s, PD.v_data_l, PD.v_data_d, PD.v_isi, PD.v_isi_int, PD.v_isi_bool, PD.v_isi_str, PD.v_isi_list, PD.v_isi_tuple, PD.i_int_i, PD.i_bool_i, PD.i_tuple_i, PD.i_tuple_t, PD.i_int_t, PD.i_list_l, PD.i_str_s, PD.i_bool_b, PD.v_hTup, PD.v_hCons, PD.v_hNil, PD.w_seq, PD.w_asg, PD.w_outO_s, PD.w_outO_n, PD.w_ret, PD.w_retN, PD.w_retV, PD.w_ret0, PD.w_V, PD.w_Vr, PD.w_C, PD.w_op, PD.w_un, PD.w_CB, PD.w_cons, PD.w_nil, PD.w_tup, PD.w_lst, PD.w_ob, PD.w_call, PD.w_new, PD.w_app, PD.w_ext, PD.w_pop, PD.w_popD, PD.w_putAt, PD.w_aug, PD.w_frz, PD.w_ahead, PD.w_forget, PD.w_forO_nx, PD.w_forO_bk, PD.w_forO_ct, PD.w_forO_rt, PD.w_forO_rn, PD.w_forO_exc, PD.w_drop, PD.w_next, PD.w_bk, PD.w_ct, PD.w_exc, PD.w_lc, PD.w_itL, PD.w_itl, PD.w_itT, PD.w_itt, PD.w_itV, PD.w_itv, PD.w_rng1, PD.w_rng1', PD.w_rng2, PD.w_rng2', PD.w_lrg1, PD.w_lrg1', PD.w_sl, PD.w_no, PD.w_part, PD.w_part', PD.w_newD, PD.w_putD, PD.w_inD, PD.w_getD, PD.w_maxD, PD.w_count, PD.w_for, PD.w_hSet, PD.w_appPop, PD.w_apD, forgetE, owL, putL, owD, putOD, frzE, initE, noPm, wipeE, sizeLine_eq, List.getElem?_cons_zero, List.getElem?_cons_succ, List.set_cons_zero, List.set_cons_succ, List.map_cons, List.map_nil, List.length_cons, List.length_nil, List.replicate, List.cons_append, List.nil_append, Option.bind_some, Option.bind_none, Option.map_some, Option.map_none, ite_true, ite_false, if_true, if_false, reduceCtorEq, Nat.reduceAdd, Nat.reduceSub, Nat.reduceLeDiff, Bool.and_true, Bool.true_and, Bool.and_false, Bool.false_and, Bool.or_true, Bool.true_or, Bool.or_false, Bool.false_or, Bool.not_true, Bool.not_false, decide_true, decide_false, Bool.false_eq_true, Int.reduceEq, Int.reduceBEq, Option.isSome_some, Option.isSome_none, List.all_cons, List.all_nil, and_self, and_true, true_and, ev_is_whole, isW, atI_0, atI_1, wipeE, noPm, e, dJoin, joinD, strsOf_map, hb, z1, z2, z3]
    · rw [Str.length_append, Str.length_append, Str.length_append, wt_knot]
      omega
theorem written_trL {k : Str} {ps : List D} {ms : List Int} : TrL k ps ms → ∀ n : Nat, ms.length + 1 ≤ n + ps.length → (∀ m ∈ ms, 0 ≤ m ∧ m < 24) → wtL ps ≤ 1000000 → ∀ p ∈ ps, ∃ s : Str, fr_written n [p] = .ok (.str s) ∧ s.length + 1 ≤ 4 * wt p
  | .nil _, n, h, _, _, p, hp => by cases hp
  | .cons k q ps m ms hq hl, n, h, hm, hw, p, hp => by
    have h1 := tr_pos hq
    have h2 := trL_pos hl
    simp only [List.length_cons, List.length_append] at h
    simp only [wtL] at hw
    rcases List.mem_cons.mp hp with e | hp
    · rw [e]; exact written_tr hq n (by omega) (fun x hx => hm x (List.mem_append.mpr (.inr hx))) (by omega)
    · exact written_trL hl n (by omega) (fun x hx => hm x (List.mem_append.mpr (.inl hx))) (by omega) p hp
end
/-! the law's questions -/
theorem ev_boxes (d : D) (hw : wt d ≤ 1000000) (h : f_is_tree [d] = .ok (.bool true)) : f_boxes_of [d] = .ok (.int ((lv d : Nat) : Int)) := by
  obtain ⟨ms, t, l, m⟩ := tr_of d (by omega) h
  have hn := ev_need d true h
  rw [if_pos rfl] at hn
  have hc : f_count_boxes [d] = .ok (.int ((lv d : Nat) : Int)) := count_tr t 30 (by omega)
  unfold f_boxes_of funT F_boxes_of
  simp only [PD.v_bind_ok, PD.v_bind_exc, PD.v_bind_stuck, PD.v_bindS_ok, PD.v_bindS_exc, PD.v_bindS_stuck, PD.v_of_some, PD.v_of_none, PD.v_seq_nx, PD.v_seq_rt, PD.v_seq_rn, PD.v_seq_bk, PD.v_seq_ct, PD.v_seq_exc, PD.v_seq_stuck, PD.v_ifS, PD.v_sel_t, PD.v_sel_f, PD.v_sel_exc, PD.v_sel_stuck, PD.v_if, PD.v_and, PD.v_or, PD.v_selR_t, PD.v_selR_f, PD.v_selR_exc, PD.v_selR_stuck, PD.v_not, PD.v_notR, PD.v_notR_exc, PD.v_test, PD.v_testR, PD.v_testR_exc, PD.v_andV, PD.v_orV, PD.v_selV_t, PD.v_selV_f, PD.v_notV, PD.v_notV', PD.v_chain, PD.v_chain_t, PD.v_chain_f, PD.v_add_i, PD.v_add_s, PD.v_add_l, PD.v_add_t, PD.v_cat, PD.v_sub, PD.v_mul, PD.v_div, PD.v_mod, PD.v_pow, PD.v_neg, PD.v_cmp, PD.v_eq_ii, PD.v_eq_bb, PD.v_eq_ss, PD.v_eq_nn, PD.v_ne_ii, PD.v_ne_bb, PD.v_ne_ss, PD.v_eq_ll, PD.v_eq_tt, PD.v_ne_ll, PD.v_ne_tt, PD.v_eq0, PD.v_in_t, PD.v_in_l, PD.v_flat_i, PD.v_flat_s, PD.v_flat_b, PD.v_flat_n, PD.v_isB, PD.v_isN_n, PD.v_isN_i, PD.v_isN_t, PD.v_isN_l, PD.v_isN_s, PD.v_ix_l, PD.v_ix_t, PD.v_ix_s, PD.v_slN, PD.v_slV_l, PD.v_slV_t, PD.v_slV_s, PD.v_len_l, PD.v_len_t, PD.v_len_s, PD.v_len_d, PD.v_list_l, PD.v_list_t, PD.v_tuple_l, PD.v_tuple_t, PD.v_sorted, PD.v_seqOf_l, PD.v_seqOf_t, PD.v_keyOf_i, PD.v_keyOf_s, PD.v_data_l, PD.v_data_d, PD.v_isi, PD.v_isi_int, PD.v_isi_bool, PD.v_isi_str, PD.v_isi_list, PD.v_isi_tuple, PD.i_int_i, PD.i_bool_i, PD.i_tuple_i, PD.i_tuple_t, PD.i_int_t, PD.i_list_l, PD.i_str_s, PD.i_bool_b, PD.v_hTup, PD.v_hCons, PD.v_hNil, PD.w_seq, PD.w_asg, PD.w_outO_s, PD.w_outO_n, PD.w_ret, PD.w_retN, PD.w_retV, PD.w_ret0, PD.w_V, PD.w_Vr, PD.w_C, PD.w_op, PD.w_un, PD.w_CB, PD.w_cons, PD.w_nil, PD.w_tup, PD.w_lst, PD.w_ob, PD.w_call, PD.w_new, PD.w_app, PD.w_ext, PD.w_pop, PD.w_popD, PD.w_putAt, PD.w_aug, PD.w_frz, PD.w_ahead, PD.w_forget, PD.w_forO_nx, PD.w_forO_bk, PD.w_forO_ct, PD.w_forO_rt, PD.w_forO_rn, PD.w_forO_exc, PD.w_drop, PD.w_next, PD.w_bk, PD.w_ct, PD.w_exc, PD.w_lc, PD.w_itL, PD.w_itl, PD.w_itT, PD.w_itt, PD.w_itV, PD.w_itv, PD.w_rng1, PD.w_rng1', PD.w_rng2, PD.w_rng2', PD.w_lrg1, PD.w_lrg1', PD.w_sl, PD.w_no, PD.w_part, PD.w_part', PD.w_newD, PD.w_putD, PD.w_inD, PD.w_getD, PD.w_maxD, PD.w_count, PD.w_for, PD.w_hSet, PD.w_appPop, PD.w_apD, forgetE, owL, putL, owD, putOD, frzE, initE, noPm, wipeE, sizeLine_eq, List.getElem?_cons_zero, List.getElem?_cons_succ, List.set_cons_zero, List.set_cons_succ, List.map_cons, List.map_nil, List.length_cons, List.length_nil, List.replicate, List.cons_append, List.nil_append, Option.bind_some, Option.bind_none, Option.map_some, Option.map_none, ite_true, ite_false, if_true, if_false, reduceCtorEq, Nat.reduceAdd, Nat.reduceSub, Nat.reduceLeDiff, Bool.and_true, Bool.true_and, Bool.and_false, Bool.false_and, Bool.or_true, Bool.true_or, Bool.or_false, Bool.false_or, Bool.not_true, Bool.not_false, decide_true, decide_false, Bool.false_eq_true, Int.reduceEq, Int.reduceBEq, Option.isSome_some, Option.isSome_none, List.all_cons, List.all_nil, and_self, and_true, true_and, hn, hc]
theorem ev_show (d : D) (hw : wt d ≤ 1000000) (h : f_is_tree [d] = .ok (.bool true)) : ∃ s, f_show_tree [d] = .ok (.str s) := by
  obtain ⟨ms, t, l, m⟩ := tr_of d (by omega) h
  have hn := ev_need d true h
  rw [if_pos rfl] at hn
  obtain ⟨s, hs, _⟩ := written_tr t 30 (by omega) m hw
  have hc : f_written [d] = .ok (.str s) := hs
  refine ⟨s, ?_⟩
  unfold f_show_tree funT F_show_tree
  simp only [PD.v_bind_ok, PD.v_bind_exc, PD.v_bind_stuck, PD.v_bindS_ok, PD.v_bindS_exc, PD.v_bindS_stuck, PD.v_of_some, PD.v_of_none, PD.v_seq_nx, PD.v_seq_rt, PD.v_seq_rn, PD.v_seq_bk, PD.v_seq_ct, PD.v_seq_exc, PD.v_seq_stuck, PD.v_ifS, PD.v_sel_t, PD.v_sel_f, PD.v_sel_exc, PD.v_sel_stuck, PD.v_if, PD.v_and, PD.v_or, PD.v_selR_t, PD.v_selR_f, PD.v_selR_exc, PD.v_selR_stuck, PD.v_not, PD.v_notR, PD.v_notR_exc, PD.v_test, PD.v_testR, PD.v_testR_exc, PD.v_andV, PD.v_orV, PD.v_selV_t, PD.v_selV_f, PD.v_notV, PD.v_notV', PD.v_chain, PD.v_chain_t, PD.v_chain_f, PD.v_add_i, PD.v_add_s, PD.v_add_l, PD.v_add_t, PD.v_cat, PD.v_sub, PD.v_mul, PD.v_div, PD.v_mod, PD.v_pow, PD.v_neg, PD.v_cmp, PD.v_eq_ii, PD.v_eq_bb, PD.v_eq_ss, PD.v_eq_nn, PD.v_ne_ii, PD.v_ne_bb, PD.v_ne_ss, PD.v_eq_ll, PD.v_eq_tt, PD.v_ne_ll, PD.v_ne_tt, PD.v_eq0, PD.v_in_t, PD.v_in_l, PD.v_flat_i, PD.v_flat_s, PD.v_flat_b, PD.v_flat_n, PD.v_isB, PD.v_isN_n, PD.v_isN_i, PD.v_isN_t, PD.v_isN_l, PD.v_isN_s, PD.v_ix_l, PD.v_ix_t, PD.v_ix_s, PD.v_slN, PD.v_slV_l, PD.v_slV_t, PD.v_slV_s, PD.v_len_l, PD.v_len_t, PD.v_len_s, PD.v_len_d, PD.v_list_l, PD.v_list_t, PD.v_tuple_l, PD.v_tuple_t, PD.v_sorted, PD.v_seqOf_l, PD.v_seqOf_t, PD.v_keyOf_i, PD.v_keyOf_s, PD.v_data_l, PD.v_data_d, PD.v_isi, PD.v_isi_int, PD.v_isi_bool, PD.v_isi_str, PD.v_isi_list, PD.v_isi_tuple, PD.i_int_i, PD.i_bool_i, PD.i_tuple_i, PD.i_tuple_t, PD.i_int_t, PD.i_list_l, PD.i_str_s, PD.i_bool_b, PD.v_hTup, PD.v_hCons, PD.v_hNil, PD.w_seq, PD.w_asg, PD.w_outO_s, PD.w_outO_n, PD.w_ret, PD.w_retN, PD.w_retV, PD.w_ret0, PD.w_V, PD.w_Vr, PD.w_C, PD.w_op, PD.w_un, PD.w_CB, PD.w_cons, PD.w_nil, PD.w_tup, PD.w_lst, PD.w_ob, PD.w_call, PD.w_new, PD.w_app, PD.w_ext, PD.w_pop, PD.w_popD, PD.w_putAt, PD.w_aug, PD.w_frz, PD.w_ahead, PD.w_forget, PD.w_forO_nx, PD.w_forO_bk, PD.w_forO_ct, PD.w_forO_rt, PD.w_forO_rn, PD.w_forO_exc, PD.w_drop, PD.w_next, PD.w_bk, PD.w_ct, PD.w_exc, PD.w_lc, PD.w_itL, PD.w_itl, PD.w_itT, PD.w_itt, PD.w_itV, PD.w_itv, PD.w_rng1, PD.w_rng1', PD.w_rng2, PD.w_rng2', PD.w_lrg1, PD.w_lrg1', PD.w_sl, PD.w_no, PD.w_part, PD.w_part', PD.w_newD, PD.w_putD, PD.w_inD, PD.w_getD, PD.w_maxD, PD.w_count, PD.w_for, PD.w_hSet, PD.w_appPop, PD.w_apD, forgetE, owL, putL, owD, putOD, frzE, initE, noPm, wipeE, sizeLine_eq, List.getElem?_cons_zero, List.getElem?_cons_succ, List.set_cons_zero, List.set_cons_succ, List.map_cons, List.map_nil, List.length_cons, List.length_nil, List.replicate, List.cons_append, List.nil_append, Option.bind_some, Option.bind_none, Option.map_some, Option.map_none, ite_true, ite_false, if_true, if_false, reduceCtorEq, Nat.reduceAdd, Nat.reduceSub, Nat.reduceLeDiff, Bool.and_true, Bool.true_and, Bool.and_false, Bool.false_and, Bool.or_true, Bool.true_or, Bool.or_false, Bool.false_or, Bool.not_true, Bool.not_false, decide_true, decide_false, Bool.false_eq_true, Int.reduceEq, Int.reduceBEq, Option.isSome_some, Option.isSome_none, List.all_cons, List.all_nil, and_self, and_true, true_and, hn, hc]
theorem ev_boxes_no (d : D) (h : f_is_tree [d] = .ok (.bool false)) : f_boxes_of [d] = .exc "NoTree" := by
  have hn := ev_need d false h
  rw [if_neg (by decide)] at hn
  unfold f_boxes_of funT F_boxes_of
  simp only [PD.v_bind_ok, PD.v_bind_exc, PD.v_bind_stuck, PD.v_bindS_ok, PD.v_bindS_exc, PD.v_bindS_stuck, PD.v_of_some, PD.v_of_none, PD.v_seq_nx, PD.v_seq_rt, PD.v_seq_rn, PD.v_seq_bk, PD.v_seq_ct, PD.v_seq_exc, PD.v_seq_stuck, PD.v_ifS, PD.v_sel_t, PD.v_sel_f, PD.v_sel_exc, PD.v_sel_stuck, PD.v_if, PD.v_and, PD.v_or, PD.v_selR_t, PD.v_selR_f, PD.v_selR_exc, PD.v_selR_stuck, PD.v_not, PD.v_notR, PD.v_notR_exc, PD.v_test, PD.v_testR, PD.v_testR_exc, PD.v_andV, PD.v_orV, PD.v_selV_t, PD.v_selV_f, PD.v_notV, PD.v_notV', PD.v_chain, PD.v_chain_t, PD.v_chain_f, PD.v_add_i, PD.v_add_s, PD.v_add_l, PD.v_add_t, PD.v_cat, PD.v_sub, PD.v_mul, PD.v_div, PD.v_mod, PD.v_pow, PD.v_neg, PD.v_cmp, PD.v_eq_ii, PD.v_eq_bb, PD.v_eq_ss, PD.v_eq_nn, PD.v_ne_ii, PD.v_ne_bb, PD.v_ne_ss, PD.v_eq_ll, PD.v_eq_tt, PD.v_ne_ll, PD.v_ne_tt, PD.v_eq0, PD.v_in_t, PD.v_in_l, PD.v_flat_i, PD.v_flat_s, PD.v_flat_b, PD.v_flat_n, PD.v_isB, PD.v_isN_n, PD.v_isN_i, PD.v_isN_t, PD.v_isN_l, PD.v_isN_s, PD.v_ix_l, PD.v_ix_t, PD.v_ix_s, PD.v_slN, PD.v_slV_l, PD.v_slV_t, PD.v_slV_s, PD.v_len_l, PD.v_len_t, PD.v_len_s, PD.v_len_d, PD.v_list_l, PD.v_list_t, PD.v_tuple_l, PD.v_tuple_t, PD.v_sorted, PD.v_seqOf_l, PD.v_seqOf_t, PD.v_keyOf_i, PD.v_keyOf_s, PD.v_data_l, PD.v_data_d, PD.v_isi, PD.v_isi_int, PD.v_isi_bool, PD.v_isi_str, PD.v_isi_list, PD.v_isi_tuple, PD.i_int_i, PD.i_bool_i, PD.i_tuple_i, PD.i_tuple_t, PD.i_int_t, PD.i_list_l, PD.i_str_s, PD.i_bool_b, PD.v_hTup, PD.v_hCons, PD.v_hNil, PD.w_seq, PD.w_asg, PD.w_outO_s, PD.w_outO_n, PD.w_ret, PD.w_retN, PD.w_retV, PD.w_ret0, PD.w_V, PD.w_Vr, PD.w_C, PD.w_op, PD.w_un, PD.w_CB, PD.w_cons, PD.w_nil, PD.w_tup, PD.w_lst, PD.w_ob, PD.w_call, PD.w_new, PD.w_app, PD.w_ext, PD.w_pop, PD.w_popD, PD.w_putAt, PD.w_aug, PD.w_frz, PD.w_ahead, PD.w_forget, PD.w_forO_nx, PD.w_forO_bk, PD.w_forO_ct, PD.w_forO_rt, PD.w_forO_rn, PD.w_forO_exc, PD.w_drop, PD.w_next, PD.w_bk, PD.w_ct, PD.w_exc, PD.w_lc, PD.w_itL, PD.w_itl, PD.w_itT, PD.w_itt, PD.w_itV, PD.w_itv, PD.w_rng1, PD.w_rng1', PD.w_rng2, PD.w_rng2', PD.w_lrg1, PD.w_lrg1', PD.w_sl, PD.w_no, PD.w_part, PD.w_part', PD.w_newD, PD.w_putD, PD.w_inD, PD.w_getD, PD.w_maxD, PD.w_count, PD.w_for, PD.w_hSet, PD.w_appPop, PD.w_apD, forgetE, owL, putL, owD, putOD, frzE, initE, noPm, wipeE, sizeLine_eq, List.getElem?_cons_zero, List.getElem?_cons_succ, List.set_cons_zero, List.set_cons_succ, List.map_cons, List.map_nil, List.length_cons, List.length_nil, List.replicate, List.cons_append, List.nil_append, Option.bind_some, Option.bind_none, Option.map_some, Option.map_none, ite_true, ite_false, if_true, if_false, reduceCtorEq, Nat.reduceAdd, Nat.reduceSub, Nat.reduceLeDiff, Bool.and_true, Bool.true_and, Bool.and_false, Bool.false_and, Bool.or_true, Bool.true_or, Bool.or_false, Bool.false_or, Bool.not_true, Bool.not_false, decide_true, decide_false, Bool.false_eq_true, Int.reduceEq, Int.reduceBEq, Option.isSome_some, Option.isSome_none, List.all_cons, List.all_nil, and_self, and_true, true_and, hn]
theorem ev_show_no (d : D) (h : f_is_tree [d] = .ok (.bool false)) : f_show_tree [d] = .exc "NoTree" := by
  have hn := ev_need d false h
  rw [if_neg (by decide)] at hn
  unfold f_show_tree funT F_show_tree
  simp only [PD.v_bind_ok, PD.v_bind_exc, PD.v_bind_stuck, PD.v_bindS_ok, PD.v_bindS_exc, PD.v_bindS_stuck, PD.v_of_some, PD.v_of_none, PD.v_seq_nx, PD.v_seq_rt, PD.v_seq_rn, PD.v_seq_bk, PD.v_seq_ct, PD.v_seq_exc, PD.v_seq_stuck, PD.v_ifS, PD.v_sel_t, PD.v_sel_f, PD.v_sel_exc, PD.v_sel_stuck, PD.v_if, PD.v_and, PD.v_or, PD.v_selR_t, PD.v_selR_f, PD.v_selR_exc, PD.v_selR_stuck, PD.v_not, PD.v_notR, PD.v_notR_exc, PD.v_test, PD.v_testR, PD.v_testR_exc, PD.v_andV, PD.v_orV, PD.v_selV_t, PD.v_selV_f, PD.v_notV, PD.v_notV', PD.v_chain, PD.v_chain_t, PD.v_chain_f, PD.v_add_i, PD.v_add_s, PD.v_add_l, PD.v_add_t, PD.v_cat, PD.v_sub, PD.v_mul, PD.v_div, PD.v_mod, PD.v_pow, PD.v_neg, PD.v_cmp, PD.v_eq_ii, PD.v_eq_bb, PD.v_eq_ss, PD.v_eq_nn, PD.v_ne_ii, PD.v_ne_bb, PD.v_ne_ss, PD.v_eq_ll, PD.v_eq_tt, PD.v_ne_ll, PD.v_ne_tt, PD.v_eq0, PD.v_in_t, PD.v_in_l, PD.v_flat_i, PD.v_flat_s, PD.v_flat_b, PD.v_flat_n, PD.v_isB, PD.v_isN_n, PD.v_isN_i, PD.v_isN_t, PD.v_isN_l, PD.v_isN_s, PD.v_ix_l, PD.v_ix_t, PD.v_ix_s, PD.v_slN, PD.v_slV_l, PD.v_slV_t, PD.v_slV_s, PD.v_len_l, PD.v_len_t, PD.v_len_s, PD.v_len_d, PD.v_list_l, PD.v_list_t, PD.v_tuple_l, PD.v_tuple_t, PD.v_sorted, PD.v_seqOf_l, PD.v_seqOf_t, PD.v_keyOf_i, PD.v_keyOf_s, PD.v_data_l, PD.v_data_d, PD.v_isi, PD.v_isi_int, PD.v_isi_bool, PD.v_isi_str, PD.v_isi_list, PD.v_isi_tuple, PD.i_int_i, PD.i_bool_i, PD.i_tuple_i, PD.i_tuple_t, PD.i_int_t, PD.i_list_l, PD.i_str_s, PD.i_bool_b, PD.v_hTup, PD.v_hCons, PD.v_hNil, PD.w_seq, PD.w_asg, PD.w_outO_s, PD.w_outO_n, PD.w_ret, PD.w_retN, PD.w_retV, PD.w_ret0, PD.w_V, PD.w_Vr, PD.w_C, PD.w_op, PD.w_un, PD.w_CB, PD.w_cons, PD.w_nil, PD.w_tup, PD.w_lst, PD.w_ob, PD.w_call, PD.w_new, PD.w_app, PD.w_ext, PD.w_pop, PD.w_popD, PD.w_putAt, PD.w_aug, PD.w_frz, PD.w_ahead, PD.w_forget, PD.w_forO_nx, PD.w_forO_bk, PD.w_forO_ct, PD.w_forO_rt, PD.w_forO_rn, PD.w_forO_exc, PD.w_drop, PD.w_next, PD.w_bk, PD.w_ct, PD.w_exc, PD.w_lc, PD.w_itL, PD.w_itl, PD.w_itT, PD.w_itt, PD.w_itV, PD.w_itv, PD.w_rng1, PD.w_rng1', PD.w_rng2, PD.w_rng2', PD.w_lrg1, PD.w_lrg1', PD.w_sl, PD.w_no, PD.w_part, PD.w_part', PD.w_newD, PD.w_putD, PD.w_inD, PD.w_getD, PD.w_maxD, PD.w_count, PD.w_for, PD.w_hSet, PD.w_appPop, PD.w_apD, forgetE, owL, putL, owD, putOD, frzE, initE, noPm, wipeE, sizeLine_eq, List.getElem?_cons_zero, List.getElem?_cons_succ, List.set_cons_zero, List.set_cons_succ, List.map_cons, List.map_nil, List.length_cons, List.length_nil, List.replicate, List.cons_append, List.nil_append, Option.bind_some, Option.bind_none, Option.map_some, Option.map_none, ite_true, ite_false, if_true, if_false, reduceCtorEq, Nat.reduceAdd, Nat.reduceSub, Nat.reduceLeDiff, Bool.and_true, Bool.true_and, Bool.and_false, Bool.false_and, Bool.or_true, Bool.true_or, Bool.or_false, Bool.false_or, Bool.not_true, Bool.not_false, decide_true, decide_false, Bool.false_eq_true, Int.reduceEq, Int.reduceBEq, Option.isSome_some, Option.isSome_none, List.all_cons, List.all_nil, and_self, and_true, true_and, hn]
theorem w_isX {i : Nat} {a : Addr} {b : Bool} {ρ : PD.Env} : dIsX i a b ρ = match ρ[i]? with
  | some (.xc a') => if a' = a then .ok (.bool b) else .stuck
  | _ => .stuck := rfl
theorem ev_refused (d : D) (way : Int) (h : f_is_tree [d] = .ok (.bool false)) : f__law_refused [d, .int way] = .ok (.bool true) := by
  have hb := ev_boxes_no d h
  have hs := ev_show_no d h
  have ht : ∀ (fh : Str → Addr → PD.Env → Out) (o : Out), (∀ a, goneO 3 (fh "NoTree" a [.fr d, .fr (.int way), .fr (.bool false), .xc a]) = o) →
      dTry SC 3 (dIfE (dTest (dOp dEq (dVr 1) (dC (.int 0)))) (dCallE f_boxes_of (dCons (dV 0) dNil)) (dCallE f_show_tree (dCons (dV 0) dNil))) fh [.fr d, .fr (.int way), .fr (.bool false), .un] = o := fun fh o hfh => by
    refine dTry_exc (c := "NoTree") ?_ rfl (by intro o e; cases e) hfh
    have e0 : dTest (dOp dEq (dVr 1) (dC (.int 0))) [.fr d, .fr (.int way), .fr (.bool false), .un] = .ok (way == 0) := by (simp only [PD.v_bind_ok, PD.v_bind_exc, PD.v_bind_stuck, PD.v_bindS_ok, PD.v_bindS_exc, PD.v_bindS_stuck, PD.v_of_some, PD.v_of_none, PD.v_seq_nx, PD.v_seq_rt, PD.v_seq_rn, PD.v_seq_bk, PD.v_seq_ct, PD.v_seq_exc, PD.v_seq_stuck, PD.v_ifS, PD.v_sel_t, PD.v_sel_f, PD.v_sel_exc, PD.v_sel_stuck, PD.v_if, PD.v_and, PD.v_or, PD.v_selR_t, PD.v_selR_f, PD.v_selR_exc, PD.v_selR_stuck, PD.v_not, PD.v_notR, PD.v_notR_exc, PD.v_test, PD.v_testR, PD.v_testR_exc, PD.v_andV, PD.v_orV, PD.v_selV_t, PD.v_selV_f, PD.v_notV, PD.v_notV', PD.v_chain, PD.v_chain_t, PD.v_chain_f, PD.v_add_i, PD.v_add_s, PD.v_add_l, PD.v_add_t, PD.v_cat, PD.v_sub, PD.v_mul, PD.v_div, PD.v_mod, PD.v_pow, PD.v_neg, PD.v_cmp, PD.v_eq_ii, PD.v_eq_bb, PD.v_eq_ss, PD.v_eq_nn, PD.v_ne_ii, PD.v_ne_bb, PD.v_ne_ss, PD.v_eq_ll, PD.v_eq_tt, PD.v_ne_ll, PD.v_ne_tt, PD.v_eq0, PD.v_in_t, PD.v_in_l, PD.v_flat_i, PD.v_flat_s, PD.v_flat_b, PD.v_flat_n, PD.v_isB, PD.v_isN_n, PD.v_isN_i, PD.v_isN_t, PD.v_isN_l, PD.v_isN_s, PD.v_ix_l, PD.v_ix_t, PD.v_ix_s, PD.v_slN, PD.v_slV_l, PD.v_slV_t, PD.v_slV_s, PD.v_len_l, PD.v_len_t, PD.v_len_s, PD.v_len_d, PD.v_list_l, PD.v_list_t, PD.v_tuple_l, PD.v_tuple_t, PD.v_sorted, PD.v_seqOf_l, PD.v_seqOf_t, PD.v_keyOf_i, PD.v_keyOf_s, PD.v_data_l, PD.v_data_d, PD.v_isi, PD.v_isi_int, PD.v_isi_bool, PD.v_isi_str, PD.v_isi_list, PD.v_isi_tuple, PD.i_int_i, PD.i_bool_i, PD.i_tuple_i, PD.i_tuple_t, PD.i_int_t, PD.i_list_l, PD.i_str_s, PD.i_bool_b, PD.v_hTup, PD.v_hCons, PD.v_hNil, PD.w_seq, PD.w_asg, PD.w_outO_s, PD.w_outO_n, PD.w_ret, PD.w_retN, PD.w_retV, PD.w_ret0, PD.w_V, PD.w_Vr, PD.w_C, PD.w_op, PD.w_un, PD.w_CB, PD.w_cons, PD.w_nil, PD.w_tup, PD.w_lst, PD.w_ob, PD.w_call, PD.w_new, PD.w_app, PD.w_ext, PD.w_pop, PD.w_popD, PD.w_putAt, PD.w_aug, PD.w_frz, PD.w_ahead, PD.w_forget, PD.w_forO_nx, PD.w_forO_bk, PD.w_forO_ct, PD.w_forO_rt, PD.w_forO_rn, PD.w_forO_exc, PD.w_drop, PD.w_next, PD.w_bk, PD.w_ct, PD.w_exc, PD.w_lc, PD.w_itL, PD.w_itl, PD.w_itT, PD.w_itt, PD.w_itV, PD.w_itv, PD.w_rng1, PD.w_rng1', PD.w_rng2, PD.w_rng2', PD.w_lrg1, PD.w_lrg1', PD.w_sl, PD.w_no, PD.w_part, PD.w_part', PD.w_newD, PD.w_putD, PD.w_inD, PD.w_getD, PD.w_maxD, PD.w_count, PD.w_for, PD.w_hSet, PD.w_appPop, PD.w_apD, forgetE, owL, putL, owD, putOD, frzE, initE, noPm, wipeE, sizeLine_eq, List.getElem?_cons_zero, List.getElem?_cons_succ, List.set_cons_zero, List.set_cons_succ, List.map_cons, List.map_nil, List.length_cons, List.length_nil, List.replicate, List.cons_append, List.nil_append, Option.bind_some, Option.bind_none, Option.map_some, Option.map_none, ite_true, ite_false, if_true, if_false, reduceCtorEq, Nat.reduceAdd, Nat.reduceSub, Nat.reduceLeDiff, Bool.and_true, Bool.true_and, Bool.and_false, Bool.false_and, Bool.or_true, Bool.true_or, Bool.or_false, Bool.false_or, Bool.not_true, Bool.not_false, decide_true, decide_false, Bool.false_eq_true, Int.reduceEq, Int.reduceBEq, Option.isSome_some, Option.isSome_none, List.all_cons, List.all_nil, and_self, and_true, true_and])
    have e1 : dCons (dV 0) dNil [.fr d, .fr (.int way), .fr (.bool false), .un] = .ok [d] := by (simp only [PD.v_bind_ok, PD.v_bind_exc, PD.v_bind_stuck, PD.v_bindS_ok, PD.v_bindS_exc, PD.v_bindS_stuck, PD.v_of_some, PD.v_of_none, PD.v_seq_nx, PD.v_seq_rt, PD.v_seq_rn, PD.v_seq_bk, PD.v_seq_ct, PD.v_seq_exc, PD.v_seq_stuck, PD.v_ifS, PD.v_sel_t, PD.v_sel_f, PD.v_sel_exc, PD.v_sel_stuck, PD.v_if, PD.v_and, PD.v_or, PD.v_selR_t, PD.v_selR_f, PD.v_selR_exc, PD.v_selR_stuck, PD.v_not, PD.v_notR, PD.v_notR_exc, PD.v_test, PD.v_testR, PD.v_testR_exc, PD.v_andV, PD.v_orV, PD.v_selV_t, PD.v_selV_f, PD.v_notV, PD.v_notV', PD.v_chain, PD.v_chain_t, PD.v_chain_f, PD.v_add_i, PD.v_add_s, PD.v_add_l, PD.v_add_t, PD.v_cat, PD.v_sub, PD.v_mul, PD.v_div, PD.v_mod, PD.v_pow, PD.v_neg, PD.v_cmp, PD.v_eq_ii, PD.v_eq_bb, PD.v_eq_ss, PD.v_eq_nn, PD.v_ne_ii, PD.v_ne_bb, PD.v_ne_ss, PD.v_eq_ll, PD.v_eq_tt, PD.v_ne_ll, PD.v_ne_tt, PD.v_eq0, PD.v_in_t, PD.v_in_l, PD.v_flat_i, PD.v_flat_s, PD.v_flat_b, PD.v_flat_n, PD.v_isB, PD.v_isN_n, PD.v_isN_i, PD.v_isN_t, PD.v_isN_l, PD.v_isN_s, PD.v_ix_l, PD.v_ix_t, PD.v_ix_s, PD.v_slN, PD.v_slV_l, PD.v_slV_t, PD.v_slV_s, PD.v_len_l, PD.v_len_t, PD.v_len_s, PD.v_len_d, PD.v_list_l, PD.v_list_t, PD.v_tuple_l, PD.v_tuple_t, PD.v_sorted, PD.v_seqOf_l, PD.v_seqOf_t, PD.v_keyOf_i, PD.v_keyOf_s, PD.v_data_l, PD.v_data_d, PD.v_isi, PD.v_isi_int, PD.v_isi_bool, PD.v_isi_str, PD.v_isi_list, PD.v_isi_tuple, PD.i_int_i, PD.i_bool_i, PD.i_tuple_i, PD.i_tuple_t, PD.i_int_t, PD.i_list_l, PD.i_str_s, PD.i_bool_b, PD.v_hTup, PD.v_hCons, PD.v_hNil, PD.w_seq, PD.w_asg, PD.w_outO_s, PD.w_outO_n, PD.w_ret, PD.w_retN, PD.w_retV, PD.w_ret0, PD.w_V, PD.w_Vr, PD.w_C, PD.w_op, PD.w_un, PD.w_CB, PD.w_cons, PD.w_nil, PD.w_tup, PD.w_lst, PD.w_ob, PD.w_call, PD.w_new, PD.w_app, PD.w_ext, PD.w_pop, PD.w_popD, PD.w_putAt, PD.w_aug, PD.w_frz, PD.w_ahead, PD.w_forget, PD.w_forO_nx, PD.w_forO_bk, PD.w_forO_ct, PD.w_forO_rt, PD.w_forO_rn, PD.w_forO_exc, PD.w_drop, PD.w_next, PD.w_bk, PD.w_ct, PD.w_exc, PD.w_lc, PD.w_itL, PD.w_itl, PD.w_itT, PD.w_itt, PD.w_itV, PD.w_itv, PD.w_rng1, PD.w_rng1', PD.w_rng2, PD.w_rng2', PD.w_lrg1, PD.w_lrg1', PD.w_sl, PD.w_no, PD.w_part, PD.w_part', PD.w_newD, PD.w_putD, PD.w_inD, PD.w_getD, PD.w_maxD, PD.w_count, PD.w_for, PD.w_hSet, PD.w_appPop, PD.w_apD, forgetE, owL, putL, owD, putOD, frzE, initE, noPm, wipeE, sizeLine_eq, List.getElem?_cons_zero, List.getElem?_cons_succ, List.set_cons_zero, List.set_cons_succ, List.map_cons, List.map_nil, List.length_cons, List.length_nil, List.replicate, List.cons_append, List.nil_append, Option.bind_some, Option.bind_none, Option.map_some, Option.map_none, ite_true, ite_false, if_true, if_false, reduceCtorEq, Nat.reduceAdd, Nat.reduceSub, Nat.reduceLeDiff, Bool.and_true, Bool.true_and, Bool.and_false, Bool.false_and, Bool.or_true, Bool.true_or, Bool.or_false, Bool.false_or, Bool.not_true, Bool.not_false, decide_true, decide_false, Bool.false_eq_true, Int.reduceEq, Int.reduceBEq, Option.isSome_some, Option.isSome_none, List.all_cons, List.all_nil, and_self, and_true, true_and])
    unfold dIfE dCallE
    rw [e0, e1]
    cases way == 0 with
    | true => simp only [hb]
    | false => simp only [hs]
  have hany : ((["NoNeeds", "NoNumber", "NoPage", "NoPicture", "NoPlace", "NoRoom", "NoRow", "NoTexts"] : List Str).any fun d => ("NoTree" : Str) == d) = false := by decide
  unfold f__law_refused funT F__law_refused
  simp only [PD.v_bind_ok, PD.v_bind_exc, PD.v_bind_stuck, PD.v_bindS_ok, PD.v_bindS_exc, PD.v_bindS_stuck, PD.v_of_some, PD.v_of_none, PD.v_seq_nx, PD.v_seq_rt, PD.v_seq_rn, PD.v_seq_bk, PD.v_seq_ct, PD.v_seq_exc, PD.v_seq_stuck, PD.v_ifS, PD.v_sel_t, PD.v_sel_f, PD.v_sel_exc, PD.v_sel_stuck, PD.v_if, PD.v_and, PD.v_or, PD.v_selR_t, PD.v_selR_f, PD.v_selR_exc, PD.v_selR_stuck, PD.v_not, PD.v_notR, PD.v_notR_exc, PD.v_test, PD.v_testR, PD.v_testR_exc, PD.v_andV, PD.v_orV, PD.v_selV_t, PD.v_selV_f, PD.v_notV, PD.v_notV', PD.v_chain, PD.v_chain_t, PD.v_chain_f, PD.v_add_i, PD.v_add_s, PD.v_add_l, PD.v_add_t, PD.v_cat, PD.v_sub, PD.v_mul, PD.v_div, PD.v_mod, PD.v_pow, PD.v_neg, PD.v_cmp, PD.v_eq_ii, PD.v_eq_bb, PD.v_eq_ss, PD.v_eq_nn, PD.v_ne_ii, PD.v_ne_bb, PD.v_ne_ss, PD.v_eq_ll, PD.v_eq_tt, PD.v_ne_ll, PD.v_ne_tt, PD.v_eq0, PD.v_in_t, PD.v_in_l, PD.v_flat_i, PD.v_flat_s, PD.v_flat_b, PD.v_flat_n, PD.v_isB, PD.v_isN_n, PD.v_isN_i, PD.v_isN_t, PD.v_isN_l, PD.v_isN_s, PD.v_ix_l, PD.v_ix_t, PD.v_ix_s, PD.v_slN, PD.v_slV_l, PD.v_slV_t, PD.v_slV_s, PD.v_len_l, PD.v_len_t, PD.v_len_s, PD.v_len_d, PD.v_list_l, PD.v_list_t, PD.v_tuple_l, PD.v_tuple_t, PD.v_sorted, PD.v_seqOf_l, PD.v_seqOf_t, PD.v_keyOf_i, PD.v_keyOf_s, PD.v_data_l, PD.v_data_d, PD.v_isi, PD.v_isi_int, PD.v_isi_bool, PD.v_isi_str, PD.v_isi_list, PD.v_isi_tuple, PD.i_int_i, PD.i_bool_i, PD.i_tuple_i, PD.i_tuple_t, PD.i_int_t, PD.i_list_l, PD.i_str_s, PD.i_bool_b, PD.v_hTup, PD.v_hCons, PD.v_hNil, PD.w_seq, PD.w_asg, PD.w_outO_s, PD.w_outO_n, PD.w_ret, PD.w_retN, PD.w_retV, PD.w_ret0, PD.w_V, PD.w_Vr, PD.w_C, PD.w_op, PD.w_un, PD.w_CB, PD.w_cons, PD.w_nil, PD.w_tup, PD.w_lst, PD.w_ob, PD.w_call, PD.w_new, PD.w_app, PD.w_ext, PD.w_pop, PD.w_popD, PD.w_putAt, PD.w_aug, PD.w_frz, PD.w_ahead, PD.w_forget, PD.w_forO_nx, PD.w_forO_bk, PD.w_forO_ct, PD.w_forO_rt, PD.w_forO_rn, PD.w_forO_exc, PD.w_drop, PD.w_next, PD.w_bk, PD.w_ct, PD.w_exc, PD.w_lc, PD.w_itL, PD.w_itl, PD.w_itT, PD.w_itt, PD.w_itV, PD.w_itv, PD.w_rng1, PD.w_rng1', PD.w_rng2, PD.w_rng2', PD.w_lrg1, PD.w_lrg1', PD.w_sl, PD.w_no, PD.w_part, PD.w_part', PD.w_newD, PD.w_putD, PD.w_inD, PD.w_getD, PD.w_maxD, PD.w_count, PD.w_for, PD.w_hSet, PD.w_appPop, PD.w_apD, forgetE, owL, putL, owD, putOD, frzE, initE, noPm, wipeE, sizeLine_eq, List.getElem?_cons_zero, List.getElem?_cons_succ, List.set_cons_zero, List.set_cons_succ, List.map_cons, List.map_nil, List.length_cons, List.length_nil, List.replicate, List.cons_append, List.nil_append, Option.bind_some, Option.bind_none, Option.map_some, Option.map_none, ite_true, ite_false, if_true, if_false, reduceCtorEq, Nat.reduceAdd, Nat.reduceSub, Nat.reduceLeDiff, Bool.and_true, Bool.true_and, Bool.and_false, Bool.false_and, Bool.or_true, Bool.true_or, Bool.or_false, Bool.false_or, Bool.not_true, Bool.not_false, decide_true, decide_false, Bool.false_eq_true, Int.reduceEq, Int.reduceBEq, Option.isSome_some, Option.isSome_none, List.all_cons, List.all_nil, and_self, and_true, true_and]
  rw [ht _ (.nx [.fr d, .fr (.int way), .fr (.bool true), .un])]
  · simp only [PD.v_bind_ok, PD.v_bind_exc, PD.v_bind_stuck, PD.v_bindS_ok, PD.v_bindS_exc, PD.v_bindS_stuck, PD.v_of_some, PD.v_of_none, PD.v_seq_nx, PD.v_seq_rt, PD.v_seq_rn, PD.v_seq_bk, PD.v_seq_ct, PD.v_seq_exc, PD.v_seq_stuck, PD.v_ifS, PD.v_sel_t, PD.v_sel_f, PD.v_sel_exc, PD.v_sel_stuck, PD.v_if, PD.v_and, PD.v_or, PD.v_selR_t, PD.v_selR_f, PD.v_selR_exc, PD.v_selR_stuck, PD.v_not, PD.v_notR, PD.v_notR_exc, PD.v_test, PD.v_testR, PD.v_testR_exc, PD.v_andV, PD.v_orV, PD.v_selV_t, PD.v_selV_f, PD.v_notV, PD.v_notV', PD.v_chain, PD.v_chain_t, PD.v_chain_f, PD.v_add_i, PD.v_add_s, PD.v_add_l, PD.v_add_t, PD.v_cat, PD.v_sub, PD.v_mul, PD.v_div, PD.v_mod, PD.v_pow, PD.v_neg, PD.v_cmp, PD.v_eq_ii, PD.v_eq_bb, PD.v_eq_ss, PD.v_eq_nn, PD.v_ne_ii, PD.v_ne_bb, PD.v_ne_ss, PD.v_eq_ll, PD.v_eq_tt, PD.v_ne_ll, PD.v_ne_tt, PD.v_eq0, PD.v_in_t, PD.v_in_l, PD.v_flat_i, PD.v_flat_s, PD.v_flat_b, PD.v_flat_n, PD.v_isB, PD.v_isN_n, PD.v_isN_i, PD.v_isN_t, PD.v_isN_l, PD.v_isN_s, PD.v_ix_l, PD.v_ix_t, PD.v_ix_s, PD.v_slN, PD.v_slV_l, PD.v_slV_t, PD.v_slV_s, PD.v_len_l, PD.v_len_t, PD.v_len_s, PD.v_len_d, PD.v_list_l, PD.v_list_t, PD.v_tuple_l, PD.v_tuple_t, PD.v_sorted, PD.v_seqOf_l, PD.v_seqOf_t, PD.v_keyOf_i, PD.v_keyOf_s, PD.v_data_l, PD.v_data_d, PD.v_isi, PD.v_isi_int, PD.v_isi_bool, PD.v_isi_str, PD.v_isi_list, PD.v_isi_tuple, PD.i_int_i, PD.i_bool_i, PD.i_tuple_i, PD.i_tuple_t, PD.i_int_t, PD.i_list_l, PD.i_str_s, PD.i_bool_b, PD.v_hTup, PD.v_hCons, PD.v_hNil, PD.w_seq, PD.w_asg, PD.w_outO_s, PD.w_outO_n, PD.w_ret, PD.w_retN, PD.w_retV, PD.w_ret0, PD.w_V, PD.w_Vr, PD.w_C, PD.w_op, PD.w_un, PD.w_CB, PD.w_cons, PD.w_nil, PD.w_tup, PD.w_lst, PD.w_ob, PD.w_call, PD.w_new, PD.w_app, PD.w_ext, PD.w_pop, PD.w_popD, PD.w_putAt, PD.w_aug, PD.w_frz, PD.w_ahead, PD.w_forget, PD.w_forO_nx, PD.w_forO_bk, PD.w_forO_ct, PD.w_forO_rt, PD.w_forO_rn, PD.w_forO_exc, PD.w_drop, PD.w_next, PD.w_bk, PD.w_ct, PD.w_exc, PD.w_lc, PD.w_itL, PD.w_itl, PD.w_itT, PD.w_itt, PD.w_itV, PD.w_itv, PD.w_rng1, PD.w_rng1', PD.w_rng2, PD.w_rng2', PD.w_lrg1, PD.w_lrg1', PD.w_sl, PD.w_no, PD.w_part, PD.w_part', PD.w_newD, PD.w_putD, PD.w_inD, PD.w_getD, PD.w_maxD, PD.w_count, PD.w_for, PD.w_hSet, PD.w_appPop, PD.w_apD, forgetE, owL, putL, owD, putOD, frzE, initE, noPm, wipeE, sizeLine_eq, List.getElem?_cons_zero, List.getElem?_cons_succ, List.set_cons_zero, List.set_cons_succ, List.map_cons, List.map_nil, List.length_cons, List.length_nil, List.replicate, List.cons_append, List.nil_append, Option.bind_some, Option.bind_none, Option.map_some, Option.map_none, ite_true, ite_false, if_true, if_false, reduceCtorEq, Nat.reduceAdd, Nat.reduceSub, Nat.reduceLeDiff, Bool.and_true, Bool.true_and, Bool.and_false, Bool.false_and, Bool.or_true, Bool.true_or, Bool.or_false, Bool.false_or, Bool.not_true, Bool.not_false, decide_true, decide_false, Bool.false_eq_true, Int.reduceEq, Int.reduceBEq, Option.isSome_some, Option.isSome_none, List.all_cons, List.all_nil, and_self, and_true, true_and]
  · intro a
    simp only [PD.v_bind_ok, PD.v_bind_exc, PD.v_bind_stuck, PD.v_bindS_ok, PD.v_bindS_exc, PD.v_bindS_stuck, PD.v_of_some, PD.v_of_none, PD.v_seq_nx, PD.v_seq_rt, PD.v_seq_rn, PD.v_seq_bk, PD.v_seq_ct, PD.v_seq_exc, PD.v_seq_stuck, PD.v_ifS, PD.v_sel_t, PD.v_sel_f, PD.v_sel_exc, PD.v_sel_stuck, PD.v_if, PD.v_and, PD.v_or, PD.v_selR_t, PD.v_selR_f, PD.v_selR_exc, PD.v_selR_stuck, PD.v_not, PD.v_notR, PD.v_notR_exc, PD.v_test, PD.v_testR, PD.v_testR_exc, PD.v_andV, PD.v_orV, PD.v_selV_t, PD.v_selV_f, PD.v_notV, PD.v_notV', PD.v_chain, PD.v_chain_t, PD.v_chain_f, PD.v_add_i, PD.v_add_s, PD.v_add_l, PD.v_add_t, PD.v_cat, PD.v_sub, PD.v_mul, PD.v_div, PD.v_mod, PD.v_pow, PD.v_neg, PD.v_cmp, PD.v_eq_ii, PD.v_eq_bb, PD.v_eq_ss, PD.v_eq_nn, PD.v_ne_ii, PD.v_ne_bb, PD.v_ne_ss, PD.v_eq_ll, PD.v_eq_tt, PD.v_ne_ll, PD.v_ne_tt, PD.v_eq0, PD.v_in_t, PD.v_in_l, PD.v_flat_i, PD.v_flat_s, PD.v_flat_b, PD.v_flat_n, PD.v_isB, PD.v_isN_n, PD.v_isN_i, PD.v_isN_t, PD.v_isN_l, PD.v_isN_s, PD.v_ix_l, PD.v_ix_t, PD.v_ix_s, PD.v_slN, PD.v_slV_l, PD.v_slV_t, PD.v_slV_s, PD.v_len_l, PD.v_len_t, PD.v_len_s, PD.v_len_d, PD.v_list_l, PD.v_list_t, PD.v_tuple_l, PD.v_tuple_t, PD.v_sorted, PD.v_seqOf_l, PD.v_seqOf_t, PD.v_keyOf_i, PD.v_keyOf_s, PD.v_data_l, PD.v_data_d, PD.v_isi, PD.v_isi_int, PD.v_isi_bool, PD.v_isi_str, PD.v_isi_list, PD.v_isi_tuple, PD.i_int_i, PD.i_bool_i, PD.i_tuple_i, PD.i_tuple_t, PD.i_int_t, PD.i_list_l, PD.i_str_s, PD.i_bool_b, PD.v_hTup, PD.v_hCons, PD.v_hNil, PD.w_seq, PD.w_asg, PD.w_outO_s, PD.w_outO_n, PD.w_ret, PD.w_retN, PD.w_retV, PD.w_ret0, PD.w_V, PD.w_Vr, PD.w_C, PD.w_op, PD.w_un, PD.w_CB, PD.w_cons, PD.w_nil, PD.w_tup, PD.w_lst, PD.w_ob, PD.w_call, PD.w_new, PD.w_app, PD.w_ext, PD.w_pop, PD.w_popD, PD.w_putAt, PD.w_aug, PD.w_frz, PD.w_ahead, PD.w_forget, PD.w_forO_nx, PD.w_forO_bk, PD.w_forO_ct, PD.w_forO_rt, PD.w_forO_rn, PD.w_forO_exc, PD.w_drop, PD.w_next, PD.w_bk, PD.w_ct, PD.w_exc, PD.w_lc, PD.w_itL, PD.w_itl, PD.w_itT, PD.w_itt, PD.w_itV, PD.w_itv, PD.w_rng1, PD.w_rng1', PD.w_rng2, PD.w_rng2', PD.w_lrg1, PD.w_lrg1', PD.w_sl, PD.w_no, PD.w_part, PD.w_part', PD.w_newD, PD.w_putD, PD.w_inD, PD.w_getD, PD.w_maxD, PD.w_count, PD.w_for, PD.w_hSet, PD.w_appPop, PD.w_apD, forgetE, owL, putL, owD, putOD, frzE, initE, noPm, wipeE, sizeLine_eq, List.getElem?_cons_zero, List.getElem?_cons_succ, List.set_cons_zero, List.set_cons_succ, List.map_cons, List.map_nil, List.length_cons, List.length_nil, List.replicate, List.cons_append, List.nil_append, Option.bind_some, Option.bind_none, Option.map_some, Option.map_none, ite_true, ite_false, if_true, if_false, reduceCtorEq, Nat.reduceAdd, Nat.reduceSub, Nat.reduceLeDiff, Bool.and_true, Bool.true_and, Bool.and_false, Bool.false_and, Bool.or_true, Bool.true_or, Bool.or_false, Bool.false_or, Bool.not_true, Bool.not_false, decide_true, decide_false, Bool.false_eq_true, Int.reduceEq, Int.reduceBEq, Option.isSome_some, Option.isSome_none, List.all_cons, List.all_nil, and_self, and_true, true_and, w_isX, beq_self_eq_true, hany, goneO]

end K33

set_option Elab.async false
set_option linter.all false
set_option maxRecDepth 100000
set_option maxHeartbeats 1000000
namespace K33
open PySem L2 PD
theorem ev_count (d : D) (a : Str) (ms : List Int) (t : Tr a d ms) (hw : wt d ≤ 10000) : f__law_count [d] = .ok (.int ((lv d : Nat) : Int)) := by
  obtain ⟨out, o1, o2, o3, o4, o5⟩ := ev_knots d a ms t hw
  have e : lcF (hTup 2 (hCons (hSet 1) (hCons (hSet 2) hNil))) (dTest (dCall f__law_whole (dCons (dV 1) dNil))) (dV 1) [.fr d, .un, .un] (out.map kd) = some (((out.map kd).filter fun e => match e with | .tuple [x, _] => isW x | _ => false).map fun e => match e with | .tuple [x, _] => x | _ => .none) := by
    refine lcF_filter fun e he => ?_
    obtain ⟨⟨x, w⟩, hx, rfl⟩ := List.mem_map.mp he
    refine ⟨[.fr d, .fr x, .fr (wayD w)], rfl, ?_, fun _ => rfl⟩
    simp only [PD.v_bind_ok, PD.v_bind_exc, PD.v_bind_stuck, PD.v_bindS_ok, PD.v_bindS_exc, PD.v_bindS_stuck, PD.v_of_some, PD.v_of_none, PD.v_seq_nx, PD.v_seq_rt, PD.v_seq_rn, PD.v_seq_bk, PD.v_seq_ct, PD.v_seq_exc, PD.v_seq_stuck, PD.v_ifS, PD.v_sel_t, PD.v_sel_f, PD.v_sel_exc, PD.v_sel_stuck, PD.v_if, PD.v_and, PD.v_or, PD.v_selR_t, PD.v_selR_f, PD.v_selR_exc, PD.v_selR_stuck, PD.v_not, PD.v_notR, PD.v_notR_exc, PD.v_test, PD.v_testR, PD.v_testR_exc, PD.v_andV, PD.v_orV, PD.v_selV_t, PD.v_selV_f, PD.v_notV, PD.v_notV', PD.v_chain, PD.v_chain_t, PD.v_chain_f, PD.v_add_i, PD.v_add_s, PD.v_add_l, PD.v_add_t, PD.v_cat, PD.v_sub, PD.v_mul, PD.v_div, PD.v_mod, PD.v_pow, PD.v_neg, PD.v_cmp, PD.v_eq_ii, PD.v_eq_bb, PD.v_eq_ss, PD.v_eq_nn, PD.v_ne_ii, PD.v_ne_bb, PD.v_ne_ss, PD.v_eq_ll, PD.v_eq_tt, PD.v_ne_ll, PD.v_ne_tt, PD.v_eq0, PD.v_in_t, PD.v_in_l, PD.v_flat_i, PD.v_flat_s, PD.v_flat_b, PD.v_flat_n, PD.v_isB, PD.v_isN_n, PD.v_isN_i, PD.v_isN_t, PD.v_isN_l, PD.v_isN_s, PD.v_ix_l, PD.v_ix_t, PD.v_ix_s, PD.v_slN, PD.v_slV_l, PD.v_slV_t, PD.v_slV_s, PD.v_len_l, PD.v_len_t, PD.v_len_s, PD.v_len_d, PD.v_list_l, PD.v_list_t, PD.v_tuple_l, PD.v_tuple_t, PD.v_sorted, PD.v_seqOf_l, PD.v_seqOf_t, PD.v_keyOf_i, PD.v_keyOf_s, PD.v_data_l, PD.v_data_d, PD.v_isi, PD.v_isi_int, PD.v_isi_bool, PD.v_isi_str, PD.v_isi_list, PD.v_isi_tuple, PD.i_int_i, PD.i_bool_i, PD.i_tuple_i, PD.i_tuple_t, PD.i_int_t, PD.i_list_l, PD.i_str_s, PD.i_bool_b, PD.v_hTup, PD.v_hCons, PD.v_hNil, PD.w_seq, PD.w_asg, PD.w_outO_s, PD.w_outO_n, PD.w_ret, PD.w_retN, PD.w_retV, PD.w_ret0, PD.w_V, PD.w_Vr, PD.w_C, PD.w_op, PD.w_un, PD.w_CB, PD.w_cons, PD.w_nil, PD.w_tup, PD.w_lst, PD.w_ob, PD.w_call, PD.w_new, PD.w_app, PD.w_ext, PD.w_pop, PD.w_popD, PD.w_putAt, PD.w_aug, PD.w_frz, PD.w_ahead, PD.w_forget, PD.w_forO_nx, PD.w_forO_bk, PD.w_forO_ct, PD.w_forO_rt, PD.w_forO_rn, PD.w_forO_exc, PD.w_drop, PD.w_next, PD.w_bk, PD.w_ct, PD.w_exc, PD.w_lc, PD.w_itL, PD.w_itl, PD.w_itT, PD.w_itt, PD.w_itV, PD.w_itv, PD.w_rng1, PD.w_rng1', PD.w_rng2, PD.w_rng2', PD.w_lrg1, PD.w_lrg1', PD.w_sl, PD.w_no, PD.w_part, PD.w_part', PD.w_newD, PD.w_putD, PD.w_inD, PD.w_getD, PD.w_maxD, PD.w_count, PD.w_for, PD.w_hSet, PD.w_appPop, PD.w_apD, forgetE, owL, putL, owD, putOD, frzE, initE, noPm, wipeE, sizeLine_eq, List.getElem?_cons_zero, List.getElem?_cons_succ, List.set_cons_zero, List.set_cons_succ, List.map_cons, List.map_nil, List.length_cons, List.length_nil, List.replicate, List.cons_append, List.nil_append, Option.bind_some, Option.bind_none, Option.map_some, Option.map_none, ite_true, ite_false, if_true, if_false, reduceCtorEq, Nat.reduceAdd, Nat.reduceSub, Nat.reduceLeDiff, Bool.and_true, Bool.true_and, Bool.and_false, Bool.false_and, Bool.or_true, Bool.true_or, Bool.or_false, Bool.false_or, Bool.not_true, Bool.not_false, decide_true, decide_false, Bool.false_eq_true, Int.reduceEq, Int.reduceBEq, Option.isSome_some, Option.isSome_none, List.all_cons, List.all_nil, and_self, and_true, true_and, ev_law_whole, kd]
  have hl : (((out.map kd).filter fun e => match e with | .tuple [x, _] => isW x | _ => false).map fun e => match e with | .tuple [x, _] => x | _ => .none).length = lv d := by
    rw [List.length_map, List.filter_map, List.length_map, ← o5]
    rfl
  unfold f__law_count funT F__law_count
  simp only [PD.v_bind_ok, PD.v_bind_exc, PD.v_bind_stuck, PD.v_bindS_ok, PD.v_bindS_exc, PD.v_bindS_stuck, PD.v_of_some, PD.v_of_none, PD.v_seq_nx, PD.v_seq_rt, PD.v_seq_rn, PD.v_seq_bk, PD.v_seq_ct, PD.v_seq_exc, PD.v_seq_stuck, PD.v_ifS, PD.v_sel_t, PD.v_sel_f, PD.v_sel_exc, PD.v_sel_stuck, PD.v_if, PD.v_and, PD.v_or, PD.v_selR_t, PD.v_selR_f, PD.v_selR_exc, PD.v_selR_stuck, PD.v_not, PD.v_notR, PD.v_notR_exc, PD.v_test, PD.v_testR, PD.v_testR_exc, PD.v_andV, PD.v_orV, PD.v_selV_t, PD.v_selV_f, PD.v_notV, PD.v_notV', PD.v_chain, PD.v_chain_t, PD.v_chain_f, PD.v_add_i, PD.v_add_s, PD.v_add_l, PD.v_add_t, PD.v_cat, PD.v_sub, PD.v_mul, PD.v_div, PD.v_mod, PD.v_pow, PD.v_neg, PD.v_cmp, PD.v_eq_ii, PD.v_eq_bb, PD.v_eq_ss, PD.v_eq_nn, PD.v_ne_ii, PD.v_ne_bb, PD.v_ne_ss, PD.v_eq_ll, PD.v_eq_tt, PD.v_ne_ll, PD.v_ne_tt, PD.v_eq0, PD.v_in_t, PD.v_in_l, PD.v_flat_i, PD.v_flat_s, PD.v_flat_b, PD.v_flat_n, PD.v_isB, PD.v_isN_n, PD.v_isN_i, PD.v_isN_t, PD.v_isN_l, PD.v_isN_s, PD.v_ix_l, PD.v_ix_t, PD.v_ix_s, PD.v_slN, PD.v_slV_l, PD.v_slV_t, PD.v_slV_s, PD.v_len_l, PD.v_len_t, PD.v_len_s, PD.v_len_d, PD.v_list_l, PD.v_list_t, PD.v_tuple_l, PD.v_tuple_t, PD.v_sorted, PD.v_seqOf_l, PD.v_seqOf_t, PD.v_keyOf_i, PD.v_keyOf_s, PD.v_data_l, PD.v_data_d, PD.v_isi, PD.v_isi_int, PD.v_isi_bool, PD.v_isi_str, PD.v_isi_list, PD.v_isi_tuple, PD.i_int_i, PD.i_bool_i, PD.i_tuple_i, PD.i_tuple_t, PD.i_int_t, PD.i_list_l, PD.i_str_s, PD.i_bool_b, PD.v_hTup, PD.v_hCons, PD.v_hNil, PD.w_seq, PD.w_asg, PD.w_outO_s, PD.w_outO_n, PD.w_ret, PD.w_retN, PD.w_retV, PD.w_ret0, PD.w_V, PD.w_Vr, PD.w_C, PD.w_op, PD.w_un, PD.w_CB, PD.w_cons, PD.w_nil, PD.w_tup, PD.w_lst, PD.w_ob, PD.w_call, PD.w_new, PD.w_app, PD.w_ext, PD.w_pop, PD.w_popD, PD.w_putAt, PD.w_aug, PD.w_frz, PD.w_ahead, PD.w_forget, PD.w_forO_nx, PD.w_forO_bk, PD.w_forO_ct, PD.w_forO_rt, PD.w_forO_rn, PD.w_forO_exc, PD.w_drop, PD.w_next, PD.w_bk, PD.w_ct, PD.w_exc, PD.w_lc, PD.w_itL, PD.w_itl, PD.w_itT, PD.w_itt, PD.w_itV, PD.w_itv, PD.w_rng1, PD.w_rng1', PD.w_rng2, PD.w_rng2', PD.w_lrg1, PD.w_lrg1', PD.w_sl, PD.w_no, PD.w_part, PD.w_part', PD.w_newD, PD.w_putD, PD.w_inD, PD.w_getD, PD.w_maxD, PD.w_count, PD.w_for, PD.w_hSet, PD.w_appPop, PD.w_apD, forgetE, owL, putL, owD, putOD, frzE, initE, noPm, wipeE, sizeLine_eq, List.getElem?_cons_zero, List.getElem?_cons_succ, List.set_cons_zero, List.set_cons_succ, List.map_cons, List.map_nil, List.length_cons, List.length_nil, List.replicate, List.cons_append, List.nil_append, Option.bind_some, Option.bind_none, Option.map_some, Option.map_none, ite_true, ite_false, if_true, if_false, reduceCtorEq, Nat.reduceAdd, Nat.reduceSub, Nat.reduceLeDiff, Bool.and_true, Bool.true_and, Bool.and_false, Bool.false_and, Bool.or_true, Bool.true_or, Bool.or_false, Bool.false_or, Bool.not_true, Bool.not_false, decide_true, decide_false, Bool.false_eq_true, Int.reduceEq, Int.reduceBEq, Option.isSome_some, Option.isSome_none, List.all_cons, List.all_nil, and_self, and_true, true_and, o1, wipeE, noPm, e]
  rw [hl]
theorem ev_asked (d : D) (hw : wt d ≤ 10000) : f__law_asked [d] = .ok (.bool true) := by
  obtain ⟨e, b, hb⟩ := is_same d (by omega)
  have hc : f__law_is [d] = .ok (.bool b) := e ▸ hb
  cases b with
  | false =>
    have r0 := ev_refused d 0 hb
    have r1 := ev_refused d 1 hb
    unfold f__law_asked funT F__law_asked
    simp only [PD.v_bind_ok, PD.v_bind_exc, PD.v_bind_stuck, PD.v_bindS_ok, PD.v_bindS_exc, PD.v_bindS_stuck, PD.v_of_some, PD.v_of_none, PD.v_seq_nx, PD.v_seq_rt, PD.v_seq_rn, PD.v_seq_bk, PD.v_seq_ct, PD.v_seq_exc, PD.v_seq_stuck, PD.v_ifS, PD.v_sel_t, PD.v_sel_f, PD.v_sel_exc, PD.v_sel_stuck, PD.v_if, PD.v_and, PD.v_or, PD.v_selR_t, PD.v_selR_f, PD.v_selR_exc, PD.v_selR_stuck, PD.v_not, PD.v_notR, PD.v_notR_exc, PD.v_test, PD.v_testR, PD.v_testR_exc, PD.v_andV, PD.v_orV, PD.v_selV_t, PD.v_selV_f, PD.v_notV, PD.v_notV', PD.v_chain, PD.v_chain_t, PD.v_chain_f, PD.v_add_i, PD.v_add_s, PD.v_add_l, PD.v_add_t, PD.v_cat, PD.v_sub, PD.v_mul, PD.v_div, PD.v_mod, PD.v_pow, PD.v_neg, PD.v_cmp, PD.v_eq_ii, PD.v_eq_bb, PD.v_eq_ss, PD.v_eq_nn, PD.v_ne_ii, PD.v_ne_bb, PD.v_ne_ss, PD.v_eq_ll, PD.v_eq_tt, PD.v_ne_ll, PD.v_ne_tt, PD.v_eq0, PD.v_in_t, PD.v_in_l, PD.v_flat_i, PD.v_flat_s, PD.v_flat_b, PD.v_flat_n, PD.v_isB, PD.v_isN_n, PD.v_isN_i, PD.v_isN_t, PD.v_isN_l, PD.v_isN_s, PD.v_ix_l, PD.v_ix_t, PD.v_ix_s, PD.v_slN, PD.v_slV_l, PD.v_slV_t, PD.v_slV_s, PD.v_len_l, PD.v_len_t, PD.v_len_s, PD.v_len_d, PD.v_list_l, PD.v_list_t, PD.v_tuple_l, PD.v_tuple_t, PD.v_sorted, PD.v_seqOf_l, PD.v_seqOf_t, PD.v_keyOf_i, PD.v_keyOf_s, PD.v_data_l, PD.v_data_d, PD.v_isi, PD.v_isi_int, PD.v_isi_bool, PD.v_isi_str, PD.v_isi_list, PD.v_isi_tuple, PD.i_int_i, PD.i_bool_i, PD.i_tuple_i, PD.i_tuple_t, PD.i_int_t, PD.i_list_l, PD.i_str_s, PD.i_bool_b, PD.v_hTup, PD.v_hCons, PD.v_hNil, PD.w_seq, PD.w_asg, PD.w_outO_s, PD.w_outO_n, PD.w_ret, PD.w_retN, PD.w_retV, PD.w_ret0, PD.w_V, PD.w_Vr, PD.w_C, PD.w_op, PD.w_un, PD.w_CB, PD.w_cons, PD.w_nil, PD.w_tup, PD.w_lst, PD.w_ob, PD.w_call, PD.w_new, PD.w_app, PD.w_ext, PD.w_pop, PD.w_popD, PD.w_putAt, PD.w_aug, PD.w_frz, PD.w_ahead, PD.w_forget, PD.w_forO_nx, PD.w_forO_bk, PD.w_forO_ct, PD.w_forO_rt, PD.w_forO_rn, PD.w_forO_exc, PD.w_drop, PD.w_next, PD.w_bk, PD.w_ct, PD.w_exc, PD.w_lc, PD.w_itL, PD.w_itl, PD.w_itT, PD.w_itt, PD.w_itV, PD.w_itv, PD.w_rng1, PD.w_rng1', PD.w_rng2, PD.w_rng2', PD.w_lrg1, PD.w_lrg1', PD.w_sl, PD.w_no, PD.w_part, PD.w_part', PD.w_newD, PD.w_putD, PD.w_inD, PD.w_getD, PD.w_maxD, PD.w_count, PD.w_for, PD.w_hSet, PD.w_appPop, PD.w_apD, forgetE, owL, putL, owD, putOD, frzE, initE, noPm, wipeE, sizeLine_eq, List.getElem?_cons_zero, List.getElem?_cons_succ, List.set_cons_zero, List.set_cons_succ, List.map_cons, List.map_nil, List.length_cons, List.length_nil, List.replicate, List.cons_append, List.nil_append, Option.bind_some, Option.bind_none, Option.map_some, Option.map_none, ite_true, ite_false, if_true, if_false, reduceCtorEq, Nat.reduceAdd, Nat.reduceSub, Nat.reduceLeDiff, Bool.and_true, Bool.true_and, Bool.and_false, Bool.false_and, Bool.or_true, Bool.true_or, Bool.or_false, Bool.false_or, Bool.not_true, Bool.not_false, decide_true, decide_false, Bool.false_eq_true, Int.reduceEq, Int.reduceBEq, Option.isSome_some, Option.isSome_none, List.all_cons, List.all_nil, and_self, and_true, true_and, hc, r0, r1]
  | true =>
    obtain ⟨ms, t, _, _⟩ := tr_of d (by omega) hb
    have h1 := ev_boxes d (by omega) hb
    obtain ⟨s, h2⟩ := ev_show d (by omega) hb
    have h3 := ev_count d "" ms t hw
    unfold f__law_asked funT F__law_asked
    simp only [PD.v_bind_ok, PD.v_bind_exc, PD.v_bind_stuck, PD.v_bindS_ok, PD.v_bindS_exc, PD.v_bindS_stuck, PD.v_of_some, PD.v_of_none, PD.v_seq_nx, PD.v_seq_rt, PD.v_seq_rn, PD.v_seq_bk, PD.v_seq_ct, PD.v_seq_exc, PD.v_seq_stuck, PD.v_ifS, PD.v_sel_t, PD.v_sel_f, PD.v_sel_exc, PD.v_sel_stuck, PD.v_if, PD.v_and, PD.v_or, PD.v_selR_t, PD.v_selR_f, PD.v_selR_exc, PD.v_selR_stuck, PD.v_not, PD.v_notR, PD.v_notR_exc, PD.v_test, PD.v_testR, PD.v_testR_exc, PD.v_andV, PD.v_orV, PD.v_selV_t, PD.v_selV_f, PD.v_notV, PD.v_notV', PD.v_chain, PD.v_chain_t, PD.v_chain_f, PD.v_add_i, PD.v_add_s, PD.v_add_l, PD.v_add_t, PD.v_cat, PD.v_sub, PD.v_mul, PD.v_div, PD.v_mod, PD.v_pow, PD.v_neg, PD.v_cmp, PD.v_eq_ii, PD.v_eq_bb, PD.v_eq_ss, PD.v_eq_nn, PD.v_ne_ii, PD.v_ne_bb, PD.v_ne_ss, PD.v_eq_ll, PD.v_eq_tt, PD.v_ne_ll, PD.v_ne_tt, PD.v_eq0, PD.v_in_t, PD.v_in_l, PD.v_flat_i, PD.v_flat_s, PD.v_flat_b, PD.v_flat_n, PD.v_isB, PD.v_isN_n, PD.v_isN_i, PD.v_isN_t, PD.v_isN_l, PD.v_isN_s, PD.v_ix_l, PD.v_ix_t, PD.v_ix_s, PD.v_slN, PD.v_slV_l, PD.v_slV_t, PD.v_slV_s, PD.v_len_l, PD.v_len_t, PD.v_len_s, PD.v_len_d, PD.v_list_l, PD.v_list_t, PD.v_tuple_l, PD.v_tuple_t, PD.v_sorted, PD.v_seqOf_l, PD.v_seqOf_t, PD.v_keyOf_i, PD.v_keyOf_s, PD.v_data_l, PD.v_data_d, PD.v_isi, PD.v_isi_int, PD.v_isi_bool, PD.v_isi_str, PD.v_isi_list, PD.v_isi_tuple, PD.i_int_i, PD.i_bool_i, PD.i_tuple_i, PD.i_tuple_t, PD.i_int_t, PD.i_list_l, PD.i_str_s, PD.i_bool_b, PD.v_hTup, PD.v_hCons, PD.v_hNil, PD.w_seq, PD.w_asg, PD.w_outO_s, PD.w_outO_n, PD.w_ret, PD.w_retN, PD.w_retV, PD.w_ret0, PD.w_V, PD.w_Vr, PD.w_C, PD.w_op, PD.w_un, PD.w_CB, PD.w_cons, PD.w_nil, PD.w_tup, PD.w_lst, PD.w_ob, PD.w_call, PD.w_new, PD.w_app, PD.w_ext, PD.w_pop, PD.w_popD, PD.w_putAt, PD.w_aug, PD.w_frz, PD.w_ahead, PD.w_forget, PD.w_forO_nx, PD.w_forO_bk, PD.w_forO_ct, PD.w_forO_rt, PD.w_forO_rn, PD.w_forO_exc, PD.w_drop, PD.w_next, PD.w_bk, PD.w_ct, PD.w_exc, PD.w_lc, PD.w_itL, PD.w_itl, PD.w_itT, PD.w_itt, PD.w_itV, PD.w_itv, PD.w_rng1, PD.w_rng1', PD.w_rng2, PD.w_rng2', PD.w_lrg1, PD.w_lrg1', PD.w_sl, PD.w_no, PD.w_part, PD.w_part', PD.w_newD, PD.w_putD, PD.w_inD, PD.w_getD, PD.w_maxD, PD.w_count, PD.w_for, PD.w_hSet, PD.w_appPop, PD.w_apD, forgetE, owL, putL, owD, putOD, frzE, initE, noPm, wipeE, sizeLine_eq, List.getElem?_cons_zero, List.getElem?_cons_succ, List.set_cons_zero, List.set_cons_succ, List.map_cons, List.map_nil, List.length_cons, List.length_nil, List.replicate, List.cons_append, List.nil_append, Option.bind_some, Option.bind_none, Option.map_some, Option.map_none, ite_true, ite_false, if_true, if_false, reduceCtorEq, Nat.reduceAdd, Nat.reduceSub, Nat.reduceLeDiff, Bool.and_true, Bool.true_and, Bool.and_false, Bool.false_and, Bool.or_true, Bool.true_or, Bool.or_false, Bool.false_or, Bool.not_true, Bool.not_false, decide_true, decide_false, Bool.false_eq_true, Int.reduceEq, Int.reduceBEq, Option.isSome_some, Option.isSome_none, List.all_cons, List.all_nil, and_self, and_true, true_and, hc, h1, h2, h3, ev_law_whole, isW, beq_self_eq_true]
theorem law_1 (s : D) (t : D) (ms : List Int) (h : Tr "" t ms) (hw : wt t ≤ 1000) : ∀ cs : List Int, forF (hSet 2) B_law_1 (cs.map .int) [.fr s, .fr t, .un, .un] = .nx [.fr s, .fr t, .un, .un]
  | [] => rfl
  | c :: cs => by
    obtain ⟨d, d1, d2⟩ := ev_wrong t "" ms c h hw
    have h1 := ev_asked d (by omega)
    rw [List.map_cons]
    unfold forF
    have q : B_law_1 [.fr s, .fr t, .fr (.int c), .un] = .nx [.fr s, .fr t, .un, .un] := by
      unfold B_law_1
      simp only [PD.v_bind_ok, PD.v_bind_exc, PD.v_bind_stuck, PD.v_bindS_ok, PD.v_bindS_exc, PD.v_bindS_stuck, PD.v_of_some, PD.v_of_none, PD.v_seq_nx, PD.v_seq_rt, PD.v_seq_rn, PD.v_seq_bk, PD.v_seq_ct, PD.v_seq_exc, PD.v_seq_stuck, PD.v_ifS, PD.v_sel_t, PD.v_sel_f, PD.v_sel_exc, PD.v_sel_stuck, PD.v_if, PD.v_and, PD.v_or, PD.v_selR_t, PD.v_selR_f, PD.v_selR_exc, PD.v_selR_stuck, PD.v_not, PD.v_notR, PD.v_notR_exc, PD.v_test, PD.v_testR, PD.v_testR_exc, PD.v_andV, PD.v_orV, PD.v_selV_t, PD.v_selV_f, PD.v_notV, PD.v_notV', PD.v_chain, PD.v_chain_t, PD.v_chain_f, PD.v_add_i, PD.v_add_s, PD.v_add_l, PD.v_add_t, PD.v_cat, PD.v_sub, PD.v_mul, PD.v_div, PD.v_mod, PD.v_pow, PD.v_neg, PD.v_cmp, PD.v_eq_ii, PD.v_eq_bb, PD.v_eq_ss, PD.v_eq_nn, PD.v_ne_ii, PD.v_ne_bb, PD.v_ne_ss, PD.v_eq_ll, PD.v_eq_tt, PD.v_ne_ll, PD.v_ne_tt, PD.v_eq0, PD.v_in_t, PD.v_in_l, PD.v_flat_i, PD.v_flat_s, PD.v_flat_b, PD.v_flat_n, PD.v_isB, PD.v_isN_n, PD.v_isN_i, PD.v_isN_t, PD.v_isN_l, PD.v_isN_s, PD.v_ix_l, PD.v_ix_t, PD.v_ix_s, PD.v_slN, PD.v_slV_l, PD.v_slV_t, PD.v_slV_s, PD.v_len_l, PD.v_len_t, PD.v_len_s, PD.v_len_d, PD.v_list_l, PD.v_list_t, PD.v_tuple_l, PD.v_tuple_t, PD.v_sorted, PD.v_seqOf_l, PD.v_seqOf_t, PD.v_keyOf_i, PD.v_keyOf_s, PD.v_data_l, PD.v_data_d, PD.v_isi, PD.v_isi_int, PD.v_isi_bool, PD.v_isi_str, PD.v_isi_list, PD.v_isi_tuple, PD.i_int_i, PD.i_bool_i, PD.i_tuple_i, PD.i_tuple_t, PD.i_int_t, PD.i_list_l, PD.i_str_s, PD.i_bool_b, PD.v_hTup, PD.v_hCons, PD.v_hNil, PD.w_seq, PD.w_asg, PD.w_outO_s, PD.w_outO_n, PD.w_ret, PD.w_retN, PD.w_retV, PD.w_ret0, PD.w_V, PD.w_Vr, PD.w_C, PD.w_op, PD.w_un, PD.w_CB, PD.w_cons, PD.w_nil, PD.w_tup, PD.w_lst, PD.w_ob, PD.w_call, PD.w_new, PD.w_app, PD.w_ext, PD.w_pop, PD.w_popD, PD.w_putAt, PD.w_aug, PD.w_frz, PD.w_ahead, PD.w_forget, PD.w_forO_nx, PD.w_forO_bk, PD.w_forO_ct, PD.w_forO_rt, PD.w_forO_rn, PD.w_forO_exc, PD.w_drop, PD.w_next, PD.w_bk, PD.w_ct, PD.w_exc, PD.w_lc, PD.w_itL, PD.w_itl, PD.w_itT, PD.w_itt, PD.w_itV, PD.w_itv, PD.w_rng1, PD.w_rng1', PD.w_rng2, PD.w_rng2', PD.w_lrg1, PD.w_lrg1', PD.w_sl, PD.w_no, PD.w_part, PD.w_part', PD.w_newD, PD.w_putD, PD.w_inD, PD.w_getD, PD.w_maxD, PD.w_count, PD.w_for, PD.w_hSet, PD.w_appPop, PD.w_apD, forgetE, owL, putL, owD, putOD, frzE, initE, noPm, wipeE, sizeLine_eq, List.getElem?_cons_zero, List.getElem?_cons_succ, List.set_cons_zero, List.set_cons_succ, List.map_cons, List.map_nil, List.length_cons, List.length_nil, List.replicate, List.cons_append, List.nil_append, Option.bind_some, Option.bind_none, Option.map_some, Option.map_none, ite_true, ite_false, if_true, if_false, reduceCtorEq, Nat.reduceAdd, Nat.reduceSub, Nat.reduceLeDiff, Bool.and_true, Bool.true_and, Bool.and_false, Bool.false_and, Bool.or_true, Bool.true_or, Bool.or_false, Bool.false_or, Bool.not_true, Bool.not_false, decide_true, decide_false, Bool.false_eq_true, Int.reduceEq, Int.reduceBEq, Option.isSome_some, Option.isSome_none, List.all_cons, List.all_nil, and_self, and_true, true_and, d1, h1]
    simp only [PD.v_bind_ok, PD.v_bind_exc, PD.v_bind_stuck, PD.v_bindS_ok, PD.v_bindS_exc, PD.v_bindS_stuck, PD.v_of_some, PD.v_of_none, PD.v_seq_nx, PD.v_seq_rt, PD.v_seq_rn, PD.v_seq_bk, PD.v_seq_ct, PD.v_seq_exc, PD.v_seq_stuck, PD.v_ifS, PD.v_sel_t, PD.v_sel_f, PD.v_sel_exc, PD.v_sel_stuck, PD.v_if, PD.v_and, PD.v_or, PD.v_selR_t, PD.v_selR_f, PD.v_selR_exc, PD.v_selR_stuck, PD.v_not, PD.v_notR, PD.v_notR_exc, PD.v_test, PD.v_testR, PD.v_testR_exc, PD.v_andV, PD.v_orV, PD.v_selV_t, PD.v_selV_f, PD.v_notV, PD.v_notV', PD.v_chain, PD.v_chain_t, PD.v_chain_f, PD.v_add_i, PD.v_add_s, PD.v_add_l, PD.v_add_t, PD.v_cat, PD.v_sub, PD.v_mul, PD.v_div, PD.v_mod, PD.v_pow, PD.v_neg, PD.v_cmp, PD.v_eq_ii, PD.v_eq_bb, PD.v_eq_ss, PD.v_eq_nn, PD.v_ne_ii, PD.v_ne_bb, PD.v_ne_ss, PD.v_eq_ll, PD.v_eq_tt, PD.v_ne_ll, PD.v_ne_tt, PD.v_eq0, PD.v_in_t, PD.v_in_l, PD.v_flat_i, PD.v_flat_s, PD.v_flat_b, PD.v_flat_n, PD.v_isB, PD.v_isN_n, PD.v_isN_i, PD.v_isN_t, PD.v_isN_l, PD.v_isN_s, PD.v_ix_l, PD.v_ix_t, PD.v_ix_s, PD.v_slN, PD.v_slV_l, PD.v_slV_t, PD.v_slV_s, PD.v_len_l, PD.v_len_t, PD.v_len_s, PD.v_len_d, PD.v_list_l, PD.v_list_t, PD.v_tuple_l, PD.v_tuple_t, PD.v_sorted, PD.v_seqOf_l, PD.v_seqOf_t, PD.v_keyOf_i, PD.v_keyOf_s, PD.v_data_l, PD.v_data_d, PD.v_isi, PD.v_isi_int, PD.v_isi_bool, PD.v_isi_str, PD.v_isi_list, PD.v_isi_tuple, PD.i_int_i, PD.i_bool_i, PD.i_tuple_i, PD.i_tuple_t, PD.i_int_t, PD.i_list_l, PD.i_str_s, PD.i_bool_b, PD.v_hTup, PD.v_hCons, PD.v_hNil, PD.w_seq, PD.w_asg, PD.w_outO_s, PD.w_outO_n, PD.w_ret, PD.w_retN, PD.w_retV, PD.w_ret0, PD.w_V, PD.w_Vr, PD.w_C, PD.w_op, PD.w_un, PD.w_CB, PD.w_cons, PD.w_nil, PD.w_tup, PD.w_lst, PD.w_ob, PD.w_call, PD.w_new, PD.w_app, PD.w_ext, PD.w_pop, PD.w_popD, PD.w_putAt, PD.w_aug, PD.w_frz, PD.w_ahead, PD.w_forget, PD.w_forO_nx, PD.w_forO_bk, PD.w_forO_ct, PD.w_forO_rt, PD.w_forO_rn, PD.w_forO_exc, PD.w_drop, PD.w_next, PD.w_bk, PD.w_ct, PD.w_exc, PD.w_lc, PD.w_itL, PD.w_itl, PD.w_itT, PD.w_itt, PD.w_itV, PD.w_itv, PD.w_rng1, PD.w_rng1', PD.w_rng2, PD.w_rng2', PD.w_lrg1, PD.w_lrg1', PD.w_sl, PD.w_no, PD.w_part, PD.w_part', PD.w_newD, PD.w_putD, PD.w_inD, PD.w_getD, PD.w_maxD, PD.w_count, PD.w_for, PD.w_hSet, PD.w_appPop, PD.w_apD, forgetE, owL, putL, owD, putOD, frzE, initE, noPm, wipeE, sizeLine_eq, List.getElem?_cons_zero, List.getElem?_cons_succ, List.set_cons_zero, List.set_cons_succ, List.map_cons, List.map_nil, List.length_cons, List.length_nil, List.replicate, List.cons_append, List.nil_append, Option.bind_some, Option.bind_none, Option.map_some, Option.map_none, ite_true, ite_false, if_true, if_false, reduceCtorEq, Nat.reduceAdd, Nat.reduceSub, Nat.reduceLeDiff, Bool.and_true, Bool.true_and, Bool.and_false, Bool.false_and, Bool.or_true, Bool.true_or, Bool.or_false, Bool.false_or, Bool.not_true, Bool.not_false, decide_true, decide_false, Bool.false_eq_true, Int.reduceEq, Int.reduceBEq, Option.isSome_some, Option.isSome_none, List.all_cons, List.all_nil, and_self, and_true, true_and, q]
    exact law_1 s t ms h hw cs
theorem law_2 (s : D) (t : D) : ∀ ds : List D, (∀ d ∈ ds, wt d ≤ 10000) → forF (hSet 3) B_law_2 ds [.fr s, .fr t, .un, .un] = .nx [.fr s, .fr t, .un, .un]
  | [], _ => rfl
  | d :: ds, h => by
    have h1 := ev_asked d (h d List.mem_cons_self)
    unfold forF
    have q : B_law_2 [.fr s, .fr t, .un, .fr d] = .nx [.fr s, .fr t, .un, .un] := by
      unfold B_law_2
      simp only [PD.v_bind_ok, PD.v_bind_exc, PD.v_bind_stuck, PD.v_bindS_ok, PD.v_bindS_exc, PD.v_bindS_stuck, PD.v_of_some, PD.v_of_none, PD.v_seq_nx, PD.v_seq_rt, PD.v_seq_rn, PD.v_seq_bk, PD.v_seq_ct, PD.v_seq_exc, PD.v_seq_stuck, PD.v_ifS, PD.v_sel_t, PD.v_sel_f, PD.v_sel_exc, PD.v_sel_stuck, PD.v_if, PD.v_and, PD.v_or, PD.v_selR_t, PD.v_selR_f, PD.v_selR_exc, PD.v_selR_stuck, PD.v_not, PD.v_notR, PD.v_notR_exc, PD.v_test, PD.v_testR, PD.v_testR_exc, PD.v_andV, PD.v_orV, PD.v_selV_t, PD.v_selV_f, PD.v_notV, PD.v_notV', PD.v_chain, PD.v_chain_t, PD.v_chain_f, PD.v_add_i, PD.v_add_s, PD.v_add_l, PD.v_add_t, PD.v_cat, PD.v_sub, PD.v_mul, PD.v_div, PD.v_mod, PD.v_pow, PD.v_neg, PD.v_cmp, PD.v_eq_ii, PD.v_eq_bb, PD.v_eq_ss, PD.v_eq_nn, PD.v_ne_ii, PD.v_ne_bb, PD.v_ne_ss, PD.v_eq_ll, PD.v_eq_tt, PD.v_ne_ll, PD.v_ne_tt, PD.v_eq0, PD.v_in_t, PD.v_in_l, PD.v_flat_i, PD.v_flat_s, PD.v_flat_b, PD.v_flat_n, PD.v_isB, PD.v_isN_n, PD.v_isN_i, PD.v_isN_t, PD.v_isN_l, PD.v_isN_s, PD.v_ix_l, PD.v_ix_t, PD.v_ix_s, PD.v_slN, PD.v_slV_l, PD.v_slV_t, PD.v_slV_s, PD.v_len_l, PD.v_len_t, PD.v_len_s, PD.v_len_d, PD.v_list_l, PD.v_list_t, PD.v_tuple_l, PD.v_tuple_t, PD.v_sorted, PD.v_seqOf_l, PD.v_seqOf_t, PD.v_keyOf_i, PD.v_keyOf_s, PD.v_data_l, PD.v_data_d, PD.v_isi, PD.v_isi_int, PD.v_isi_bool, PD.v_isi_str, PD.v_isi_list, PD.v_isi_tuple, PD.i_int_i, PD.i_bool_i, PD.i_tuple_i, PD.i_tuple_t, PD.i_int_t, PD.i_list_l, PD.i_str_s, PD.i_bool_b, PD.v_hTup, PD.v_hCons, PD.v_hNil, PD.w_seq, PD.w_asg, PD.w_outO_s, PD.w_outO_n, PD.w_ret, PD.w_retN, PD.w_retV, PD.w_ret0, PD.w_V, PD.w_Vr, PD.w_C, PD.w_op, PD.w_un, PD.w_CB, PD.w_cons, PD.w_nil, PD.w_tup, PD.w_lst, PD.w_ob, PD.w_call, PD.w_new, PD.w_app, PD.w_ext, PD.w_pop, PD.w_popD, PD.w_putAt, PD.w_aug, PD.w_frz, PD.w_ahead, PD.w_forget, PD.w_forO_nx, PD.w_forO_bk, PD.w_forO_ct, PD.w_forO_rt, PD.w_forO_rn, PD.w_forO_exc, PD.w_drop, PD.w_next, PD.w_bk, PD.w_ct, PD.w_exc, PD.w_lc, PD.w_itL, PD.w_itl, PD.w_itT, PD.w_itt, PD.w_itV, PD.w_itv, PD.w_rng1, PD.w_rng1', PD.w_rng2, PD.w_rng2', PD.w_lrg1, PD.w_lrg1', PD.w_sl, PD.w_no, PD.w_part, PD.w_part', PD.w_newD, PD.w_putD, PD.w_inD, PD.w_getD, PD.w_maxD, PD.w_count, PD.w_for, PD.w_hSet, PD.w_appPop, PD.w_apD, forgetE, owL, putL, owD, putOD, frzE, initE, noPm, wipeE, sizeLine_eq, List.getElem?_cons_zero, List.getElem?_cons_succ, List.set_cons_zero, List.set_cons_succ, List.map_cons, List.map_nil, List.length_cons, List.length_nil, List.replicate, List.cons_append, List.nil_append, Option.bind_some, Option.bind_none, Option.map_some, Option.map_none, ite_true, ite_false, if_true, if_false, reduceCtorEq, Nat.reduceAdd, Nat.reduceSub, Nat.reduceLeDiff, Bool.and_true, Bool.true_and, Bool.and_false, Bool.false_and, Bool.or_true, Bool.true_or, Bool.or_false, Bool.false_or, Bool.not_true, Bool.not_false, decide_true, decide_false, Bool.false_eq_true, Int.reduceEq, Int.reduceBEq, Option.isSome_some, Option.isSome_none, List.all_cons, List.all_nil, and_self, and_true, true_and, h1]
    simp only [PD.v_bind_ok, PD.v_bind_exc, PD.v_bind_stuck, PD.v_bindS_ok, PD.v_bindS_exc, PD.v_bindS_stuck, PD.v_of_some, PD.v_of_none, PD.v_seq_nx, PD.v_seq_rt, PD.v_seq_rn, PD.v_seq_bk, PD.v_seq_ct, PD.v_seq_exc, PD.v_seq_stuck, PD.v_ifS, PD.v_sel_t, PD.v_sel_f, PD.v_sel_exc, PD.v_sel_stuck, PD.v_if, PD.v_and, PD.v_or, PD.v_selR_t, PD.v_selR_f, PD.v_selR_exc, PD.v_selR_stuck, PD.v_not, PD.v_notR, PD.v_notR_exc, PD.v_test, PD.v_testR, PD.v_testR_exc, PD.v_andV, PD.v_orV, PD.v_selV_t, PD.v_selV_f, PD.v_notV, PD.v_notV', PD.v_chain, PD.v_chain_t, PD.v_chain_f, PD.v_add_i, PD.v_add_s, PD.v_add_l, PD.v_add_t, PD.v_cat, PD.v_sub, PD.v_mul, PD.v_div, PD.v_mod, PD.v_pow, PD.v_neg, PD.v_cmp, PD.v_eq_ii, PD.v_eq_bb, PD.v_eq_ss, PD.v_eq_nn, PD.v_ne_ii, PD.v_ne_bb, PD.v_ne_ss, PD.v_eq_ll, PD.v_eq_tt, PD.v_ne_ll, PD.v_ne_tt, PD.v_eq0, PD.v_in_t, PD.v_in_l, PD.v_flat_i, PD.v_flat_s, PD.v_flat_b, PD.v_flat_n, PD.v_isB, PD.v_isN_n, PD.v_isN_i, PD.v_isN_t, PD.v_isN_l, PD.v_isN_s, PD.v_ix_l, PD.v_ix_t, PD.v_ix_s, PD.v_slN, PD.v_slV_l, PD.v_slV_t, PD.v_slV_s, PD.v_len_l, PD.v_len_t, PD.v_len_s, PD.v_len_d, PD.v_list_l, PD.v_list_t, PD.v_tuple_l, PD.v_tuple_t, PD.v_sorted, PD.v_seqOf_l, PD.v_seqOf_t, PD.v_keyOf_i, PD.v_keyOf_s, PD.v_data_l, PD.v_data_d, PD.v_isi, PD.v_isi_int, PD.v_isi_bool, PD.v_isi_str, PD.v_isi_list, PD.v_isi_tuple, PD.i_int_i, PD.i_bool_i, PD.i_tuple_i, PD.i_tuple_t, PD.i_int_t, PD.i_list_l, PD.i_str_s, PD.i_bool_b, PD.v_hTup, PD.v_hCons, PD.v_hNil, PD.w_seq, PD.w_asg, PD.w_outO_s, PD.w_outO_n, PD.w_ret, PD.w_retN, PD.w_retV, PD.w_ret0, PD.w_V, PD.w_Vr, PD.w_C, PD.w_op, PD.w_un, PD.w_CB, PD.w_cons, PD.w_nil, PD.w_tup, PD.w_lst, PD.w_ob, PD.w_call, PD.w_new, PD.w_app, PD.w_ext, PD.w_pop, PD.w_popD, PD.w_putAt, PD.w_aug, PD.w_frz, PD.w_ahead, PD.w_forget, PD.w_forO_nx, PD.w_forO_bk, PD.w_forO_ct, PD.w_forO_rt, PD.w_forO_rn, PD.w_forO_exc, PD.w_drop, PD.w_next, PD.w_bk, PD.w_ct, PD.w_exc, PD.w_lc, PD.w_itL, PD.w_itl, PD.w_itT, PD.w_itt, PD.w_itV, PD.w_itv, PD.w_rng1, PD.w_rng1', PD.w_rng2, PD.w_rng2', PD.w_lrg1, PD.w_lrg1', PD.w_sl, PD.w_no, PD.w_part, PD.w_part', PD.w_newD, PD.w_putD, PD.w_inD, PD.w_getD, PD.w_maxD, PD.w_count, PD.w_for, PD.w_hSet, PD.w_appPop, PD.w_apD, forgetE, owL, putL, owD, putOD, frzE, initE, noPm, wipeE, sizeLine_eq, List.getElem?_cons_zero, List.getElem?_cons_succ, List.set_cons_zero, List.set_cons_succ, List.map_cons, List.map_nil, List.length_cons, List.length_nil, List.replicate, List.cons_append, List.nil_append, Option.bind_some, Option.bind_none, Option.map_some, Option.map_none, ite_true, ite_false, if_true, if_false, reduceCtorEq, Nat.reduceAdd, Nat.reduceSub, Nat.reduceLeDiff, Bool.and_true, Bool.true_and, Bool.and_false, Bool.false_and, Bool.or_true, Bool.true_or, Bool.or_false, Bool.false_or, Bool.not_true, Bool.not_false, decide_true, decide_false, Bool.false_eq_true, Int.reduceEq, Int.reduceBEq, Option.isSome_some, Option.isSome_none, List.all_cons, List.all_nil, and_self, and_true, true_and, q]
    exact law_2 s t ds fun x hx => h x (List.mem_cons_of_mem _ hx)
theorem law_true (ns : List Int) (hl : ns.length ≤ 63) (hb : ∀ z ∈ ns, Builtin.Int.intBits z ≤ 1048576) : f_law [.list (ns.map PyData.int)] = .ok (.bool true) := by
  have ec := cut_mid (ns.map PyData.int) 2 25
  rw [← List.map_drop, ← List.map_take] at ec
  have hsub : ∀ c ∈ (ns.drop 2).take (25 - 2), c ∈ ns := fun c hc => List.mem_of_mem_drop (List.mem_of_mem_take hc)
  obtain ⟨t, ms, t1, t2, t3, t4⟩ := ev_law_tree ((ns.drop 2).take (25 - 2)) (by rw [List.length_take]; omega) fun c hc => hb c (hsub c hc)
  obtain ⟨y1, y2⟩ := tree_yes t2 t3 (by rw [List.length_take]; omega) (by omega)
  have hbx := ev_boxes t (by omega) y1
  have hlv : lv t = ((ns.drop 2).take (25 - 2)).length + 1 := by rw [lv_tr t2, t3.length_eq, rgI_len]
  rw [hlv] at hbx
  have hask := ev_asked t (by omega)
  obtain ⟨c0, g0⟩ := ev_cell_at ns 0
  obtain ⟨c1, g1⟩ := ev_cell_at ns 1
  obtain ⟨c2, g2⟩ := ev_cell_at ns 25
  have l1 := law_1 (.list (ns.map .int)) t ms t2 (by omega) [c0, c1, c2]
  simp only [List.map_cons, List.map_nil] at l1
  have l2 := law_2 (.list (ns.map .int)) t [.list [t], .tuple [t], .tuple [.str "|", .list [.int 0, .int 1]], .tuple [.int 0, .int 1], .none, .str "0", .int 1, .bool true, .list [], .dict []] (by
    simp only [List.forall_mem_cons, wt, wtL]
    refine ⟨by omega, by omega, by omega, by omega, by omega, by omega, by omega, by omega, by omega, by omega, fun d h => by cases h⟩)
  unfold f_law funT F_law
  have z0 : (((0 : Nat) : Nat) : Int) = 0 := rfl
  have z1 : (((1 : Nat) : Nat) : Int) = 1 := rfl
  have z2 : (((25 : Nat) : Nat) : Int) = 25 := rfl
  have z3 : (((2 : Nat) : Nat) : Int) = 2 := rfl
  rw [z0] at g0
  rw [z1] at g1
  rw [z2] at g2
  rw [z2, z3] at ec
  have hn : ((((ns.drop 2).take (25 - 2)).length + 1 : Nat) : Int) = ((((ns.drop 2).take (25 - 2)).length : Nat) : Int) + 1 := by omega
  rw [hn] at hbx
  simp only [PD.v_bind_ok, PD.v_bind_exc, PD.v_bind_stuck, PD.v_bindS_ok, PD.v_bindS_exc, PD.v_bindS_stuck, PD.v_of_some, PD.v_of_none, PD.v_seq_nx, PD.v_seq_rt, PD.v_seq_rn, PD.v_seq_bk, PD.v_seq_ct, PD.v_seq_exc, PD.v_seq_stuck, PD.v_ifS, PD.v_sel_t, PD.v_sel_f, PD.v_sel_exc, PD.v_sel_stuck, PD.v_if, PD.v_and, PD.v_or, PD.v_selR_t, PD.v_selR_f, PD.v_selR_exc, PD.v_selR_stuck, PD.v_not, PD.v_notR, PD.v_notR_exc, PD.v_test, PD.v_testR, PD.v_testR_exc, PD.v_andV, PD.v_orV, PD.v_selV_t, PD.v_selV_f, PD.v_notV, PD.v_notV', PD.v_chain, PD.v_chain_t, PD.v_chain_f, PD.v_add_i, PD.v_add_s, PD.v_add_l, PD.v_add_t, PD.v_cat, PD.v_sub, PD.v_mul, PD.v_div, PD.v_mod, PD.v_pow, PD.v_neg, PD.v_cmp, PD.v_eq_ii, PD.v_eq_bb, PD.v_eq_ss, PD.v_eq_nn, PD.v_ne_ii, PD.v_ne_bb, PD.v_ne_ss, PD.v_eq_ll, PD.v_eq_tt, PD.v_ne_ll, PD.v_ne_tt, PD.v_eq0, PD.v_in_t, PD.v_in_l, PD.v_flat_i, PD.v_flat_s, PD.v_flat_b, PD.v_flat_n, PD.v_isB, PD.v_isN_n, PD.v_isN_i, PD.v_isN_t, PD.v_isN_l, PD.v_isN_s, PD.v_ix_l, PD.v_ix_t, PD.v_ix_s, PD.v_slN, PD.v_slV_l, PD.v_slV_t, PD.v_slV_s, PD.v_len_l, PD.v_len_t, PD.v_len_s, PD.v_len_d, PD.v_list_l, PD.v_list_t, PD.v_tuple_l, PD.v_tuple_t, PD.v_sorted, PD.v_seqOf_l, PD.v_seqOf_t, PD.v_keyOf_i, PD.v_keyOf_s, PD.v_data_l, PD.v_data_d, PD.v_isi, PD.v_isi_int, PD.v_isi_bool, PD.v_isi_str, PD.v_isi_list, PD.v_isi_tuple, PD.i_int_i, PD.i_bool_i, PD.i_tuple_i, PD.i_tuple_t, PD.i_int_t, PD.i_list_l, PD.i_str_s, PD.i_bool_b, PD.v_hTup, PD.v_hCons, PD.v_hNil, PD.w_seq, PD.w_asg, PD.w_outO_s, PD.w_outO_n, PD.w_ret, PD.w_retN, PD.w_retV, PD.w_ret0, PD.w_V, PD.w_Vr, PD.w_C, PD.w_op, PD.w_un, PD.w_CB, PD.w_cons, PD.w_nil, PD.w_tup, PD.w_lst, PD.w_ob, PD.w_call, PD.w_new, PD.w_app, PD.w_ext, PD.w_pop, PD.w_popD, PD.w_putAt, PD.w_aug, PD.w_frz, PD.w_ahead, PD.w_forget, PD.w_forO_nx, PD.w_forO_bk, PD.w_forO_ct, PD.w_forO_rt, PD.w_forO_rn, PD.w_forO_exc, PD.w_drop, PD.w_next, PD.w_bk, PD.w_ct, PD.w_exc, PD.w_lc, PD.w_itL, PD.w_itl, PD.w_itT, PD.w_itt, PD.w_itV, PD.w_itv, PD.w_rng1, PD.w_rng1', PD.w_rng2, PD.w_rng2', PD.w_lrg1, PD.w_lrg1', PD.w_sl, PD.w_no, PD.w_part, PD.w_part', PD.w_newD, PD.w_putD, PD.w_inD, PD.w_getD, PD.w_maxD, PD.w_count, PD.w_for, PD.w_hSet, PD.w_appPop, PD.w_apD, forgetE, owL, putL, owD, putOD, frzE, initE, noPm, wipeE, sizeLine_eq, List.getElem?_cons_zero, List.getElem?_cons_succ, List.set_cons_zero, List.set_cons_succ, List.map_cons, List.map_nil, List.length_cons, List.length_nil, List.replicate, List.cons_append, List.nil_append, Option.bind_some, Option.bind_none, Option.map_some, Option.map_none, ite_true, ite_false, if_true, if_false, reduceCtorEq, Nat.reduceAdd, Nat.reduceSub, Nat.reduceLeDiff, Bool.and_true, Bool.true_and, Bool.and_false, Bool.false_and, Bool.or_true, Bool.true_or, Bool.or_false, Bool.false_or, Bool.not_true, Bool.not_false, decide_true, decide_false, Bool.false_eq_true, Int.reduceEq, Int.reduceBEq, Option.isSome_some, Option.isSome_none, List.all_cons, List.all_nil, and_self, and_true, true_and, ec, t1, hbx, hask, g0, g1, g2, l1, l2, List.length_map, beq_self_eq_true]

end K33

set_option Elab.async false
set_option linter.all false
set_option maxRecDepth 100000
set_option maxHeartbeats 1000000
namespace K33
open PySem PySem.Spec PyProof.Rows L2 PD
def clOf (C0 C1 C2 C3 C4 C5 C6 C7 C8 C9 : Addr) (x : Str) : Addr := if x = "NoNeeds" then C0 else if x = "NoNumber" then C1 else if x = "NoPage" then C2 else if x = "NoPicture" then C3 else if x = "NoPlace" then C4 else if x = "NoRoom" then C5 else if x = "NoRow" then C6 else if x = "NoTexts" then C7 else if x = "NoTree" then C8 else if x = "PartError" then C9 else 0
theorem cl_NoNeeds {C0 C1 C2 C3 C4 C5 C6 C7 C8 C9 : Addr} : clOf C0 C1 C2 C3 C4 C5 C6 C7 C8 C9 "NoNeeds" = C0 := by unfold clOf; repeat (first | rw [if_pos rfl] | rw [if_neg (by decide)])
theorem cl_NoNumber {C0 C1 C2 C3 C4 C5 C6 C7 C8 C9 : Addr} : clOf C0 C1 C2 C3 C4 C5 C6 C7 C8 C9 "NoNumber" = C1 := by unfold clOf; repeat (first | rw [if_pos rfl] | rw [if_neg (by decide)])
theorem cl_NoPage {C0 C1 C2 C3 C4 C5 C6 C7 C8 C9 : Addr} : clOf C0 C1 C2 C3 C4 C5 C6 C7 C8 C9 "NoPage" = C2 := by unfold clOf; repeat (first | rw [if_pos rfl] | rw [if_neg (by decide)])
theorem cl_NoPicture {C0 C1 C2 C3 C4 C5 C6 C7 C8 C9 : Addr} : clOf C0 C1 C2 C3 C4 C5 C6 C7 C8 C9 "NoPicture" = C3 := by unfold clOf; repeat (first | rw [if_pos rfl] | rw [if_neg (by decide)])
theorem cl_NoPlace {C0 C1 C2 C3 C4 C5 C6 C7 C8 C9 : Addr} : clOf C0 C1 C2 C3 C4 C5 C6 C7 C8 C9 "NoPlace" = C4 := by unfold clOf; repeat (first | rw [if_pos rfl] | rw [if_neg (by decide)])
theorem cl_NoRoom {C0 C1 C2 C3 C4 C5 C6 C7 C8 C9 : Addr} : clOf C0 C1 C2 C3 C4 C5 C6 C7 C8 C9 "NoRoom" = C5 := by unfold clOf; repeat (first | rw [if_pos rfl] | rw [if_neg (by decide)])
theorem cl_NoRow {C0 C1 C2 C3 C4 C5 C6 C7 C8 C9 : Addr} : clOf C0 C1 C2 C3 C4 C5 C6 C7 C8 C9 "NoRow" = C6 := by unfold clOf; repeat (first | rw [if_pos rfl] | rw [if_neg (by decide)])
theorem cl_NoTexts {C0 C1 C2 C3 C4 C5 C6 C7 C8 C9 : Addr} : clOf C0 C1 C2 C3 C4 C5 C6 C7 C8 C9 "NoTexts" = C7 := by unfold clOf; repeat (first | rw [if_pos rfl] | rw [if_neg (by decide)])
theorem cl_NoTree {C0 C1 C2 C3 C4 C5 C6 C7 C8 C9 : Addr} : clOf C0 C1 C2 C3 C4 C5 C6 C7 C8 C9 "NoTree" = C8 := by unfold clOf; repeat (first | rw [if_pos rfl] | rw [if_neg (by decide)])
theorem cl_PartError {C0 C1 C2 C3 C4 C5 C6 C7 C8 C9 : Addr} : clOf C0 C1 C2 C3 C4 C5 C6 C7 C8 C9 "PartError" = C9 := by unfold clOf; repeat (first | rw [if_pos rfl] | rw [if_neg (by decide)])
section
theorem txt_mk {K : PySem.W.Frag} {h : Heap} {mg : Str → Option Value} {C0 C1 C2 C3 C4 C5 C6 C7 C8 C9 : Addr} (X : K.In h) (G : h.Ns mainGlobals mg)
    {f1 : Addr} {oc1 kV1 dc1 pm1 cd1 ct1 : Value} {od1 an1 : Option Addr} {sl1 : Array (Option Value)}
    (a1 : PySem.W.nsIn K mainGlobals "is_whole" = some (some (.ref f1))) (l1 : K.lookup f1 = some ⟨oc1, od1, .func (PySem.W.fnOf "is_whole" "is_whole" (defArgs s_is_whole) (defBody s_is_whole) (defScope s_is_whole) .none kV1 dc1 pm1 an1 cd1 ct1), sl1⟩) (c1 : PySem.W.codeIn K cd1 "is_whole" = true) (k1 : PySem.W.keepIn K (.ref f1) = true)
    {f2 : Addr} {oc2 kV2 dc2 pm2 cd2 ct2 : Value} {od2 an2 : Option Addr} {sl2 : Array (Option Value)}
    (a2 : PySem.W.nsIn K mainGlobals "is_tree" = some (some (.ref f2))) (l2 : K.lookup f2 = some ⟨oc2, od2, .func (PySem.W.fnOf "is_tree" "is_tree" (defArgs s_is_tree) (defBody s_is_tree) (defScope s_is_tree) .none kV2 dc2 pm2 an2 cd2 ct2), sl2⟩) (c2 : PySem.W.codeIn K cd2 "is_tree" = true) (k2 : PySem.W.keepIn K (.ref f2) = true)
    {f3 : Addr} {oc3 kV3 dc3 pm3 cd3 ct3 : Value} {od3 an3 : Option Addr} {sl3 : Array (Option Value)}
    (a3 : PySem.W.nsIn K mainGlobals "need_tree" = some (some (.ref f3))) (l3 : K.lookup f3 = some ⟨oc3, od3, .func (PySem.W.fnOf "need_tree" "need_tree" (defArgs s_need_tree) (defBody s_need_tree) (defScope s_need_tree) .none kV3 dc3 pm3 an3 cd3 ct3), sl3⟩) (c3 : PySem.W.codeIn K cd3 "need_tree" = true) (k3 : PySem.W.keepIn K (.ref f3) = true)
    {f4 : Addr} {oc4 kV4 dc4 pm4 cd4 ct4 : Value} {od4 an4 : Option Addr} {sl4 : Array (Option Value)}
    (a4 : PySem.W.nsIn K mainGlobals "count_boxes" = some (some (.ref f4))) (l4 : K.lookup f4 = some ⟨oc4, od4, .func (PySem.W.fnOf "count_boxes" "count_boxes" (defArgs s_count_boxes) (defBody s_count_boxes) (defScope s_count_boxes) .none kV4 dc4 pm4 an4 cd4 ct4), sl4⟩) (c4 : PySem.W.codeIn K cd4 "count_boxes" = true) (k4 : PySem.W.keepIn K (.ref f4) = true)
    {f5 : Addr} {oc5 kV5 dc5 pm5 cd5 ct5 : Value} {od5 an5 : Option Addr} {sl5 : Array (Option Value)}
    (a5 : PySem.W.nsIn K mainGlobals "boxes_of" = some (some (.ref f5))) (l5 : K.lookup f5 = some ⟨oc5, od5, .func (PySem.W.fnOf "boxes_of" "boxes_of" (defArgs s_boxes_of) (defBody s_boxes_of) (defScope s_boxes_of) .none kV5 dc5 pm5 an5 cd5 ct5), sl5⟩) (c5 : PySem.W.codeIn K cd5 "boxes_of" = true) (k5 : PySem.W.keepIn K (.ref f5) = true)
    {f6 : Addr} {oc6 kV6 dc6 pm6 cd6 ct6 : Value} {od6 an6 : Option Addr} {sl6 : Array (Option Value)}
    (a6 : PySem.W.nsIn K mainGlobals "written" = some (some (.ref f6))) (l6 : K.lookup f6 = some ⟨oc6, od6, .func (PySem.W.fnOf "written" "written" (defArgs s_written) (defBody s_written) (defScope s_written) .none kV6 dc6 pm6 an6 cd6 ct6), sl6⟩) (c6 : PySem.W.codeIn K cd6 "written" = true) (k6 : PySem.W.keepIn K (.ref f6) = true)
    {f7 : Addr} {oc7 kV7 dc7 pm7 cd7 ct7 : Value} {od7 an7 : Option Addr} {sl7 : Array (Option Value)}
    (a7 : PySem.W.nsIn K mainGlobals "show_tree" = some (some (.ref f7))) (l7 : K.lookup f7 = some ⟨oc7, od7, .func (PySem.W.fnOf "show_tree" "show_tree" (defArgs s_show_tree) (defBody s_show_tree) (defScope s_show_tree) .none kV7 dc7 pm7 an7 cd7 ct7), sl7⟩) (c7 : PySem.W.codeIn K cd7 "show_tree" = true) (k7 : PySem.W.keepIn K (.ref f7) = true)
    {f8 : Addr} {oc8 kV8 dc8 pm8 cd8 ct8 : Value} {od8 an8 : Option Addr} {sl8 : Array (Option Value)}
    (a8 : PySem.W.nsIn K mainGlobals "_law_cell_at" = some (some (.ref f8))) (l8 : K.lookup f8 = some ⟨oc8, od8, .func (PySem.W.fnOf "_law_cell_at" "_law_cell_at" (defArgs s__law_cell_at) (defBody s__law_cell_at) (defScope s__law_cell_at) .none kV8 dc8 pm8 an8 cd8 ct8), sl8⟩) (c8 : PySem.W.codeIn K cd8 "_law_cell_at" = true) (k8 : PySem.W.keepIn K (.ref f8) = true)
    {f9 : Addr} {oc9 kV9 dc9 pm9 cd9 ct9 : Value} {od9 an9 : Option Addr} {sl9 : Array (Option Value)}
    (a9 : PySem.W.nsIn K mainGlobals "_law_whole" = some (some (.ref f9))) (l9 : K.lookup f9 = some ⟨oc9, od9, .func (PySem.W.fnOf "_law_whole" "_law_whole" (defArgs s__law_whole) (defBody s__law_whole) (defScope s__law_whole) .none kV9 dc9 pm9 an9 cd9 ct9), sl9⟩) (c9 : PySem.W.codeIn K cd9 "_law_whole" = true) (k9 : PySem.W.keepIn K (.ref f9) = true)
    {f10 : Addr} {oc10 kV10 dc10 pm10 cd10 ct10 : Value} {od10 an10 : Option Addr} {sl10 : Array (Option Value)}
    (a10 : PySem.W.nsIn K mainGlobals "_law_join" = some (some (.ref f10))) (l10 : K.lookup f10 = some ⟨oc10, od10, .func (PySem.W.fnOf "_law_join" "_law_join" (defArgs s__law_join) (defBody s__law_join) (defScope s__law_join) .none kV10 dc10 pm10 an10 cd10 ct10), sl10⟩) (c10 : PySem.W.codeIn K cd10 "_law_join" = true) (k10 : PySem.W.keepIn K (.ref f10) = true)
    {f11 : Addr} {oc11 kV11 dc11 pm11 cd11 ct11 : Value} {od11 an11 : Option Addr} {sl11 : Array (Option Value)}
    (a11 : PySem.W.nsIn K mainGlobals "_law_tree" = some (some (.ref f11))) (l11 : K.lookup f11 = some ⟨oc11, od11, .func (PySem.W.fnOf "_law_tree" "_law_tree" (defArgs s__law_tree) (defBody s__law_tree) (defScope s__law_tree) .none kV11 dc11 pm11 an11 cd11 ct11), sl11⟩) (c11 : PySem.W.codeIn K cd11 "_law_tree" = true) (k11 : PySem.W.keepIn K (.ref f11) = true)
    {f12 : Addr} {oc12 kV12 dc12 pm12 cd12 ct12 : Value} {od12 an12 : Option Addr} {sl12 : Array (Option Value)}
    (a12 : PySem.W.nsIn K mainGlobals "_law_is" = some (some (.ref f12))) (l12 : K.lookup f12 = some ⟨oc12, od12, .func (PySem.W.fnOf "_law_is" "_law_is" (defArgs s__law_is) (defBody s__law_is) (defScope s__law_is) .none kV12 dc12 pm12 an12 cd12 ct12), sl12⟩) (c12 : PySem.W.codeIn K cd12 "_law_is" = true) (k12 : PySem.W.keepIn K (.ref f12) = true)
    {f13 : Addr} {oc13 kV13 dc13 pm13 cd13 ct13 : Value} {od13 an13 : Option Addr} {sl13 : Array (Option Value)}
    (a13 : PySem.W.nsIn K mainGlobals "_law_knots" = some (some (.ref f13))) (l13 : K.lookup f13 = some ⟨oc13, od13, .func (PySem.W.fnOf "_law_knots" "_law_knots" (defArgs s__law_knots) (defBody s__law_knots) (defScope s__law_knots) .none kV13 dc13 pm13 an13 cd13 ct13), sl13⟩) (c13 : PySem.W.codeIn K cd13 "_law_knots" = true) (k13 : PySem.W.keepIn K (.ref f13) = true)
    {f14 : Addr} {oc14 kV14 dc14 pm14 cd14 ct14 : Value} {od14 an14 : Option Addr} {sl14 : Array (Option Value)}
    (a14 : PySem.W.nsIn K mainGlobals "_law_put" = some (some (.ref f14))) (l14 : K.lookup f14 = some ⟨oc14, od14, .func (PySem.W.fnOf "_law_put" "_law_put" (defArgs s__law_put) (defBody s__law_put) (defScope s__law_put) .none kV14 dc14 pm14 an14 cd14 ct14), sl14⟩) (c14 : PySem.W.codeIn K cd14 "_law_put" = true) (k14 : PySem.W.keepIn K (.ref f14) = true)
    {f15 : Addr} {oc15 kV15 dc15 pm15 cd15 ct15 : Value} {od15 an15 : Option Addr} {sl15 : Array (Option Value)}
    (a15 : PySem.W.nsIn K mainGlobals "_law_other" = some (some (.ref f15))) (l15 : K.lookup f15 = some ⟨oc15, od15, .func (PySem.W.fnOf "_law_other" "_law_other" (defArgs s__law_other) (defBody s__law_other) (defScope s__law_other) .none kV15 dc15 pm15 an15 cd15 ct15), sl15⟩) (c15 : PySem.W.codeIn K cd15 "_law_other" = true) (k15 : PySem.W.keepIn K (.ref f15) = true)
    {f16 : Addr} {oc16 kV16 dc16 pm16 cd16 ct16 : Value} {od16 an16 : Option Addr} {sl16 : Array (Option Value)}
    (a16 : PySem.W.nsIn K mainGlobals "_law_wrong" = some (some (.ref f16))) (l16 : K.lookup f16 = some ⟨oc16, od16, .func (PySem.W.fnOf "_law_wrong" "_law_wrong" (defArgs s__law_wrong) (defBody s__law_wrong) (defScope s__law_wrong) .none kV16 dc16 pm16 an16 cd16 ct16), sl16⟩) (c16 : PySem.W.codeIn K cd16 "_law_wrong" = true) (k16 : PySem.W.keepIn K (.ref f16) = true)
    {f17 : Addr} {oc17 kV17 dc17 pm17 cd17 ct17 : Value} {od17 an17 : Option Addr} {sl17 : Array (Option Value)}
    (a17 : PySem.W.nsIn K mainGlobals "_law_count" = some (some (.ref f17))) (l17 : K.lookup f17 = some ⟨oc17, od17, .func (PySem.W.fnOf "_law_count" "_law_count" (defArgs s__law_count) (defBody s__law_count) (defScope s__law_count) .none kV17 dc17 pm17 an17 cd17 ct17), sl17⟩) (c17 : PySem.W.codeIn K cd17 "_law_count" = true) (k17 : PySem.W.keepIn K (.ref f17) = true)
    {f18 : Addr} {oc18 kV18 dc18 pm18 cd18 ct18 : Value} {od18 an18 : Option Addr} {sl18 : Array (Option Value)}
    (a18 : PySem.W.nsIn K mainGlobals "_law_refused" = some (some (.ref f18))) (l18 : K.lookup f18 = some ⟨oc18, od18, .func (PySem.W.fnOf "_law_refused" "_law_refused" (defArgs s__law_refused) (defBody s__law_refused) (defScope s__law_refused) .none kV18 dc18 pm18 an18 cd18 ct18), sl18⟩) (c18 : PySem.W.codeIn K cd18 "_law_refused" = true) (k18 : PySem.W.keepIn K (.ref f18) = true)
    {f19 : Addr} {oc19 kV19 dc19 pm19 cd19 ct19 : Value} {od19 an19 : Option Addr} {sl19 : Array (Option Value)}
    (a19 : PySem.W.nsIn K mainGlobals "_law_asked" = some (some (.ref f19))) (l19 : K.lookup f19 = some ⟨oc19, od19, .func (PySem.W.fnOf "_law_asked" "_law_asked" (defArgs s__law_asked) (defBody s__law_asked) (defScope s__law_asked) .none kV19 dc19 pm19 an19 cd19 ct19), sl19⟩) (c19 : PySem.W.codeIn K cd19 "_law_asked" = true) (k19 : PySem.W.keepIn K (.ref f19) = true)
    {f20 : Addr} {oc20 kV20 dc20 pm20 cd20 ct20 : Value} {od20 an20 : Option Addr} {sl20 : Array (Option Value)}
    (a20 : PySem.W.nsIn K mainGlobals "law" = some (some (.ref f20))) (l20 : K.lookup f20 = some ⟨oc20, od20, .func (PySem.W.fnOf "law" "law" (defArgs s_law) (defBody s_law) (defScope s_law) .none kV20 dc20 pm20 an20 cd20 ct20), sl20⟩) (c20 : PySem.W.codeIn K cd20 "law" = true) (k20 : PySem.W.keepIn K (.ref f20) = true)
    (z1 : PySem.W.nsIn K mainGlobals "ValueError" = some none)
    (z2 : PySem.W.nsIn K mainGlobals "bool" = some none)
    (z3 : PySem.W.nsIn K mainGlobals "int" = some none)
    (z4 : PySem.W.nsIn K mainGlobals "isinstance" = some none)
    (z5 : PySem.W.nsIn K mainGlobals "len" = some none)
    (z6 : PySem.W.nsIn K mainGlobals "list" = some none)
    (z7 : PySem.W.nsIn K mainGlobals "max" = some none)
    (z8 : PySem.W.nsIn K mainGlobals "range" = some none)
    (z9 : PySem.W.nsIn K mainGlobals "reversed" = some none)
    (z10 : PySem.W.nsIn K mainGlobals "sorted" = some none)
    (z11 : PySem.W.nsIn K mainGlobals "str" = some none)
    (z12 : PySem.W.nsIn K mainGlobals "sum" = some none)
    (z13 : PySem.W.nsIn K mainGlobals "tuple" = some none)
    {t1 : Tok} (g1 : PySem.W.nsIn K mainGlobals "MOST_BOXES" = some (some (.int 24 t1)))
    (e0 : PySem.W.nsIn K mainGlobals "NoNeeds" = some (some (.ref C0)))
    (e1 : PySem.W.nsIn K mainGlobals "NoNumber" = some (some (.ref C1)))
    (e2 : PySem.W.nsIn K mainGlobals "NoPage" = some (some (.ref C2)))
    (e3 : PySem.W.nsIn K mainGlobals "NoPicture" = some (some (.ref C3)))
    (e4 : PySem.W.nsIn K mainGlobals "NoPlace" = some (some (.ref C4)))
    (e5 : PySem.W.nsIn K mainGlobals "NoRoom" = some (some (.ref C5)))
    (e6 : PySem.W.nsIn K mainGlobals "NoRow" = some (some (.ref C6)))
    (e7 : PySem.W.nsIn K mainGlobals "NoTexts" = some (some (.ref C7)))
    (e8 : PySem.W.nsIn K mainGlobals "NoTree" = some (some (.ref C8)))
    (e9 : PySem.W.nsIn K mainGlobals "PartError" = some (some (.ref C9)))
    (xq8 : PySem.W.excIn K C8 [.type "ValueError", .type "Exception", .type "BaseException", .type "object"] "ValueError.__new__" = true)
    (xk8 : PySem.W.keepIn K (.ref C8) = true)
    (xb8 : PySem.W.subIn K (.ref C8) (.type "BaseException") = some true)
    (xt8 : PySem.W.typeIn K (.ref C8) = some (.type "type"))
    (hn : PySem.W.specialIn K (.builtin "object.__class__") "__get__" = some (some (.builtin "getset_descriptor.__get__")))
    (ht : PySem.W.takesIn K (.builtin "object.__class__") = some true)
    (pb : PySem.W.subIn K (.ref C9) (.type "BaseException") = some true)
    (pd : PySem.W.hasDictIn K C9 = true)
    (pt : PySem.W.typeIn K (.ref C9) = some (.type "type"))
    (yg8 : PySem.W.findIn K (.ref C8) "__getattribute__" = some (some (.builtin "BaseException.__getattribute__")))
    (yk8 : PySem.W.findIn K (.ref C8) "__getattr__" = some none)
    (yd8 : PySem.W.hasDictIn K C8 = true)
    (ya8 : PySem.W.findIn K (.ref C8) "__class__" = some (some (.builtin "object.__class__")))
    (ym8 : PySem.W.mroIn K C8 (.type "object") = some true)
    (yp8 : PySem.W.subIn K (.ref C8) (.ref C9) = some true)
    (yv8 : PySem.W.kitOne K (.ref C8) (.type "ValueError") = some true)
    (yq8 : PySem.W.kitOne K (.ref C8) (.ref C9) = some true)
    (y8_0 : PySem.W.kitOne K (.ref C8) (.ref C0) = some false)
    (y8_1 : PySem.W.kitOne K (.ref C8) (.ref C1) = some false)
    (y8_2 : PySem.W.kitOne K (.ref C8) (.ref C2) = some false)
    (y8_3 : PySem.W.kitOne K (.ref C8) (.ref C3) = some false)
    (y8_4 : PySem.W.kitOne K (.ref C8) (.ref C4) = some false)
    (y8_5 : PySem.W.kitOne K (.ref C8) (.ref C5) = some false)
    (y8_6 : PySem.W.kitOne K (.ref C8) (.ref C6) = some false)
    (y8_7 : PySem.W.kitOne K (.ref C8) (.ref C7) = some false)
    (y8_8 : PySem.W.kitOne K (.ref C8) (.ref C8) = some true)
    : Txt K mg (clOf C0 C1 C2 C3 C4 C5 C6 C7 C8 C9) :=
  ⟨defAt_mk X G a1 l1 c1 k1 (fun us hl => match us, hl with | [_], _ => rfl),
   defAt_mk X G a2 l2 c2 k2 (fun us hl => match us, hl with | [_], _ => rfl),
   defAt_mk X G a3 l3 c3 k3 (fun us hl => match us, hl with | [_], _ => rfl),
   defAt_mk X G a4 l4 c4 k4 (fun us hl => match us, hl with | [_], _ => rfl),
   defAt_mk X G a5 l5 c5 k5 (fun us hl => match us, hl with | [_], _ => rfl),
   defAt_mk X G a6 l6 c6 k6 (fun us hl => match us, hl with | [_], _ => rfl),
   defAt_mk X G a7 l7 c7 k7 (fun us hl => match us, hl with | [_], _ => rfl),
   defAt_mk X G a8 l8 c8 k8 (fun us hl => match us, hl with | [_, _], _ => rfl),
   defAt_mk X G a9 l9 c9 k9 (fun us hl => match us, hl with | [_], _ => rfl),
   defAt_mk X G a10 l10 c10 k10 (fun us hl => match us, hl with | [_, _, _], _ => rfl),
   defAt_mk X G a11 l11 c11 k11 (fun us hl => match us, hl with | [_], _ => rfl),
   defAt_mk X G a12 l12 c12 k12 (fun us hl => match us, hl with | [_], _ => rfl),
   defAt_mk X G a13 l13 c13 k13 (fun us hl => match us, hl with | [_], _ => rfl),
   defAt_mk X G a14 l14 c14 k14 (fun us hl => match us, hl with | [_, _, _], _ => rfl),
   defAt_mk X G a15 l15 c15 k15 (fun us hl => match us, hl with | [_, _, _], _ => rfl),
   defAt_mk X G a16 l16 c16 k16 (fun us hl => match us, hl with | [_, _], _ => rfl),
   defAt_mk X G a17 l17 c17 k17 (fun us hl => match us, hl with | [_], _ => rfl),
   defAt_mk X G a18 l18 c18 k18 (fun us hl => match us, hl with | [_, _], _ => rfl),
   defAt_mk X G a19 l19 c19 k19 (fun us hl => match us, hl with | [_], _ => rfl),
   defAt_mk X G a20 l20 c20 k20 (fun us hl => match us, hl with | [_], _ => rfl),
   PySem.W.mg_none_of X G z1,
   PySem.W.mg_none_of X G z2,
   PySem.W.mg_none_of X G z3,
   PySem.W.mg_none_of X G z4,
   PySem.W.mg_none_of X G z5,
   PySem.W.mg_none_of X G z6,
   PySem.W.mg_none_of X G z7,
   PySem.W.mg_none_of X G z8,
   PySem.W.mg_none_of X G z9,
   PySem.W.mg_none_of X G z10,
   PySem.W.mg_none_of X G z11,
   PySem.W.mg_none_of X G z12,
   PySem.W.mg_none_of X G z13,
   ⟨t1, PySem.W.mg_of X G g1⟩,
   ⟨by rw [cl_NoTree]; exact xq8, by rw [cl_NoTree]; exact PySem.W.mg_of X G e8, by rw [cl_NoTree]; exact xk8, by rw [cl_NoTree]; exact xb8, by rw [cl_NoTree]; exact xt8⟩,
   by rw [cl_NoNeeds]; exact PySem.W.mg_of X G e0,
   by rw [cl_NoNumber]; exact PySem.W.mg_of X G e1,
   by rw [cl_NoPage]; exact PySem.W.mg_of X G e2,
   by rw [cl_NoPicture]; exact PySem.W.mg_of X G e3,
   by rw [cl_NoPlace]; exact PySem.W.mg_of X G e4,
   by rw [cl_NoRoom]; exact PySem.W.mg_of X G e5,
   by rw [cl_NoRow]; exact PySem.W.mg_of X G e6,
   by rw [cl_NoTexts]; exact PySem.W.mg_of X G e7,
   by rw [cl_NoTree]; exact PySem.W.mg_of X G e8,
   by rw [cl_PartError]; exact PySem.W.mg_of X G e9,
   (by
    intro c hc
    unfold SC at hc
    by_cases eNoTree : c = "NoTree"
    · subst eNoTree
      refine ⟨⟨by rw [cl_NoTree]; exact yg8, by rw [cl_NoTree]; exact yk8, by rw [cl_NoTree]; exact xb8, by rw [cl_NoTree]; exact yd8, by rw [cl_NoTree]; exact ya8, hn, ht, by rw [cl_NoTree]; exact ym8⟩, ?_, by rw [cl_NoTree, cl_PartError]; exact yq8, by rw [cl_NoTree]; exact yv8⟩
      intro d hd
      rw [cl_NoTree]
      simp only [TD, List.mem_cons, List.not_mem_nil, or_false] at hd
      rcases hd with rfl | rfl | rfl | rfl | rfl | rfl | rfl | rfl | rfl
      · rw [cl_NoNeeds, y8_0]; decide
      · rw [cl_NoNumber, y8_1]; decide
      · rw [cl_NoPage, y8_2]; decide
      · rw [cl_NoPicture, y8_3]; decide
      · rw [cl_NoPlace, y8_4]; decide
      · rw [cl_NoRoom, y8_5]; decide
      · rw [cl_NoRow, y8_6]; decide
      · rw [cl_NoTexts, y8_7]; decide
      · rw [cl_NoTree, y8_8]; decide
    rw [if_neg eNoTree] at hc
    cases hc),
   (by
    intro c b hc
    unfold SC at hc
    by_cases eNoTree : c = "NoTree"
    · subst eNoTree
      have hb : b = true := by
        revert hc
        intro hc
        first | (rw [if_pos rfl] at hc; exact (Option.some.inj hc).symm) | (simp at hc; exact hc.symm) | (simp at hc; exact hc)
      subst hb
      rw [cl_NoTree, cl_PartError]
      exact PySem.W.exm_ref pb pd pt yp8
    rw [if_neg eNoTree] at hc
    cases hc)⟩
end
end K33
open PySem PySem.W PyProof.Rows
set_option maxRecDepth 100000 in
set_option maxHeartbeats 0 in
theorem PySem.Challenge.cw_pagepart_k33_boxes_counted_holds : PySem.Challenge.rw_pagepart_k33_boxes_counted.Holds := by
  w_on; o_law; k_head; (case hw => w_witness2)
  k_fill
  refine PD.walk_pd (l := PySem.Challenge.rw_pagepart_k33_boxes_counted) (p := "script") (g := K33.f_law) (k := 36) rfl rfl ⟨rfl, by decide, by decide⟩ (fun w h Y => PySem.W.kIn_of Y) ?F K33.law_true
  case F =>
    intro w mg h KX G
    refine' ⟨_, K33.all_law (K33.txt_mk KX G ?a1 ?l1 ?c1 ?k1 ?a2 ?l2 ?c2 ?k2 ?a3 ?l3 ?c3 ?k3 ?a4 ?l4 ?c4 ?k4 ?a5 ?l5 ?c5 ?k5 ?a6 ?l6 ?c6 ?k6 ?a7 ?l7 ?c7 ?k7 ?a8 ?l8 ?c8 ?k8 ?a9 ?l9 ?c9 ?k9 ?a10 ?l10 ?c10 ?k10 ?a11 ?l11 ?c11 ?k11 ?a12 ?l12 ?c12 ?k12 ?a13 ?l13 ?c13 ?k13 ?a14 ?l14 ?c14 ?k14 ?a15 ?l15 ?c15 ?k15 ?a16 ?l16 ?c16 ?k16 ?a17 ?l17 ?c17 ?k17 ?a18 ?l18 ?c18 ?k18 ?a19 ?l19 ?c19 ?k19 ?a20 ?l20 ?c20 ?k20 ?z1 ?z2 ?z3 ?z4 ?z5 ?z6 ?z7 ?z8 ?z9 ?z10 ?z11 ?z12 ?z13 ?g1 ?e0 ?e1 ?e2 ?e3 ?e4 ?e5 ?e6 ?e7 ?e8 ?e9 ?xq8 ?xk8 ?xb8 ?xt8 ?hn ?ht ?pb ?pd ?pt ?yg8 ?yk8 ?yd8 ?ya8 ?ym8 ?yp8 ?yv8 ?yq8 ?y8_0 ?y8_1 ?y8_2 ?y8_3 ?y8_4 ?y8_5 ?y8_6 ?y8_7 ?y8_8)⟩
    (case a1 => k_is); (case l1 => k_is); (case c1 => k_is); (case k1 => k_is)
    (case a2 => k_is); (case l2 => k_is); (case c2 => k_is); (case k2 => k_is)
    (case a3 => k_is); (case l3 => k_is); (case c3 => k_is); (case k3 => k_is)
    (case a4 => k_is); (case l4 => k_is); (case c4 => k_is); (case k4 => k_is)
    (case a5 => k_is); (case l5 => k_is); (case c5 => k_is); (case k5 => k_is)
    (case a6 => k_is); (case l6 => k_is); (case c6 => k_is); (case k6 => k_is)
    (case a7 => k_is); (case l7 => k_is); (case c7 => k_is); (case k7 => k_is)
    (case a8 => k_is); (case l8 => k_is); (case c8 => k_is); (case k8 => k_is)
    (case a9 => k_is); (case l9 => k_is); (case c9 => k_is); (case k9 => k_is)
    (case a10 => k_is); (case l10 => k_is); (case c10 => k_is); (case k10 => k_is)
    (case a11 => k_is); (case l11 => k_is); (case c11 => k_is); (case k11 => k_is)
    (case a12 => k_is); (case l12 => k_is); (case c12 => k_is); (case k12 => k_is)
    (case a13 => k_is); (case l13 => k_is); (case c13 => k_is); (case k13 => k_is)
    (case a14 => k_is); (case l14 => k_is); (case c14 => k_is); (case k14 => k_is)
    (case a15 => k_is); (case l15 => k_is); (case c15 => k_is); (case k15 => k_is)
    (case a16 => k_is); (case l16 => k_is); (case c16 => k_is); (case k16 => k_is)
    (case a17 => k_is); (case l17 => k_is); (case c17 => k_is); (case k17 => k_is)
    (case a18 => k_is); (case l18 => k_is); (case c18 => k_is); (case k18 => k_is)
    (case a19 => k_is); (case l19 => k_is); (case c19 => k_is); (case k19 => k_is)
    (case a20 => k_is); (case l20 => k_is); (case c20 => k_is); (case k20 => k_is)
    (case z1 => k_is); (case z2 => k_is); (case z3 => k_is); (case z4 => k_is)
    (case z5 => k_is); (case z6 => k_is); (case z7 => k_is); (case z8 => k_is)
    (case z9 => k_is); (case z10 => k_is); (case z11 => k_is); (case z12 => k_is)
    (case z13 => k_is); (case g1 => k_is); (case e0 => k_is); (case e1 => k_is)
    (case e2 => k_is); (case e3 => k_is); (case e4 => k_is); (case e5 => k_is)
    (case e6 => k_is); (case e7 => k_is); (case e8 => k_is); (case e9 => k_is)
    (case xq8 => k_exc); (case xk8 => k_is); (case xb8 => k_is); (case xt8 => k_is)
    (case hn => k_is); (case ht => k_is); (case pb => k_is); (case pd => k_is)
    (case pt => k_is); (case yg8 => k_is); (case yk8 => k_is); (case yd8 => k_is)
    (case ya8 => k_is); (case ym8 => k_is); (case yp8 => k_is); (case yv8 => kit_is)
    (case yq8 => kit_is); (case y8_0 => kit_is); (case y8_1 => kit_is); (case y8_2 => kit_is)
    (case y8_3 => kit_is); (case y8_4 => kit_is); (case y8_5 => kit_is); (case y8_6 => kit_is)
    (case y8_7 => kit_is); (case y8_8 => kit_is)
