import PyProof.Rows.All
import Wide.All
import OpenK.AllK
import Wide.FinOn
import HandS.ForMost
import HandS.TupSets
import KE.KeyNested
import KE.KDictKeyed
import HandS.Exc
import HandS.ExcField
import HandS.ExcInit
import HandS.ExcOwn
import HandS.More
import HandS.DeepEq
import KE.KEqNest
import HandS.Set
import HandS.SetFor
import HandS.Strs
import HandS.Flow
import HandS.IsInst
import HandS.TupAny
import HandS.Wide
import HandS.Defaults
import HandS.Style
import PySem.Challenge.RW_heapturns_k24_whole_stretches_one_after
import HandS.TryOnly
import HandS.Walk
import KE.KOpsOwn
import HandS.WordsExc
import HandS.WideMore
import HandS.Codes
set_option Elab.async false
set_option linter.all false
set_option maxRecDepth 100000
set_option maxHeartbeats 4000000
/-! len(set(xs)) of a list of tuples of texts, ints and None that are all unlike -/
namespace Mv
open PySem L2 PySem.Spec PyProof.Rows
/-- what a flat key holds -/
def atomK : NestedKey → Bool
  | .tup _ => false
  | _ => true
def flatK : NestedKey → Bool
  | .tup ks => ks.all atomK
  | _ => false
section
variable {P : Program} {w : World} {A : Around} {E : Value → Shared → Prop} {s : Shared}
theorem depth_atoms {ks : List NestedKey} (h : ks.all atomK = true) : NestedKey.depthAll ks = 0 := by
  induction ks with
  | nil => rfl
  | cons k ks ih =>
    rw [List.all_cons, Bool.and_eq_true] at h
    have e : NestedKey.depth k = 0 := by
      cases k with
      | tup _ => exact nomatch h.1
      | _ => rfl
    rw [NestedKey.depthAll, e, ih h.2]; rfl
theorem depth_flat {k : NestedKey} (h : flatK k = true) : k.depth ≤ 8 := by
  cases k with
  | tup ks => rw [NestedKey.depth, depth_atoms h]; decide
  | _ => exact nomatch h
/-- the items of a flat key are of no own class, and their hashes are known or not -/
theorem atoms_calm {h : Heap} : ∀ {ks : List NestedKey} {vs : List Value}, ks.all atomK = true → NestedAll h ks vs → ∀ v ∈ vs, (∀ n, ofAClassStatement n v = pure false) ∧ ∃ b, ∀ n, hashByValue n v = pure b
  | [], _, _, r => by cases r; exact fun v hv => nomatch hv
  | k :: ks, _, ha, r => by
    rw [List.all_cons, Bool.and_eq_true] at ha
    cases r with
    | cons r1 r2 =>
      intro v hv
      rcases List.mem_cons.mp hv with rfl | hv
      · cases r1 with
        | none => exact ⟨fun n => by cases n <;> rfl, true, fun n => by cases n <;> rfl⟩
        | bool _ => exact ⟨fun n => by cases n <;> rfl, true, fun n => by cases n <;> rfl⟩
        | int _ _ => exact ⟨fun n => by cases n <;> rfl, true, fun n => by cases n <;> rfl⟩
        | text _ _ => exact ⟨fun n => by cases n <;> rfl, false, fun n => by cases n <;> rfl⟩
        | tup _ _ _ _ => exact nomatch ha.1
      · exact atoms_calm ha.2 r2 v hv
/-- a flat key in a heap -/
def FlatIs (h : Heap) (k : NestedKey) (a : Addr) : Prop := flatK k = true ∧ NestedIs h k (.ref a)
theorem FlatIs.kind {h : Heap} {k : NestedKey} {a : Addr} (x : FlatIs h k a) : (nestedKind P w).is h k a := ⟨x.2, depth_flat x.1⟩
theorem FlatIs.stay {h h' : Heap} {k : NestedKey} {a : Addr} (hk : ∀ b o vs n, h.get? b = some o → o.data = .seq vs n → h'.get? b = some o) (x : FlatIs h k a) : FlatIs h' k a := ⟨x.1, NestedIs.at hk _ _ x.2⟩
theorem FlatIs.look {k : NestedKey} {a : Addr} (x : FlatIs s.heap k a) : ∃ o vs n, s.heap.get? a = some o ∧ o.cls = .type "tuple" ∧ o.data = .seq vs n ∧ ∀ v ∈ vs.toList, (∀ n, ofAClassStatement n v = pure false) ∧ ∃ b, ∀ n, hashByValue n v = pure b := by
  obtain ⟨f, r⟩ := x
  cases r with
  | tup h1 h2 h3 h4 => exact ⟨_, _, _, h1, h2, h3, atoms_calm f h4⟩
theorem flat_class {k : NestedKey} {a : Addr} {Q : Bool → Shared → Prop} (x : FlatIs s.heap k a) (q : Q false s) : wpAny (model P w) A (ofAClassStatement 8 (.ref a)) Q E s := by
  obtain ⟨o, vs, n, ho, hc, hd, calm⟩ := x.look
  have hT : s.TypeIs (.ref a) "tuple" := ⟨_, ho, hc⟩
  unfold ofAClassStatement
  refine wpAny_bind (wpAny_typeOf hT ?_)
  dsimp only
  rw [show (("tuple" : String) == "tuple") = true from by decide]
  simp only [if_true, Bool.not_true, Bool.false_eq_true, if_false]
  refine wpAny_bind (wpAny_pure ?_)
  simp only [Bool.not_true, Bool.false_eq_true, if_false]
  show wpAny _ _ (seqItems? (.ref a) >>= _) _ _ s
  refine wpAny_bind (wpAny_seqItems ho hd ?_)
  dsimp only
  refine wpAny_bind ?_
  show wpAny _ _ (forIn vs _ _) _ _ s
  rw [← Array.forIn_toList]
  refine wpAny_forIn_list _ (fun left r t => t = s ∧ r.1 = none ∧ ∀ v ∈ left, ∀ n, ofAClassStatement n v = pure false) _ ?_ ?_ _ _ ⟨rfl, rfl, fun v hv => (calm v hv).1⟩
  · rintro v left r t ⟨rfl, hr, all⟩
    rw [all v List.mem_cons_self]
    refine wpAny_bind (wpAny_pure ?_)
    simp only [Bool.false_eq_true, if_false]
    exact wpAny_pure ⟨rfl, rfl, fun u hu => all u (List.mem_cons_of_mem _ hu)⟩
  · rintro ⟨r1, r2⟩ t ⟨rfl, hr, _⟩
    dsimp only at hr
    subst hr
    exact wpAny_pure q
theorem flat_byValue {k : NestedKey} {a : Addr} {Q : Bool → Shared → Prop} (x : FlatIs s.heap k a) (q : ∀ b, Q b s) : wpAny (model P w) A (hashByValue 8 (.ref a)) Q E s := by
  obtain ⟨o, vs, n, ho, hc, hd, calm⟩ := x.look
  have hT : s.TypeIs (.ref a) "tuple" := ⟨_, ho, hc⟩
  unfold hashByValue
  refine wpAny_bind (wpAny_specialOf hT F.slot_tuple_hash.lookup ?_)
  show wpAny _ _ (seqItems? (.ref a) >>= _) _ _ s
  refine wpAny_bind (wpAny_seqItems ho hd ?_)
  refine wpAny_bind ?_
  show wpAny _ _ (forIn vs _ _) _ _ s
  rw [← Array.forIn_toList]
  refine wpAny_forIn_list _ (fun left r t => t = s ∧ ∀ v ∈ left, ∃ b, ∀ n, hashByValue n v = pure b) _ ?_ ?_ _ _ ⟨rfl, fun v hv => (calm v hv).2⟩
  · rintro v left r t ⟨rfl, all⟩
    obtain ⟨b, hb⟩ := all v List.mem_cons_self
    rw [hb]
    refine wpAny_bind (wpAny_pure ?_)
    cases b with
    | true =>
      simp only [Bool.not_true, Bool.false_eq_true, if_false]
      exact wpAny_pure ⟨rfl, fun u hu => all u (List.mem_cons_of_mem _ hu)⟩
    | false =>
      simp only [Bool.not_false, if_true]
      exact wpAny_pure (wpAny_pure (q false))
  · rintro ⟨r1, r2⟩ t ⟨rfl, _⟩
    cases r1 with
    | none => exact wpAny_pure (q true)
    | some b => exact wpAny_pure (q b)
end
end Mv
set_option Elab.async false
set_option linter.all false
set_option maxRecDepth 100000
set_option maxHeartbeats 4000000
/-! a set of flat keys, grown by unlike ones -/
namespace Mv
open PySem L2 PySem.Spec PyProof.Rows
section
variable {P : Program} {w : World} {A : Around} {E : Value → Shared → Prop} {s : Shared}
abbrev Row := Addr × NestedKey
def cell (w : World) (p : Row) : Int × Value := (p.2.hash w, Value.ref p.1)
def hs (w : World) (L : List Row) : List Int := L.map fun p => p.2.hash w
/-- the set object at a holds the rows L -/
structure Held (w : World) (h : Heap) (a : Addr) (L : List Row) (es : Array (Int × Value)) (ep : Nat) (t : SetTable) : Prop where
  at_ : ∃ o, h.get? a = some o ∧ o.ExactSet ∧ o.data = .set es ep t
  ents : es.toList = L.map (cell w)
  tab : TabOk t (hs w L)
  keys : ∀ p ∈ L, FlatIs h p.2 p.1
  gap : L.length * 5 < t.mask * 3
variable {a : Addr} {L : List Row} {es : Array (Int × Value)} {ep : Nat} {t : SetTable}
theorem ents_size {L : List Row} {es : Array (Int × Value)} (e : es.toList = L.map (cell w)) : es.size = L.length := by
  rw [← Array.length_toList, e, List.length_map]
theorem ents_at {L : List Row} {es : Array (Int × Value)} (e : es.toList = L.map (cell w)) {i : Nat} {p : Row} (h : L[i]? = some p) : es[i]? = some (cell w p) := by
  rw [← Array.getElem?_toList, e, List.getElem?_map, h]; rfl
theorem tab_fits {t : SetTable} {n : Nat} (h1 : t.place.size = n) (h2 : t.dummies = #[]) (h3 : n ≤ t.mask) : t.fits n = true := by
  unfold SetTable.fits SetTable.fill
  rw [h2, Bool.and_eq_true, beq_iff_eq, decide_eq_true_eq]
  exact ⟨h1, by show t.place.size + 0 ≤ t.mask; omega⟩
theorem Held.fits (R : Held w s.heap a L es ep t) : t.fits es.size = true := by
  have h1 := R.tab.sz
  have h2 := ents_size R.ents
  have h3 := R.gap
  unfold hs at h1
  rw [List.length_map] at h1
  exact tab_fits (by omega) R.tab.dm (by omega)
theorem Held.seen (R : Held w s.heap a L es ep t) {k : NestedKey} {b : Addr} {Q : Bool → Shared → Prop} (x : FlatIs s.heap k b) {ys : List Value} (hy : ∀ y ∈ ys, ∃ p ∈ L, y = Value.ref p.1) (q : Q false s) :
    wpAny (model P w) A (searchCouldBeSeen (.ref b) ys) Q E s := by
  unfold searchCouldBeSeen
  refine wpAny_bind ?_
  refine wpAny_forIn_list _ (fun left r t' => t' = s ∧ r.1 = none ∧ ∀ y ∈ left, ∃ p ∈ L, y = Value.ref p.1) _ ?_ ?_ _ _ ⟨rfl, rfl, hy⟩
  · rintro v left r t' ⟨rfl, hr, all⟩
    obtain ⟨p, hp, rfl⟩ := all v List.mem_cons_self
    have more : ∀ y ∈ left, ∃ p ∈ L, y = Value.ref p.1 := fun u hu => all u (List.mem_cons_of_mem _ hu)
    have y := R.keys p hp
    dsimp only
    by_cases c : (b == p.1 || (carriedByValue (.ref b) && carriedByValue (.ref p.1))) = true
    · rw [if_pos c]
      exact wpAny_pure ⟨rfl, rfl, more⟩
    · rw [if_neg c]
      refine wpAny_bind ((nestedKind P w).quiet x.kind ?_)
      rw [if_neg (by decide)]
      refine wpAny_bind ((nestedKind P w).quiet y.kind ?_)
      rw [if_neg (by decide)]
      refine wpAny_bind (flat_class x ?_)
      rw [if_neg (by decide)]
      refine wpAny_bind (flat_class y ?_)
      rw [if_neg (by decide)]
      exact wpAny_pure ⟨rfl, rfl, more⟩
  · rintro ⟨r1, r2⟩ t' ⟨rfl, hr, _⟩
    dsimp only at hr
    subst hr
    exact wpAny_pure q
abbrev walkOf (t : SetTable) (h : Int) : SetTable.Probe := runAt t.mask (SetTable.bits h % (t.mask + 1)) (SetTable.bits h)
theorem walk_dummy (m : Nat) : ∀ (n : Nat) (p : SetTable.Probe), p.dummy = none → (nth m p n).dummy = none
  | 0, p, h => h
  | n + 1, p, h => walk_dummy m n (adv m p) (by unfold adv; split <;> exact h)
/-- the search of a key that is not held comes to the first empty slot of its way -/
theorem seek (R : Held w s.heap a L es ep t) {b : Addr} {k : NestedKey} (x : FlatIs s.heap k b) (hu : A.units + 8 < cLine) (new : ∀ p ∈ L, p.2 ≠ k) {n : Nat} (hn : n < 10 * SetTable.turns t.mask)
    (free : way t.mask (k.hash w) n ∉ t.place.toList) (busy : ∀ c, c < n → way t.mask (k.hash w) c ∈ t.place.toList) {Q : SetFound → Shared → Prop} (q : Q (.free (way t.mask (k.hash w) n) false) s) :
    ∀ (f c : Nat) (at0 : Option SetTable.Probe), at0.getD (t.probeStart (k.hash w)) = nth t.mask (walkOf t (k.hash w)) c → c ≤ n → n - c < f → wpAny (model P w) A (setSearchFrom a (.ref b) (k.hash w) true f at0) Q E s
  | 0, c, at0, _, _, hf => absurd hf (Nat.not_lt_zero _)
  | f + 1, c, at0, h0, hc, hf => by
    obtain ⟨o, ho, hex, hd⟩ := R.at_
    rw [setSearchFrom_succ]
    refine wpAny_bind (wpAny_setState_of ho hd R.fits ?_)
    dsimp only
    rw [if_neg (by unfold SetTable.gaveWay; rw [mask_odd R.tab.mok]; decide)]
    have on : ∀ m, nth t.mask (nth t.mask (walkOf t (k.hash w)) c) m = nth t.mask (walkOf t (k.hash w)) (c + m) := fun m => (nth_add t.mask c _ m).symm
    have onj : ∀ m, (nth t.mask (nth t.mask (walkOf t (k.hash w)) c) m).j = way t.mask (k.hash w) (c + m) := fun m => congrArg SetTable.Probe.j (on m)
    have met := go_spec t R.tab.ris R.tab.dm (fun i => (es[i]?.map (·.1)).getD 0) (k.hash w) (10 * SetTable.turns t.mask) (n - c) (nth t.mask (walkOf t (k.hash w)) c) (walk_dummy _ _ _ rfl) (by omega)
      (fun m hm => by rw [onj]; exact busy _ (by omega)) (by rw [onj, Nat.add_sub_cancel' hc]; exact free)
    rcases met with ⟨m, i, hm, hi, _, _, hp⟩ | ⟨_, hp⟩
    · rw [onj] at hi
      have e1 : t.probe (fun i => (es[i]?.map (·.1)).getD 0) (k.hash w) (at0.getD (t.probeStart (k.hash w))) = some (.candidate (way t.mask (k.hash w) (c + m)) i (nth t.mask (walkOf t (k.hash w)) (c + (m + 1)))) := by
        rw [h0, ← onj, ← on]; exact hp
      rw [e1]
      dsimp only
      have hil : i < L.length := by
        have h1 := (List.getElem?_eq_some_iff.mp hi).1
        have h2 := R.tab.sz
        unfold hs at h2
        rw [List.length_map] at h2
        rw [Array.length_toList] at h1
        omega
      obtain ⟨p, hpe⟩ : ∃ p, L[i]? = some p := ⟨L[i], List.getElem?_eq_getElem hil⟩
      have hmem := List.mem_of_getElem? hpe
      have hne : decide (p.2 = k) = false := decide_eq_false (new p hmem)
      have tail : wpAny (model P w) A (searchRest a (.ref b) (k.hash w) true f es t (way t.mask (k.hash w) (c + m)) i (nth t.mask (walkOf t (k.hash w)) (c + (m + 1)))) Q E s := by
        unfold searchRest
        rw [ents_at R.ents hpe]
        unfold cell
        dsimp only
        refine wpAny_bind (wpAny_holding ((nestedKind P w).eqBool hu (R.keys p hmem).kind x.kind ?_))
        rw [hne]
        refine wpAny_bind (wpAny_setState_of ho hd R.fits ?_)
        dsimp only
        rw [if_neg (by decide), sameMem]
        dsimp only
        rw [if_pos rfl, slot_live R.tab.ris hi]
        dsimp only
        rw [ents_at R.ents hpe]
        unfold cell
        dsimp only
        refine wpAny_bind (wpAny_isSame_ref_self (wpAny_bind (wpAny_pure ?_)))
        rw [if_pos rfl]
        dsimp only
        rw [if_neg (by decide)]
        exact seek R x hu new hn free busy q f (c + (m + 1)) _ rfl (by omega) (by omega)
      by_cases hl : t.led = true
      · rw [if_neg (by rw [hl]; decide)]
        exact tail
      · rw [if_pos (by simp [hl])]
        refine wpAny_bind (R.seen x (fun y hy => ?_) ?_)
        · obtain ⟨e, he, rfl⟩ := List.mem_map.mp hy
          have he2 : e ∈ es.toList := by
            have := (Array.mem_filter.mp (Array.mem_toList_iff.mp he)).1
            exact Array.mem_toList_iff.mpr this
          rw [R.ents] at he2
          obtain ⟨p2, hp2, rfl⟩ := List.mem_map.mp he2
          exact ⟨p2, hp2, rfl⟩
        · rw [if_neg (by decide)]
          exact tail
    · have e1 : t.probe (fun i => (es[i]?.map (·.1)).getD 0) (k.hash w) (at0.getD (t.probeStart (k.hash w))) = some (.empty (way t.mask (k.hash w) n) none) := by
        have e2 := onj (n - c)
        rw [Nat.add_sub_cancel' hc] at e2
        rw [h0, ← e2]; exact hp
      rw [e1]
      dsimp only
      exact wpAny_pure q
end
end Mv
set_option Elab.async false
set_option linter.all false
set_option maxRecDepth 100000
set_option maxHeartbeats 4000000
namespace Mv
open PySem L2 PySem.Spec PyProof.Rows
section
variable {P : Program} {w : World} {A : Around} {E : Value → Shared → Prop} {s : Shared}
/-- rows laid in another order -/
theorem rows_in_order {L : List Row} {es : Array (Int × Value)} {order : Array Nat} (e : es.toList = L.map (cell w)) (hp : order.toList.Perm (List.range L.length)) :
    ∃ M : List Row, (order.filterMap fun i => es[i]?).toList = M.map (cell w) ∧ M.Perm L ∧ hs w M = order.toList.map fun i => (es.map (·.1)).getD i 0 := by
  have hz := ents_size e
  have one : ∀ is : List Nat, (∀ i ∈ is, i < L.length) → ∃ M : List Row, M = is.filterMap (fun i => L[i]?) ∧ is.filterMap (fun i => es[i]?) = M.map (cell w) ∧ hs w M = is.map fun i => (es.map (·.1)).getD i 0 := by
    intro is
    induction is with
    | nil => exact fun _ => ⟨[], rfl, rfl, rfl⟩
    | cons i is ih =>
      intro hb
      obtain ⟨M, m1, m2, m3⟩ := ih fun j hj => hb j (List.mem_cons_of_mem _ hj)
      have hi := hb i List.mem_cons_self
      have hL : L[i]? = some L[i] := List.getElem?_eq_getElem hi
      have hE := ents_at e hL
      refine ⟨L[i] :: M, by rw [List.filterMap_cons_some hL, m1], by rw [List.filterMap_cons_some hE, m2, List.map_cons], ?_⟩
      have hv : (es.map (·.1)).getD i 0 = (L[i]).2.hash w := by
        rw [Array.getD_eq_getD_getElem?, Array.getElem?_map, hE]; rfl
      unfold hs at m3 ⊢
      rw [List.map_cons, List.map_cons, m3, hv]
  obtain ⟨M, m1, m2, m3⟩ := one order.toList fun i hi => List.mem_range.mp (hp.mem_iff.mp hi)
  refine ⟨M, by rw [Array.toList_filterMap]; exact m2, ?_, m3⟩
  have all : (List.range L.length).filterMap (fun i => L[i]?) = L := by
    have up : ∀ n, n ≤ L.length → (List.range n).filterMap (fun i => L[i]?) = L.take n := by
      intro n
      induction n with
      | zero => exact fun _ => rfl
      | succ n ih =>
        intro hn
        have hL : L[n]? = some L[n] := List.getElem?_eq_getElem hn
        rw [List.range_succ, List.filterMap_append, ih (Nat.le_of_succ_le hn), List.filterMap_cons_some hL, List.take_succ, hL]; rfl
    rw [up _ (Nat.le_refl _), List.take_length]
  have p := hp.filterMap fun i => L[i]?
  rw [all, ← m1] at p
  exact p
/-- a key stays one where a set alone changes -/
theorem flat_past {h h' : Heap} {a b : Addr} {o : Obj} {es : Array (Int × Value)} {ep : Nat} {t : SetTable} {k : NestedKey} (ho : h.get? a = some o) (hd : o.data = .set es ep t) (hb : Heap.SameBut a h h') (x : FlatIs h k b) : FlatIs h' k b :=
  x.stay fun c oc vs n hc hv => (hb.2 c fun z => by
    subst z
    rw [ho] at hc
    cases hc
    rw [hd] at hv
    cases hv).trans hc
variable {a : Addr} {L : List Row} {es : Array (Int × Value)} {ep : Nat} {t : SetTable}
/-- the table laid anew, larger -/
theorem regrow {o : Obj} (ho : s.heap.get? a = some o) (hex : o.ExactSet) (hd : o.data = .set es ep t) (he : es.toList = L.map (cell w)) (h1 : t.place.size = es.size) (h2 : t.dummies = #[]) (h3 : es.size ≤ t.mask)
    (keys : ∀ p ∈ L, FlatIs s.heap p.2 p.1) {wanted M : Nat} (hw : SetTable.sizeAbove wanted - 1 = M) (hM : MaskOk M) (hz : SetTable.sizeAbove wanted ≤ 128) (hg : L.length * 5 < M * 3) {Q : Unit → Shared → Prop}
    (q : ∀ h' L' es' ep' t', Heap.SameBut a s.heap h' → Held w h' a L' es' ep' t' → L'.Perm L → Q () { s with heap := h' }) : wpAny (model P w) A (setRelay a wanted) Q E s := by
  have hsz := ents_size he
  obtain ⟨t', order, r1, r2, r3, r4, r5, r6, r7⟩ := relaid_ok t (hs := es.map (·.1)) hw hM (by rw [Array.size_map]; omega)
  rw [Array.size_map, hsz] at r2
  obtain ⟨N, n1, n2, n3⟩ := rows_in_order he r2
  rw [← n3] at r3
  have n4 : (order.filterMap fun i => es[i]?).size = es.size := by rw [ents_size n1, n2.length_eq, hsz]
  rw [setRelay_eq]
  refine wpAny_bind (wpAny_setState_of ho hd (tab_fits h1 h2 h3) ?_)
  dsimp only
  rw [if_neg (by rw [sizeLine_eq]; omega), r1]
  dsimp only
  rw [if_neg (by rw [n4]; simp)]
  refine wpAny_bind (wpAny_pure ?_)
  dsimp only
  refine wpAny_storeSet_of ho hd ?_ (by rw [n4, hsz, sizeLine_eq]; rcases hM with e | e | e <;> omega)
  have sb : Heap.SameBut a s.heap (s.heap.update a (Obj.putSet (order.filterMap fun i => es[i]?) t')) := Heap.SameBut.update ..
  exact q _ N _ (ep + 1) t' sb ⟨⟨_, store_at ho hd, ⟨hex.1, hex.2.1, hex.2.2⟩, rfl⟩, n1, r3, fun p hp => flat_past ho hd sb (keys p (n2.mem_iff.mp hp)), by rw [n2.length_eq, r4]; exact hg⟩ n2
/-- a key that is not held is put in -/
theorem put_in (R : Held w s.heap a L es ep t) {b : Addr} {k : NestedKey} (x : FlatIs s.heap k b) (hu : A.units + 8 < cLine) (new : ∀ p ∈ L, p.2 ≠ k) (hl : L.length + 1 ≤ 70) {Q : Bool → Shared → Prop}
    (q : ∀ h' L' es' ep' t', Heap.SameBut a s.heap h' → Held w h' a L' es' ep' t' → L'.Perm ((b, k) :: L) → Q true { s with heap := h' }) :
    wpAny (model P w) A (setAddHashed a (.ref b) (k.hash w)) Q E s := by
  obtain ⟨o, ho, hex, hd⟩ := R.at_
  have hsz := ents_size R.ents
  have gap := R.gap
  have hlen : (hs w L).length = L.length := List.length_map _
  obtain ⟨n, hn, free, busy⟩ := R.tab.first (by rw [hlen]; omega) (k.hash w)
  have tn : 10 * SetTable.turns t.mask ≤ 1420 := by
    unfold SetTable.turns
    rcases R.tab.mok with e | e | e <;> omega
  unfold setAddHashed
  refine wpAny_holding ?_
  rw [show (100000 : Nat) = 99999 + 1 from rfl, setAddHashedIn_succ]
  refine wpAny_bind (wpAny_setState_of ho hd R.fits ?_)
  dsimp only
  rw [if_neg (by simp [byScan, Value.scannable])]
  have look : ∀ Q' : SetFound → Shared → Prop, Q' (.free (way t.mask (k.hash w) n) false) s → wpAny (model P w) A (setSearch a (.ref b) (k.hash w) true) Q' E s := fun Q' q' => by
    unfold setSearch
    exact seek R x hu new hn free busy q' 100000 0 none rfl (Nat.zero_le _) (by omega)
  refine wpAny_bind (look _ ?_)
  dsimp only
  refine wpAny_bind (wpAny_setState_of ho hd R.fits ?_)
  dsimp only
  obtain ⟨p1, p2, p3, p4, p5, p6, p7, p8, p9⟩ := R.tab.put free busy
  generalize t.put (way t.mask (k.hash w) n) = pt at p1 p3 p4 p5 p6 p7 p8 p9 ⊢
  obtain ⟨t1, i⟩ := pt
  dsimp only at p1 p3 p4 p5 p6 p7 p8 p9 ⊢
  rw [← p1] at p2 p3
  have hin : (SetTable.insertAt es i (k.hash w, Value.ref b)).toList = (L.take i ++ (b, k) :: L.drop i).map (cell w) := by
    rw [SetTable.toList_insertAt, R.ents, List.map_append, List.map_cons, List.map_take, List.map_drop]; rfl
  have pm : (L.take i ++ (b, k) :: L.drop i).Perm ((b, k) :: L) := by
    have z : (L.take i ++ (b, k) :: L.drop i).Perm ((b, k) :: (L.take i ++ L.drop i)) := List.perm_middle
    rwa [List.take_append_drop] at z
  have hh : hs w (L.take i ++ (b, k) :: L.drop i) = (hs w L).take i ++ k.hash w :: (hs w L).drop i := by
    unfold hs
    rw [List.map_append, List.map_cons, List.map_take, List.map_drop]
  rw [← hh] at p3
  have hl1 := pm.length_eq
  rw [List.length_cons] at hl1
  have hz1 := ents_size hin
  generalize SetTable.insertAt es i (k.hash w, Value.ref b) = es1 at hin hz1 ⊢
  generalize L.take i ++ (b, k) :: L.drop i = L1 at pm hl1 hz1 p3 hin
  have any : ∀ t2 : SetTable, t2.place = t1.place → t2.dummies = t1.dummies → t2.mask = t1.mask → t2.tooFull = t1.tooFull → wpAny (model P w) A (do
      storeSet a es1 t2
      if (!false && t2.tooFull) = true then setRelay a (SetTable.grown (es.size + 1))
      return true) Q E s := fun t2 e1 e2 e3 e4 => by
    refine wpAny_bind (wpAny_storeSet_of ho hd ?_ (by rw [hz1, hl1, sizeLine_eq]; omega))
    have sb : Heap.SameBut a s.heap (s.heap.update a (Obj.putSet es1 t2)) := Heap.SameBut.update ..
    have ho1 := store_at (es' := es1) (t' := t2) ho hd
    have T2 : TabOk t2 (hs w L1) := ⟨by rw [e1]; exact p3.ris, by rw [e2]; exact p3.dm, by rw [e1]; exact p3.sz, by rw [e3]; exact p3.mok, by rw [e1, e3]; exact p3.bd, by rw [e1, e3]; exact p3.reach⟩
    have keys : ∀ p ∈ L1, FlatIs (s.heap.update a (Obj.putSet es1 t2)) p.2 p.1 := fun p hp => by
      rcases List.mem_cons.mp (pm.mem_iff.mp hp) with rfl | hp
      · exact flat_past ho hd sb x
      · exact flat_past ho hd sb (R.keys p hp)
    generalize s.heap.update a (Obj.putSet es1 t2) = h1 at sb ho1 keys ⊢
    by_cases hf : t1.tooFull = true
    · rw [if_pos (by rw [e4, hf]; rfl)]
      have full : (L.length + 1) * 5 ≥ t.mask * 3 := by
        have z := hf
        unfold SetTable.tooFull at z
        rw [decide_eq_true_eq, p9, hlen, p4] at z
        exact z
      have hsL1 : (hs w L1).length = L1.length := List.length_map _
      have grow : ∀ M, SetTable.sizeAbove (SetTable.grown (L.length + 1)) - 1 = M → MaskOk M → SetTable.sizeAbove (SetTable.grown (L.length + 1)) ≤ 128 → (L.length + 1) * 5 < M * 3 →
          wpAny (model P w) A (do setRelay a (SetTable.grown (es.size + 1)); return true) Q E { s with heap := h1 } := fun M g1 g2 g3 g4 => by
        rw [hsz]
        refine wpAny_bind (regrow (s := { s with heap := h1 }) ho1 ⟨hex.1, hex.2.1, hex.2.2⟩ rfl hin (by rw [T2.sz, hsL1, hz1]) T2.dm (by rw [hz1, hl1, e3, p4]; omega) keys g1 g2 g3 (by rw [hl1]; exact g4) fun h2 L2 es2 ep2 t3 sb2 R2 pm2 => ?_)
        exact wpAny_pure (q h2 L2 es2 ep2 t3 (sb.trans sb2) R2 (pm2.trans pm))
      rcases R.tab.mok with e | e | e
      · have e5 : L.length = 4 := by rw [e] at full gap; omega
        exact grow 31 (by rw [e5, size_20]) (.inr (.inl rfl)) (by rw [e5, size_20]; decide) (by omega)
      · have e5 : L.length = 18 := by rw [e] at full gap; omega
        exact grow 127 (by rw [e5, size_76]) (.inr (.inr rfl)) (by rw [e5, size_76]; decide) (by omega)
      · exfalso
        rw [e] at full
        omega
    · rw [if_neg (by rw [e4]; simp [hf])]
      refine wpAny_pure (q h1 L1 es1 (ep + 1) t2 sb ⟨⟨_, ho1, ⟨hex.1, hex.2.1, hex.2.2⟩, rfl⟩, hin, T2, keys, ?_⟩ pm)
      have z := hf
      unfold SetTable.tooFull at z
      rw [decide_eq_true_eq, p9, hlen] at z
      rw [hl1, e3]
      omega
  by_cases hp : t1.plain = true
  · rw [if_pos hp]
    refine wpAny_bind (flat_byValue x fun b' => ?_)
    cases b' with
    | true => exact any t1 rfl rfl rfl rfl
    | false => exact any { t1 with plain := false } rfl rfl rfl rfl
  · rw [if_neg hp]
    refine wpAny_bind (wpAny_pure ?_)
    exact any t1 rfl rfl rfl rfl
end
end Mv
set_option Elab.async false
set_option linter.all false
set_option maxRecDepth 100000
set_option maxHeartbeats 4000000
namespace Mv
open PySem L2 PySem.Spec PyProof.Rows
section
variable {P : Program} {w : World} {A : Around} {E : Value → Shared → Prop} {s : Shared}
theorem flat_keep {h h' : Heap} {k : NestedKey} {b : Addr} (hk : ∀ c o, h.get? c = some o → h'.get? c = some o) (x : FlatIs h k b) : FlatIs h' k b := x.stay fun c o _ _ hc _ => hk c o hc
theorem Held.keep {h h' : Heap} {a : Addr} {L : List Row} {es : Array (Int × Value)} {ep : Nat} {t : SetTable} (R : Held w h a L es ep t) (ha : ∀ o, h.get? a = some o → h'.get? a = some o) (hk : ∀ p ∈ L, FlatIs h' p.2 p.1) : Held w h' a L es ep t := by
  obtain ⟨o, ho, r⟩ := R.at_
  exact ⟨⟨o, ha o ho, r⟩, R.ents, R.tab, hk, R.gap⟩
abbrev newSet (w : World) : Obj := { cls := .type "set", dict := none, data := .set #[] 0 (.fresh 0 0 (!w.params.followText "set-order")) }
theorem Held.new {h : Heap} {a : Addr} (ho : h.get? a = some (newSet w)) : Held w h a [] #[] 0 (.fresh 0 0 (!w.params.followText "set-order")) where
  at_ := ⟨_, ho, ⟨rfl, rfl, rfl⟩, rfl⟩
  ents := rfl
  tab := ⟨List.Pairwise.nil, rfl, rfl, .inl rfl, fun x hx => (nomatch hx), fun i h j hi => by simp [hs] at hi⟩
  keys := fun p hp => nomatch hp
  gap := by show 0 * 5 < 7 * 3; decide
/-- the loop of set.update, over the rows ks -/
theorem fill_all {I : Addr} {fp wr : List Addr} {G : Array GenState → Array GenState → Prop} {n : Nat} {Pv : Nat → Value → Prop} {St : Nat → Shared → Prop} {R : Result → Shared → Prop} (W : WalksS P w A.in1 I fp wr G n Pv St) (S : Addr) (hSf : S ∉ fp)
    (ks : List Row) (hn : n = ks.length) (h70 : ks.length ≤ 70) (hv : ∀ i v, Pv i v → ∃ p, ks[i]? = some p ∧ v = .ref p.1) (h0 : Heap) (hk : ∀ p ∈ ks, FlatIs h0 p.2 p.1) (nd : (ks.map (·.2)).Nodup) (hS0 : h0.get? S = none) (hw0 : ∀ b ∈ wr, h0.get? b = none) (hu : A.in1.units + 8 < cLine) :
    ∀ (m i : Nat) (s : Shared), n - i = m → i ≤ n → St i s → (∀ b o, h0.get? b = some o → s.heap.get? b = some o) → (∃ L es ep t, Held w s.heap S L es ep t ∧ L.Perm (ks.take i)) →
      (∀ s' L es ep t, Moved (S :: wr) G s s' → Held w s'.heap S L es ep t → L.Perm ks → (∀ b o, h0.get? b = some o → s'.heap.get? b = some o) → R (.ok (.ret .none)) s') →
      codeAny (model P w) A (.builtin "set.update.loop" ⟨[.ref S, .ref I], []⟩) R s := by
  have hSw : S ∉ wr := fun z => hSf (W.sub _ z)
  have wide : ∀ b ∈ wr, b ∈ S :: wr := fun b hb => List.mem_cons_of_mem _ hb
  have stays : ∀ {s s' : Shared}, Moved wr G s s' → (∀ b o, h0.get? b = some o → s.heap.get? b = some o) → ∀ b o, h0.get? b = some o → s'.heap.get? b = some o := fun mv hp b o e =>
    mv.heap b o (fun hb => by rw [hw0 b hb] at e; cases e) (hp b o e)
  intro m
  induction m with
  | zero =>
    intro i s hm hi hst hp ⟨L, es, ep, t, hS, pm⟩ hR
    obtain rfl : i = n := by omega
    refine codeAny_builtin F.entry_set_update_loop ?_
    rw [Around.under_plainId F.plain_set_update_loop _]
    show wpAny _ A.in1 (pyNext (.ref I) >>= _) _ _ s
    refine wpAny_bind (W.done s _ _ hst fun s' mv => ?_)
    show wpAny _ A.in1 (ret Value.none) _ _ s'
    have hp' := stays mv hp
    rw [hn, List.take_length] at pm
    exact wpAny_pure (hR s' L es ep t (mv.mono wide) (hS.keep (fun o e => mv.heap S o hSw e) fun p hpm => flat_keep hp' (hk p (pm.mem_iff.mp hpm))) pm hp')
  | succ m ih =>
    intro i s hm hi hst hp ⟨L, es, ep, t, hS, pm⟩ hR
    have hlt : i < n := by omega
    refine codeAny_builtin F.entry_set_update_loop ?_
    rw [Around.under_plainId F.plain_set_update_loop _]
    show wpAny _ A.in1 (pyNext (.ref I) >>= _) _ _ s
    refine wpAny_bind (W.item i s _ _ hlt hst fun v s' hP hst' mv => ?_)
    obtain ⟨p, hpi, rfl⟩ := hv i v hP
    have hp' := stays mv hp
    have mem : ∀ q ∈ L, q ∈ ks := fun q hq => List.mem_of_mem_take (pm.mem_iff.mp hq)
    have hS' : Held w s'.heap S L es ep t := hS.keep (fun o e => mv.heap S o hSw e) fun q hq => flat_keep hp' (hk q (mem q hq))
    have hx : FlatIs s'.heap p.2 p.1 := flat_keep hp' (hk p (List.mem_of_getElem? hpi))
    have fresh : ∀ q ∈ L, q.2 ≠ p.2 := fun q hq z => by
      obtain ⟨j, hj⟩ := List.getElem?_of_mem (pm.mem_iff.mp hq)
      have hji : j < i := by
        have := (List.getElem?_eq_some_iff.mp hj).1
        rw [List.length_take] at this
        omega
      rw [List.getElem?_take_of_lt hji] at hj
      have e1 : (ks.map (·.2))[j]? = some p.2 := by rw [List.getElem?_map, hj]; exact congrArg some z
      have e2 : (ks.map (·.2))[i]? = some p.2 := by rw [List.getElem?_map, hpi]; rfl
      have := (List.getElem?_inj (by rw [List.length_map]; omega) nd).mp (e1.trans e2.symm)
      omega
    show wpAny _ A.in1 (holding [Value.ref p.1] (setAdd S (.ref p.1)) >>= _) _ _ s'
    refine wpAny_bind (wpAny_holding ?_)
    unfold setAdd
    refine wpAny_holding ?_
    refine wpAny_bind ((nestedKind P w).pyHash hu hx.kind ?_)
    have hlL := pm.length_eq
    rw [List.length_take] at hlL
    refine put_in (s := { s' with toks := s'.toks + p.2.draws }) hS' hx hu fresh (by omega) fun h' L' es' ep' t' sb hS2 pm2 => ?_
    have hp2 : ∀ b o, h0.get? b = some o → h'.get? b = some o := fun b o e => (sb.2 b (fun z => by rw [z, hS0] at e; cases e)).trans (hp' b o e)
    have pm3 : L'.Perm (ks.take (i + 1)) := by
      rw [List.take_succ, hpi]
      exact pm2.trans ((pm.cons p).trans (List.perm_append_singleton p _).symm)
    refine wpAny_pure ⟨plainId_quiet F.plain_set_update_loop _, ih (i + 1) _ (by omega) hlt (W.frame _ s' _ _ hst' (Nat.le_add_right _ _) fun b hb o e => ?_) hp2 ⟨L', es', ep', t', hS2, pm3⟩ fun s2 L2 es2 ep2 t2 mv2 hh pm4 hp3 => ?_⟩
    · rw [sb.2 b (fun z : b = S => hSf (by rw [← z]; exact hb))]; exact e
    · refine hR s2 L2 es2 ep2 t2 (Moved.trans W.gtrans ((mv.mono wide).then_heap (Nat.le_add_right _ _) fun b o hb e => ?_) mv2) hh pm4 hp3
      rw [sb.2 b (fun z : b = S => hb (by rw [z]; exact List.mem_cons_self))]; exact e
set_option maxHeartbeats 8000000 in
/-- set(xs) of a list of unlike flat keys -/
theorem set_of_list {l : Addr} {items : Array Value} (ks : List Row) {Q : Value → Shared → Prop} (hh : A.handled = none) (hl : s.heap.IsList l items) (hit : items.toList = ks.map fun p => Value.ref p.1) (hk : ∀ p ∈ ks, FlatIs s.heap p.2 p.1) (nd : (ks.map (·.2)).Nodup)
    (h70 : ks.length ≤ 70) (hu : A.units + 11 < cLine)
    (q : ∀ (h' : Heap) (tk : Nat) L es ep t, Held w h' s.heap.objs.size L es ep t → L.Perm ks → (∀ b o, s.heap.get? b = some o → h'.get? b = some o) → Q (.ref s.heap.objs.size) { s with heap := h', toks := tk }) :
    wpAny (model P w) A (call (.type "set") [.ref l]) Q E s := by
  have hisz : items.size = ks.length := by rw [← Array.length_toList, hit, List.length_map]
  obtain ⟨c, tl, hmro⟩ := F.called_set.mro
  have hmade := F.called_set.made
  have hsub := F.called_set.sub
  refine wpAny_call (codeAny_of_tree ?_)
  show wpAny _ _ (callAny (.type "set") _) _ _ _
  refine wpAny_pure ⟨Code.quiet_builtin _ (by decide +kernel), codeAny_builtin F.entry_type_call ?_⟩
  rw [Around.under_plain (weight_type_call_type "set" [.ref l] []) rfl]
  have h1 := F.called_set.notType
  have h2 := F.called_set.canCreate
  have hct := F.typeCall_set_1 (.ref l)
  repeat (any_goals (first | assumption | wp_step))
  refine codeAny_mono (code_set_led1 (.ref l) (E := E) (Q₁ := fun obj s₁ => obj = .ref s.heap.objs.size ∧ s₁ = { s with heap := s.heap.push (newSet w) }) ⟨rfl, rfl⟩) fun r s₁ hr => ?_
  cases r with
  | error e => exact hr
  | ok fl =>
    cases fl with
    | ret obj =>
      obtain ⟨rfl, rfl⟩ := hr
      have hS : (s.heap.push (newSet w)).get? s.heap.objs.size = some (newSet w) := Heap.get?_push_size _ rfl
      have hT : Shared.TypeIs { s with heap := s.heap.push (newSet w) } (.ref s.heap.objs.size) "set" := ⟨_, hS, rfl⟩
      have hli := F.called_set.init.lookup
      have hbi := F.called_set.init.bind (.ref s.heap.objs.size)
      repeat (any_goals (first | assumption | wp_step))
      refine codeAny_mono (codeAny_call_builtin (R := wants (fun r s₂ => r = .none ∧ ∃ h' tk L es ep t, s₂ = { s with heap := h', toks := tk } ∧ Held w h' s.heap.objs.size L es ep t ∧ L.Perm ks ∧ (∀ b o, s.heap.get? b = some o → h'.get? b = some o)) E)
        F.called_set.init.plain F.entry_set_init (check_set_init_1 hT ?_)) fun r₂ s₂ hr₂ => ?_
      · obtain ⟨ol, hol, hcl, nl, hdl⟩ := hl
        obtain ⟨ocls, odict, odata, oslots⟩ := ol
        dsimp only at hcl hdl
        subst hcl hdl
        have hol' : (s.heap.push (newSet w)).get? l = some { cls := .type "list", dict := odict, data := .seq items nl, slots := oslots } := Heap.get?_push_of_some _ hol
        have hsls := F.sub_list_set
        have hslf := F.sub_list_frozenset
        have hne : (Value.type "list" == Value.type "dict") = false := by decide
        have hl1 : (s.heap.push (newSet w)).IsList l items := ⟨_, hol', rfl, nl, rfl⟩
        unfold Builtin.«set.__init__» noKeywords Builtin.Frozenset.updateFrom
        generalize hPI : pyIter = PI
        wp_walk
        subst hPI
        refine wpAny_pyIter_list hl1 ?_
        refine wpAny_bind (wpAny_runValue ?_)
        have hlS : l < s.heap.objs.size := Heap.lt_size hol
        have hh3 : A.in1.in1.in1.handled = none := by simp [hh]
        have size1 : (s.heap.push (newSet w)).objs.size = s.heap.objs.size + 1 := Heap.size_push ..
        have gone : ∀ b, s.heap.objs.size ≤ b → s.heap.get? b = none := fun b hb => by
          cases z : s.heap.get? b with
          | none => rfl
          | some o => exact absurd (Nat.lt_of_lt_of_le (Heap.lt_size z) hb) (Nat.lt_irrefl _)
        have apart : l ≠ (s.heap.push (newSet w)).objs.size := by rw [size1]; exact Nat.ne_of_lt (Nat.lt_succ_of_lt hlS)
        have out : s.heap.objs.size ∉ [(s.heap.push (newSet w)).objs.size, l] := by
          rw [size1]
          simp only [List.mem_cons, List.not_mem_nil, or_false, not_or]
          exact ⟨Nat.ne_of_lt (Nat.lt_succ_self _), Nat.ne_of_gt hlS⟩
        have vals : ∀ (i : Nat) (v : Value), items[i]? = some v → ∃ p, ks[i]? = some p ∧ v = .ref p.1 := fun i v e => by
          rw [← Array.getElem?_toList, hit, List.getElem?_map] at e
          cases z : ks[i]? with
          | none => rw [z] at e; cases e
          | some p => rw [z] at e; exact ⟨p, rfl, (Option.some.inj e).symm⟩
        refine fill_all ((Walks.list hh3 _ l apart items).toS) s.heap.objs.size out ks hisz h70 vals s.heap hk nd (gone _ (Nat.le_refl _)) (fun b hb => gone b (by rw [List.mem_singleton.mp hb, size1]; exact Nat.le_succ _)) ?hU (items.size - 0) 0 _ (by omega) (Nat.zero_le _)
          ⟨⟨_, Heap.get?_push_size _ rfl, rfl, rfl⟩, hl1.push _⟩ (fun b o e => Heap.get?_push_of_some _ (Heap.get?_push_of_some _ e)) ⟨[], #[], 0, _, Held.new (Heap.get?_push_of_some _ hS), List.Perm.refl _⟩ ?hR
        case hU => simp only [Around.in1_units]; omega
        case hR =>
          intro s' L es ep t mv hS' pm hkp
          obtain ⟨h', g2, d', tk', os'⟩ := s'
          have eg : g2 = s.gens := mv.gens
          have ed : d' = s.drawn := mv.drawn
          have eo : os' = s.os := mv.os
          subst eg ed eo
          show wpAny _ _ _ _ _ _
          refine wpAny_pure ?_
          show wpAny _ _ (ret Value.none) _ _ _
          exact wpAny_pure ⟨rfl, h', tk', L, es, ep, t, rfl, hS', pm, hkp⟩
      · cases r₂ with
        | error e => exact hr₂
        | ok fl₂ =>
          cases fl₂ with
          | ret r =>
            obtain ⟨rfl, h', tk, L, es, ep, t, rfl, hS', pm, hkp⟩ := hr₂
            repeat (any_goals (first | assumption | wp_step))
            exact q _ _ _ _ _ _ hS' pm hkp
          | _ => exact hr₂.elim
    | _ => exact hr.elim
end
end Mv
set_option Elab.async false
set_option linter.all false
set_option maxRecDepth 100000
set_option maxHeartbeats 4000000
namespace Mv
open PySem L2 PySem.Spec PyProof.Rows
/-- places: ("object", n) and ("pool", size, count) -/
inductive Pl where
  | obj (n : Nat)
  | pool (s c : Nat)
deriving DecidableEq
namespace Pl
def vs : Pl → List V
  | obj n => [.str "object", .int (n : Nat)]
  | pool s c => [.str "pool", .int (s : Nat), .int (c : Nat)]
def key : Pl → NestedKey
  | obj n => .tup [.text "object", .num (n : Nat)]
  | pool s c => .tup [.text "pool", .num (s : Nat), .num (c : Nat)]
theorem key_flat (p : Pl) : flatK p.key = true := by cases p <;> rfl
theorem key_inj {p q : Pl} (h : p.key = q.key) : p = q := by
  cases p with
  | obj n => cases q with
    | obj m =>
      injection h with h
      injection h with _ h
      injection h with h _
      injection h with h
      rw [Int.ofNat.inj h]
    | pool s c =>
      injection h with h
      injection h with _ h
      injection h with _ h
      cases h
  | pool s c => cases q with
    | obj m =>
      injection h with h
      injection h with _ h
      injection h with _ h
      cases h
    | pool t d =>
      injection h with h
      injection h with _ h
      injection h with h1 h2
      injection h1 with h1
      injection h2 with h2 _
      injection h2 with h2
      rw [Int.ofNat.inj h1, Int.ofNat.inj h2]
end Pl
def PlAt (H : Hp) (v : V) (p : Pl) : Prop := ∃ a, v = .ref a ∧ H a = some (.tup p.vs)
theorem PlAt.mono {H H' : Hp} (s : Same H H') {v : V} {p : Pl} (h : PlAt H v p) : PlAt H' v p := let ⟨a, h1, h2⟩ := h; ⟨a, h1, s _ _ h2⟩
theorem PlAt.but {H H' : Hp} (s : ∀ b xs, H b = some (.tup xs) → H' b = some (.tup xs)) {v : V} {p : Pl} (h : PlAt H v p) : PlAt H' v p := let ⟨a, h1, h2⟩ := h; ⟨a, h1, s _ _ h2⟩
section
variable {P : Program} {w : World} {H : Hp} {h : Heap}
theorem vals_nums : ∀ {ns : List Nat} {us : List Value}, Vals (ns.map fun n => V.int (n : Nat)) us → NestedAll h (ns.map fun n => NestedKey.num (n : Nat)) us
  | [], _, .nil => .nil
  | n :: ns, _, .cons r t => by
    obtain ⟨k, rfl⟩ := (show ∃ t, _ = Value.int (n : Nat) t from r)
    exact .cons (.int _ _) (vals_nums t)
theorem pl_flat (ok : HOk P w H h) {a : Addr} {p : Pl} (ha : H a = some (.tup p.vs)) : FlatIs h p.key a := by
  obtain ⟨_, its, r, o, h1, h2, n, h3⟩ := (show ObjOk P w H h a (.tup p.vs) from ok a _ ha)
  refine ⟨p.key_flat, ?_⟩
  cases p with
  | obj m =>
    refine .tup h1 h2 h3 ?_
    rw [List.toList_toArray]
    cases r with
    | cons r1 r2 =>
      obtain ⟨t1, rfl⟩ := (show ∃ t, _ = Value.str "object" t from r1)
      exact .cons (.text _ _) (vals_nums (ns := [m]) r2)
  | pool s c =>
    refine .tup h1 h2 h3 ?_
    rw [List.toList_toArray]
    cases r with
    | cons r1 r2 =>
      obtain ⟨t1, rfl⟩ := (show ∃ t, _ = Value.str "pool" t from r1)
      exact .cons (.text _ _) (vals_nums (ns := [s, c]) r2)
end
/-- len(set(e)), e a list of unlike places -/
def tLenSetP (K : PySem.W.Frag) (ta : TE) : TE := fun σ H Q => ta σ H fun x H1 => ∃ (l : Addr) (xs : List V) (ps : List Pl), x = V.ref l ∧ SqL K H1 l xs ∧ Paired (PlAt H1) xs ps ∧ ps.Nodup ∧ ps.length ≤ 70 ∧ Q (.int (ps.length : Nat)) H1
section
variable {X : Cx}
theorem place_rows {pins : List (Addr × Obj)} {σ : L2.St} {H : Hp} {s : Shared} (I : Inv X pins σ H s) : ∀ {xs : List V} {ps : List Pl} {us : List Value}, Paired (PlAt H) xs ps → Vals xs us →
    ∃ ks : List Row, us = (ks.map fun p => Value.ref p.1) ∧ ks.map (·.2) = ps.map Pl.key ∧ ∀ p ∈ ks, FlatIs s.heap p.2 p.1
  | _, _, _, .nil, .nil => ⟨[], rfl, rfl, fun _ h => nomatch h⟩
  | _, _, _, .cons (b := p) h t, .cons r rt => by
    obtain ⟨ks, e1, e2, e3⟩ := place_rows I t rt
    obtain ⟨a, rfl, ha⟩ := h
    cases (show _ = Value.ref a from r)
    refine ⟨(a, p.key) :: ks, by rw [e1]; rfl, by rw [List.map_cons, List.map_cons, e2], fun q hq => ?_⟩
    rcases List.mem_cons.mp hq with rfl | hq
    · exact pl_flat I.hok ha
    · exact e3 q hq
theorem pe_lenSetP {e : Expr} {ta : TE} {p p2 q pos : Pos} (hu : X.A.units + 11 < cLine) (hc : X.calm = true) (hg : Gl X "len") (hm : X.mg "len" = none) (hg2 : Gl X "set") (hm2 : X.mg "set" = none) (ha : PE X e ta)
    (na : starEach [e] X.env = (false, eval e X.env) :: starEach [] X.env := by rfl) : PE X (.Call (.Name "len" p) [.Call (.Name "set" p2) [e] [] q] [] pos) (tLenSetP X.K ta) := by
  refine ⟨fun pins s σ H Q I h => ?_⟩
  refine Call_ (ld_blt I hg hm PySem.boot_len ?_)
  refine PyProof.Rows.callWith_builtin1 (PyProof.Rows.args_cons ?_ rfl) rfl rfl
  refine Call_ (ld_blt I hg2 hm2 PyProof.Rows.boot_set ?_)
  refine PyProof.Rows.callWith_type1 (PyProof.Rows.args_cons (thn (ha.run pins s σ H _ I h) fun v s1 ⟨x, H1, I1, r1, q1⟩ => PyProof.Rows.args_nil ?_) na) na rfl
  obtain ⟨l, xs, ps, rfl, hq, px, nd, h70, q1⟩ := q1
  cases r1
  obtain ⟨its, r, pl, hz⟩ := I1.list hq
  obtain ⟨ks, e1, e2, e3⟩ := place_rows I1 px r
  have hlen : ks.length = ps.length := by
    have := congrArg List.length e2
    rwa [List.length_map, List.length_map] at this
  have nd2 : (ks.map (·.2)).Nodup := by
    rw [e2]
    exact List.pairwise_map.mpr (nd.imp fun h z => h (Pl.key_inj z))
  refine set_of_list ks (I1.ok.hd hc) pl.isList (by rw [List.toList_toArray]; exact e1) e3 nd2 (by omega) hu fun h' tk L es ep t R pm hk => ?_
  refine PyProof.Rows.args_nil ?_
  obtain ⟨o, ho, hex, hd⟩ := R.at_
  have fits := Held.fits (s := { s1 with heap := h', toks := tk }) R
  have hn : es.size = ps.length := by rw [ents_size R.ents, pm.length_eq, hlen]
  have I2 : Inv X pins σ H1 { s1 with heap := h', toks := tk } := I1.kept fun b o e => hk b o e
  exact call_len_set ho hex hd fits (by rw [hn]; omega) ⟨.int (ps.length : Nat), H1, I2.tok _, ⟨_, by rw [hn]⟩, q1⟩
end
end Mv
set_option Elab.async false
set_option linter.all false
set_option maxRecDepth 100000
set_option maxHeartbeats 4000000
/-! an own exception class under ArithmeticError whose __init__ says Base.__init__(self, ..) and keeps fields -/
namespace Ax
open PySem L2 PySem.Spec PyProof.Rows PySem.HandSPX
abbrev aeTail : List Value := [.type "ArithmeticError", .type "Exception", .type "BaseException", .type "object"]
def overAE : List Value → Bool
  | [] => false
  | v :: r => v :: r == aeTail || (match v with | .ref _ => overAE r | _ => false)
theorem overAE_split : ∀ l : List Value, overAE l = true → ∃ rs : List Addr, l = rs.map Value.ref ++ aeTail
  | [], h => nomatch h
  | v :: r, h => by
    unfold overAE at h
    rcases Bool.or_eq_true_iff.mp h with h | h
    · exact ⟨[], beq_iff_eq.mp h⟩
    · cases v with
      | ref c =>
        obtain ⟨rs, e⟩ := overAE_split r h
        exact ⟨c :: rs, by rw [e]; rfl⟩
      | _ => exact nomatch h
theorem ae_passes (self : Value) : refuseLoop self "__setattr__" aeTail = pure () := by kernel_rfl
theorem overAE_pass (self : Value) {l : List Value} (h : overAE l = true) : refuseLoop self "__setattr__" l = pure () := by
  obtain ⟨rs, rfl⟩ := overAE_split l h
  induction rs with
  | nil => exact ae_passes self
  | cons c rs ih =>
    rw [List.map_cons, List.cons_append, refuseLoop_ref]
    refine ih ?_
    clear ih h
    induction rs with
    | nil => decide
    | cons c rs ih => unfold overAE; rw [List.map_cons, List.cons_append]; exact Bool.or_eq_true_iff.mpr (.inr ih)
theorem overAE_has {l : List Value} (h : overAE l = true) (X : String) : l.contains (.type X) = aeTail.contains (.type X) := by
  obtain ⟨rs, rfl⟩ := overAE_split l h
  clear h
  induction rs with
  | nil => rfl
  | cons c rs ih => rw [List.map_cons, List.cons_append, List.contains_cons, ih]; rfl
theorem overAE_ref {C : Addr} {l : List Value} (h : overAE l = true) : overAE (.ref C :: l) = true := by
  unfold overAE
  exact Bool.or_eq_true_iff.mpr (.inr h)
section
open Builtin Builtin.ObjectAttr
variable {prog : Program} {w : World} {A : Around} {R : Result → Shared → Prop} {hp : Heap} {g : Array GenState} {d : Drawn} {t : Nat} {os : OsState}
/-- the way of object.__setattr__ to the instance's own dict -/
theorem to_own_dict {K : W.Frag} {name : Str} {tk : Tok} {v : Value} {x C : Addr} {ox : Obj} {od : Option Obj} {cd : ClassData} (X : K.In hp) (I : W.InstAt hp x ox C od) (hcd : W.clsIn K C = some cd) (hm : overAE cd.mro = true) (ha : W.findIn K (.ref C) name = some none)
    (q : wpAny (model prog w) A.in1 (storeInOwnDict (.ref x) (.ref C) (.str name tk) name v false) (fun fin s' => match fin with | .done f => R (.ok f) s' | .again c => c.quiet = true ∧ codeAny (model prog w) A c R s') (fun e s' => R (.error e) s') ⟨hp, g, d, t, os⟩) :
    codeAny (model prog w) A (.call (.builtin "object.__setattr__") ⟨[.ref x, .str name tk, v], []⟩) R ⟨hp, g, d, t, os⟩ := by
  have SF := F.store_object
  have full : cd.mro.isEmpty = false := by
    obtain ⟨rs, e⟩ := overAE_split _ hm
    rw [e]
    cases rs <;> rfl
  have obj : cd.mro.contains (.type "object") = true := (overAE_has hm "object").trans (by decide +kernel)
  have sub : W.Looks (model prog w) hp (isInstance (.ref x) (.type "object")) true := I.type.andThen (W.looks_mroIn X (by unfold W.mroIn; rw [hcd, Option.bind_some, if_neg (by rw [full]; decide), obj]))
  refine codeAny_call_builtin SF.slot.plain SF.entry (@W.check_slot (model prog w) _ _ ⟨hp, g, d, t, os⟩ "object.__setattr__" "object" "__setattr__" (.ref x) [.str name tk, v] [] _ SF.kind SF.split sub (SF.args (.ref x) (.str name tk) v) ?_)
  have mro : W.Looks (model prog w) hp (mroOf (.ref C)) cd.mro := (W.looks_clsIn X hcd).andThen .now
  have taker : W.Looks (model prog w) hp (storeTaker? none) none := .now
  rw [W.osa_eq, refuse_eq]
  refine wpAny_bind (wpAny_bind (I.type.at (wpAny_bind (mro.at ?_))))
  rw [overAE_pass _ hm]
  exact wpAny_pure (wpAny_bind (I.type.at (wpAny_bind ((W.looks_findIn X ha).at (wpAny_bind (taker.at q))))))
theorem first_field {K : W.Frag} {name : Str} {tk : Tok} {v : Value} {x C : Addr} {fv : Array Value} {cd : ClassData} (X : K.In hp) (hx : hp.get? x = some { cls := .ref C, data := .fields fv }) (hcd : W.clsIn K C = some cd) (hm : overAE cd.mro = true) (hh : cd.hasDict = true) (ha : W.findIn K (.ref C) name = some none)
    (q : ∀ h' tk' dx, (∀ b o, b ≠ x → hp.get? b = some o → h'.get? b = some o) → hp.objs.size ≤ dx → dx ≠ x → h'.get? x = some { cls := .ref C, dict := some dx, data := .fields fv } → h'.Ns1 dx (fun y => if y = name then some v else none) → R (.ok (.ret .none)) ⟨h', g, d, tk', os⟩) :
    codeAny (model prog w) A (.call (.builtin "object.__setattr__") ⟨[.ref x, .str name tk, v], []⟩) R ⟨hp, g, d, t, os⟩ := by
  have I : W.InstAt hp x { cls := .ref C, data := .fields fv } C none := ⟨hx, rfl, rfl, trivial⟩
  refine to_own_dict X I hcd hm ha ?_
  have look : W.Looks (model prog w) hp (classData C) cd := W.looks_clsIn X hcd
  have apart : x ≠ hp.objs.size := Nat.ne_of_lt (Heap.lt_size hx)
  obtain ⟨nm, bs, mro, ns, qn, hd, sn, sb, ab, col, del⟩ := cd
  dsimp only at hh
  subst hh
  unfold storeInOwnDict ownDictForStores
  repeat (first | with_reducible refine store_in_new ?_ ?_ | with_reducible refine wpAny_loadPart_at hx ?_ | with_reducible refine look.at ?_ | wp_step)
  · exact ⟨_, #[], _, (Heap.get?_update_ne _ _ _ _ apart.symm).trans (Heap.get?_push_at rfl rfl), rfl, fun e he => absurd he (by simp), fun _ => rfl⟩
  · intro h' tk' hn' sb
    have hx2 : (hp.push { cls := .type "dict", data := .dict #[] }).get? x = some { cls := .ref C, data := .fields fv } := Heap.get?_push_of_some _ hx
    refine q h' tk' hp.objs.size (fun b o hb ho => ?_) (Nat.le_refl _) apart.symm ((sb.2 x apart).trans (Heap.get?_update_self _ hx2 rfl)) hn'
    exact (sb.2 b (Nat.ne_of_lt (Heap.lt_size ho))).trans ((Heap.get?_update_ne _ _ _ _ hb).trans (Heap.get?_push_of_some _ ho))
theorem next_field {K : W.Frag} {name : Str} {tk : Tok} {v : Value} {x C dx : Addr} {fv : Array Value} {cd : ClassData} {m0 : Str → Option Value} {nl : List Str} (X : K.In hp) (hx : hp.get? x = some { cls := .ref C, dict := some dx, data := .fields fv }) (hns : hp.Ns1 dx m0) (hw : Within m0 nl) (hz : nl.length ≤ 1000)
    (hcd : W.clsIn K C = some cd) (hm : overAE cd.mro = true) (hh : cd.hasDict = true) (ha : W.findIn K (.ref C) name = some none)
    (q : ∀ h' tk', (∀ b o, b ≠ dx → hp.get? b = some o → h'.get? b = some o) → h'.Ns1 dx (fun y => if y = name then some v else m0 y) → R (.ok (.ret .none)) ⟨h', g, d, tk', os⟩) :
    codeAny (model prog w) A (.call (.builtin "object.__setattr__") ⟨[.ref x, .str name tk, v], []⟩) R ⟨hp, g, d, t, os⟩ := by
  obtain ⟨oD, _, _, hoD, _, _⟩ := hns.count hw
  have I : W.InstAt hp x { cls := .ref C, dict := some dx, data := .fields fv } C (some oD) := ⟨hx, rfl, rfl, hoD⟩
  refine to_own_dict X I hcd hm ha ?_
  have look : W.Looks (model prog w) hp (classData C) cd := W.looks_clsIn X hcd
  obtain ⟨nm, bs, mro, ns, qn, hd, sn, sb, ab, col, del⟩ := cd
  dsimp only at hh
  subst hh
  unfold storeInOwnDict ownDictForStores
  repeat (first | with_reducible refine OEX.store_in_old hns hw hz ?_ | with_reducible refine wpAny_loadPart_at hx ?_ | with_reducible refine look.at ?_ | wp_step)
  exact fun h' tk' hn' sb => q h' tk' (fun b o hb ho => (sb.2 b hb).trans ho) hn'
end
/-- what the written part says of the class -/
structure AeC (K : PySem.W.Frag) (C : Addr) : Prop where
  cls : ∃ nm q N bs bm sn sub ab col dd k0 k1 k2 k3 k5, K.lookup C = some (excClassObj nm q C N bs bm true sn sub ab col dd k0 k1 k2 k3 k5 "ArithmeticError.__new__") ∧ overAE bm = true
  sa : PySem.W.findIn K (.ref C) "__setattr__" = some (some (.builtin "object.__setattr__"))
  exC : PySem.W.subIn K (.ref C) (.type "BaseException") = some true
  tyC : PySem.W.typeIn K (.ref C) = some (.type "type")
  kC : PySem.W.keepIn K (.ref C) = true
theorem AeC.data {K : PySem.W.Frag} {C : Addr} (T : AeC K C) : ∃ cd, PySem.W.clsIn K C = some cd ∧ overAE cd.mro = true ∧ cd.hasDict = true := by
  obtain ⟨nm, q, N, bs, bm, sn, sub, ab, col, dd, k0, k1, k2, k3, k5, hC, hbm⟩ := T.cls
  refine ⟨{ name := nm, bases := bs, mro := .ref C :: bm, ns := N, qualname := q, hasDict := true, slotNames := sn, subclasses := sub, abstract := ab, collection := col, hasDel := false }, ?_, overAE_ref hbm, rfl⟩
  unfold PySem.W.clsIn
  rw [hC]
section
variable {X : Cx} {pins : List (Addr × Obj)} {σ : L2.St} {H : Hp} {s : Shared} {a C dx : Addr} {f : Str} {y : V} {u : Value} {fs : List (Str × V)} {A : Around}
theorem put_first {Q : Unit → Shared → Prop} {E : Value → Shared → Prop} (T : AeC X.K C) (I : Inv X pins σ H s) (e : H a = some (exo a C none)) (hno : PySem.W.findIn X.K (.ref C) f = some none) (ry : RelV y u)
    (q : ∀ dx s', H dx = none → dx ≠ a → Inv X pins σ (upd (upd H dx (exd dx [(f, y)])) a (exo a C (some dx))) s' → Q () s') : wpAny (model X.prog X.w) A (setAttr (.ref a) f u) Q E s := by
  obtain ⟨cd, c1, c2, c3⟩ := T.data
  obtain ⟨t1, ho⟩ := exo_at I.hok e
  obtain ⟨hp, g, d, t, os⟩ := s
  refine PySem.W.set_plain I.kIn (ox := { cls := .ref C, dict := none, data := .fields #[.ref t1, .none, .none, .none, .bool false, .none] }) (od := none) ⟨ho, rfl, rfl, trivial⟩ T.sa ?_
  refine first_field I.kIn ho c1 c2 c3 hno (fun h' tk' dx k dn dne hx hn => ?_)
  have hnd : H dx = none := I.hok.fresh dn
  have lt : ∀ {b : Addr} {o : Obj}, hp.get? b = some o → b ≠ dx := fun {b o} z => Nat.ne_of_lt (Nat.lt_of_lt_of_le (Heap.lt_size z) dn)
  have ne : ∀ {b : Addr}, H b = none → b ≠ a := fun {b} n z => by rw [z, e] at n; cases n
  have un : Un X.fs [] H (upd (upd H dx (exd dx [(f, y)])) a (exo a C (some dx))) hp h' := {
    keep := fun b o z n _ _ => k b o (ne n) z
    slot := fun b o z n _ _ => ⟨o.slots, k b o (ne n) z⟩
    free := fun b o z n _ => by rw [upd_ne (ne n), upd_ne (lt z)]; exact n
    there := fun b o z _ => by
      by_cases hb : b = a
      · exact ⟨_, by rw [hb]; exact hx⟩
      · exact ⟨o, k b o hb z⟩
    tups := fun b xs z => by rw [upd_ne (at_ne e z exo_tup), upd_ne (ne_of_none z hnd)]; exact z
    frzs := fun b o v z => by rw [upd_ne (at_ne e z exo_frz), upd_ne (ne_of_none z hnd)]; exact z
    tbls := fun b ps z => ⟨#[], by rw [upd_ne (at_ne e z exo_tbl), upd_ne (ne_of_none z hnd), z]; simp⟩ }
  refine q dx _ hnd dne (I.un (t' := tk') un fun b o z => ?_)
  by_cases hb : b = a
  · subst hb
    rw [upd_same] at z
    cases z
    exact exo_ok hx
  · rw [upd_ne hb] at z
    by_cases hd : b = dx
    · subst hd
      rw [upd_same] at z
      cases z
      exact exd_ok hn (relO_put (fs := []) ry fun g => True.intro)
    · rw [upd_ne hd] at z
      refine (I.hok b o z).stay (fun c v hc y => k c v ?_ y) (fun c hc => ?_) (fun c xs hc => ?_)
      · rcases hc with hc | hc
        · rw [hc]; exact hb
        · exact at_ne e hc exo_own
      · rw [upd_ne (at_ne e hc exo_own), upd_ne (ne_of_none hc hnd)]; exact hc
      · rw [upd_ne (at_ne e hc exo_tup), upd_ne (ne_of_none hc hnd)]; exact hc
theorem put_next {Q : Unit → Shared → Prop} {E : Value → Shared → Prop} (T : AeC X.K C) (I : Inv X pins σ H s) (e : H a = some (exo a C (some dx))) (ed : H dx = some (exd dx fs)) (hl : fs.length ≤ 900) (hno : PySem.W.findIn X.K (.ref C) f = some none) (ry : RelV y u)
    (q : ∀ s', Inv X pins σ (upd H dx (exd dx ((f, y) :: fs))) s' → Q () s') : wpAny (model X.prog X.w) A (setAttr (.ref a) f u) Q E s := by
  obtain ⟨cd, c1, c2, c3⟩ := T.data
  obtain ⟨t1, ho⟩ := exo_at I.hok e
  obtain ⟨mA, hns, rel⟩ := exd_at I.hok ed
  have hw := within_of rel
  obtain ⟨hp, g, d, t, os⟩ := s
  obtain ⟨oD, _, _, hoD, _, _⟩ := hns.count hw
  refine PySem.W.set_plain I.kIn (ox := { cls := .ref C, dict := some dx, data := .fields #[.ref t1, .none, .none, .none, .bool false, .none] }) (od := some oD) ⟨ho, rfl, rfl, hoD⟩ T.sa ?_
  refine next_field I.kIn ho hns hw (by rw [List.length_map]; omega) c1 c2 c3 hno (fun h' tk' k hn => ?_)
  have there : ∃ o, h'.get? dx = some o := let ⟨o, _, _, z, _⟩ := hn; ⟨o, z⟩
  exact q _ (I.write (t' := tk') (x := dx) (e := dx) (o := exd dx ((f, y) :: fs)) (by rw [ed]; exact True.intro) (.inl rfl) k there (exd_ok hn (relO_put ry rel)))
/-- ArithmeticError.__init__(self, ..): nothing of it is told -/
theorem base_init {us : List Value} {Q : Value → Shared → Prop} {E : Value → Shared → Prop} (T : AeC X.K C) (I : Inv X pins σ H s) (e : H a = some (exo a C none)) (hl : us.length ≤ sizeLine) (q : ∀ s', Inv X pins σ H s' → Q .none s') :
    wpAny (model X.prog X.w) A (call (.builtin "ArithmeticError.__init__") (.ref a :: us)) Q E s := by
  obtain ⟨nm, qn, N, bs, bm, sn, sub, ab, col, dd, k0, k1, k2, k3, k5, hC, hbm⟩ := T.cls
  obtain ⟨t1, ho⟩ := exo_at I.hok e
  obtain ⟨hp, g, d, t, os⟩ := s
  refine wpAny_call (init_base F.excBase_ArithmeticError (overAE_has hbm) (I.kIn _ _ hC) ho hl fun h' t2 k hx => ?_)
  have J := I.write (t' := t) (x := a) (e := a) (o := exo a C none) (by rw [e]; exact True.intro) (.inl rfl) k ⟨_, hx⟩ (exo_ok hx)
  rw [show upd H a (exo a C none) = H from funext fun b => by
    by_cases hb : b = a
    · rw [hb, upd_same, e]
    · rw [upd_ne hb]] at J
  exact q _ J
end
end Ax
set_option Elab.async false
set_option linter.all false
set_option maxRecDepth 100000
set_option maxHeartbeats 4000000
namespace Ax
open PySem L2 PySem.Spec PyProof.Rows PySem.HandSPX
/-- Base.__init__(self, ..), Base an own class under ArithmeticError without an __init__ -/
def tBaseInit (K : PySem.W.Frag) (ta : TA) : TE := fun σ H Q => ta σ H fun vs H1 => ∃ (a C : Addr) (ws : List V), vs = .ref a :: ws ∧ ws.length ≤ 1000 ∧ AeC K C ∧ H1 a = some (exo a C none) ∧ Q .non H1
/-- self.f = e -/
def tPut (K : PySem.W.Frag) (f : Str) (to te : TE) : TS := fun D σ H => te σ H fun y H1 => to σ H1 fun x H2 => ∃ a C : Addr, x = .ref a ∧ AeC K C ∧ PySem.W.findIn K (.ref C) f = some none ∧
  ((H2 a = some (exo a C none) ∧ ∀ dx, H2 dx = none → dx ≠ a → D.nx σ (upd (upd H2 dx (exd dx [(f, y)])) a (exo a C (some dx)))) ∨
    ∃ (dx : Addr) (fs : List (Str × V)), H2 a = some (exo a C (some dx)) ∧ H2 dx = some (exd dx fs) ∧ fs.length ≤ 900 ∧ D.nx σ (upd H2 dx (exd dx ((f, y) :: fs))))
/-- what is known of the base's name -/
structure BaseC (K : PySem.W.Frag) (mg : Str → Option Value) (x : Str) (C : Addr) : Prop where
  gl : mg x = some (.ref C)
  ga : PySem.W.specialIn K (.ref C) "__getattribute__" = some (some (.builtin "type.__getattribute__"))
  rd : PySem.W.readsIn K C (.type "type") = true
  at_ : PySem.W.findCls K (.ref C) (.type "type") "__init__" = some (.val (.builtin "ArithmeticError.__init__"))
section
variable {X : Cx} {o e : Expr} {es : List Expr} {to te : TE} {ta : TA} {f x : Str} {p p' p1 p2 pos : Pos}
theorem pe_baseInit {pl : Sem Bool} {CB : Addr} (T : BaseC X.K X.mg x CB) (hg : Gl X x) (ha : PA X (e :: es) ta) (hdb : (x == ("__debug__" : Str)) = false := by decide)
    (hc : eval (.Call (.Attribute (.Name x p1) "__init__" p2) (e :: es) [] pos) X.env = (do
      let ov ← eval (.Name x p1) X.env
      standAt p2.atName
      let (f, first) ← holding [ov] (getMethod ov "__init__" pl)
      callWith pos f first (backTo pos (starEach (e :: es) X.env)) (backToKw pos (keywordEach [] X.env))) := by rfl)
    (he : starEach (e :: es) X.env = (false, eval e X.env) :: starEach es X.env := by rfl) (hpl : (backTo pos (starEach es X.env)).any (·.1) = false := by rfl) :
    PE X (.Call (.Attribute (.Name x p1) "__init__" p2) (e :: es) [] pos) (tBaseInit X.K ta) := by
  refine ⟨fun pins s σ H Q I h => ?_⟩
  refine PySem.W.methodCall_KW (ld_glob I hg T.gl ?_ hdb) hc
  refine PySem.W.method_cls I.kIn T.ga (PySem.W.cls_value I.kIn T.rd T.at_ (by decide +kernel) ?_)
  show wpAny _ _ (callWith pos (Value.builtin "ArithmeticError.__init__") [] (backTo pos (starEach (e :: es) X.env)) []) _ _ _
  refine PyProof.Rows.callWith_method1 (thn (ha.run pos pins _ σ H _ (I.tok _) h) fun us s1 ⟨vs, H1, I1, r1, a, C, ws, ev, hl, T', ea, q⟩ => ?_) he hpl
  subst ev
  cases r1 with
  | @cons _ u0 _ ur ra rw' =>
    obtain rfl : u0 = Value.ref a := ra
    have hlen : ur.length ≤ sizeLine := by
      rw [← Paired.length rw', sizeLine_eq]
      omega
    exact base_init T' I1 ea hlen fun s' J => ⟨.non, H1, J, rfl, q⟩
theorem ps_put (ho : PE X o to) (he : PE X e te) (hs : swapsWith e (some (.Attribute o f p')) pos.line X.env = pure false := by rfl) : PS X (.Assign [.Attribute o f p'] e pos) (tPut X.K f to te) := by
  refine ⟨fun pins s σ H D I h => ?_⟩
  refine plainObj_wpAny_Assign_Attribute (thn (he.run pins s σ H _ I h) fun v s1 ⟨y, H1, I1, r1, q1⟩ => thn (ho.run pins s1 σ H1 _ I1 q1) fun u s2 ⟨x, H2, I2, r2, a, C, ex, T, hno, q⟩ => ?_) hs
  subst ex
  obtain rfl : u = Value.ref a := r2
  rcases q with ⟨ea, q⟩ | ⟨dx, fs, ea, ed, hl, q⟩
  · exact put_first T I2 ea hno r1 fun dx s' n ne J => ⟨σ, _, J, q dx n ne⟩
  · exact put_next T I2 ea ed hl hno r1 fun s' J => ⟨σ, _, J, q⟩
/-- C(e, ..), C's own __init__ keeping sp -/
theorem pmk_ae {CX : CXT} {C fI : Addr} {k : Nat} {fd : FuncData} {ps : List Str} {sp : Sp} {ds : List Value} {dvs : List V} (T : AeC X.K C) (iC : PySem.W.findIn X.K (.ref C) "__init__" = some (some (.ref fI))) (tI : PySem.W.typeIn X.K (.ref fI) = some (.type "function"))
    (F1 : FnOk X.prog X.w X.K X.mg X.base CX k fI fd ps sp) (hr : Room (k + 1) X.A) (hb : Binds X.K fd ps ds) (hd : Vals dvs ds) (hx : Passes CX X (fun _ _ _ => False)) (hg : Gl X x) (hm : X.mg x = some (.ref C)) (ha : PA X (e :: es) ta)
    (hdb : (x == ("__debug__" : Str)) = false := by decide) (he : starEach (e :: es) X.env = (false, eval e X.env) :: starEach es X.env := by rfl) (hpl : (backTo pos (starEach es X.env)).any (·.1) = false := by rfl) :
    PMk X (.Call (.Name x p) (e :: es) [] pos) (tMkO C sp dvs ta) := by
  intro pins s σ H Q I h
  obtain ⟨nm, qn, N, bs, bm, sn, sub, ab, col, dd, k0, k1, k2, k3, k5, hC, hbm⟩ := T.cls
  refine wpAny_Call_Name_kw (ld_glob I hg hm ?_ hdb)
  refine PySem.W.callWith_K (h₀ := X.base) I.ok.mod.kin T.kC (thn (ha.run pos pins s σ H _ I h) fun us s1 ⟨vs, H1, I1, r1, hz, q1⟩ => ⟨I1.kIn, ?_⟩) he hpl
  show wpAny _ _ (call (.ref C) us) _ _ _
  obtain ⟨hp, g, dr, tk, os⟩ := s1
  have up : hp.objs.size ≤ hp.objs.size + 1 := Nat.le_succ _
  have new : H1 (hp.objs.size + 1) = none := I1.hok.fresh up
  have body := q1 (hp.objs.size + 1) new
  have keep : ∀ b o, hp.get? b = some o → ((hp.push (PySem.W.kdv_tup us)).push (excO C hp.objs.size)).get? b = some o := fun b o z => Heap.get?_push_of_some _ (Heap.get?_push_of_some _ z)
  have self : ((hp.push (PySem.W.kdv_tup us)).push (excO C hp.objs.size)).get? (hp.objs.size + 1) = some (excO C hp.objs.size) := by heap_get
  have I2 : Inv X pins σ (upd H1 (hp.objs.size + 1) (exo (hp.objs.size + 1) C none)) ⟨(hp.push (PySem.W.kdv_tup us)).push (excO C hp.objs.size), g, dr, tk, os⟩ :=
    I1.laid (t' := tk) (a := hp.objs.size + 1) (o := exo (hp.objs.size + 1) C none) (h' := (hp.push (PySem.W.kdv_tup us)).push (excO C hp.objs.size)) keep up (exo_ok self)
  have r2 : Vals (V.ref (hp.objs.size + 1) :: (vs ++ dvs)) (Value.ref (hp.objs.size + 1) :: (us ++ ds)) := .cons rfl (r1.append hd)
  have hl : (Value.ref (hp.objs.size + 1) :: us ++ ds).length = ps.length := by
    have z := r2.length
    rw [F1.len _ _ _ _ body] at z
    exact z.symm
  have hus : us.length ≤ sizeLine := by
    rw [← Paired.length r1, sizeLine_eq]
    omega
  refine wpAny_call (call_own F.excBase_ArithmeticError (overAE_has hbm) (I1.kIn _ _ hC) (PySem.W.looks_findIn I1.kIn iC) (fun self => PySem.W.bind_fn I1.kIn self tI) hus
    (codeAny_mono (F1.run _ X.stack _ _ ⟨Value.ref (hp.objs.size + 1) :: us, []⟩ (Value.ref (hp.objs.size + 1) :: (us ++ ds)) _ _ (fun _ _ _ => False) (hr.make C us []) (I2.env0.make C us []) (hb _ (Value.ref (hp.objs.size + 1) :: us) I2.kIn hl) r2 body) fun r s' z => ?_))
  cases r with
  | error er => exact hx pins σ _ _ er s' I2 z
  | ok fl =>
    cases fl with
    | ret u =>
      obtain ⟨v, H2, os2, bare2, un2, hok2, rv, ev, d, fs, ea, ed, hd1, q2⟩ := z
      subst ev
      obtain ⟨h2, g2, d2, t2, os'⟩ := s'
      exact ⟨rv, mk_end (raises_own T.exC T.tyC) I1 up keep un2 hok2 os2 bare2 ea ed hd1 q2⟩
    | next => exact False.elim z
    | brk => exact False.elim z
    | cont => exact False.elim z
end
end Ax
set_option Elab.async false
set_option linter.all false
set_option maxRecDepth 100000
set_option maxHeartbeats 4000000
/-! o.m(e, ..) within a try: what is let out is wished for at the caller's slots -/
namespace Ax
open PySem L2 PySem.Spec PyProof.Rows PySem.HandSPX
def tMethW (C : Addr) (m : Str) (sp : Sp) (E : L2.St → XK) (ta : TE) (t : TA) : TE := fun σ H Q => ta σ H fun x H1 => ∃ a dx fs, x = .ref a ∧ H1 a = some (.ins C dx fs) ∧ fs.lookup m = none ∧ t σ H1 fun vs H2 => sp (x :: vs) H2 Q (E σ)
section
variable {X : Cx} {CX : CXT} {k : Nat} {f C : Addr} {fd : FuncData} {ps : List Str} {sp : Sp} {E : L2.St → XK} {x m : Str} {p pos apos : Pos} {e o : Expr} {es : List Expr} {ta : TE} {t : TA}
theorem pe_methW {pl : Sem Bool} (he : PE X o ta) (c : Cls X.K C) (hm : Meth X.K C m f) (F : FnOk X.prog X.w X.K X.mg X.base CX k f fd ps sp) (hr : Room k X.A) (hb : Binds X.K fd ps []) (hx : ∀ σ, PassesAt CX X σ (E σ)) (ha : PA X (e :: es) t)
    (hst : starEach (e :: es) X.env = (false, eval e X.env) :: starEach es X.env := by rfl) (hpl : (backTo pos (starEach es X.env)).any (·.1) = false := by rfl)
    (ht : eval (.Call (.Attribute o m apos) (e :: es) [] pos) X.env = (do
      let ov ← eval o X.env
      standAt apos.atName
      let (f, first) ← holding [ov] (getMethod ov m pl)
      callWith pos f first (backTo pos (starEach (e :: es) X.env)) (backToKw pos (keywordEach [] X.env))) := by rfl) :
    PE X (.Call (.Attribute o m apos) (e :: es) [] pos) (tMethW C m sp E ta t) := by
  refine ⟨fun pins s σ H Q I h => ?_⟩
  refine PySem.W.methodCall_KW (pl := pl) (thn (he.run pins s σ H _ I h) fun u s1 ⟨x, H1, I1, rx, a, dx, fs, ex, ea, l, q⟩ => ?_) ht
  subst ex
  obtain rfl : u = Value.ref a := rx
  refine getmeth_ok I1 ea c hm l ?_
  refine PySem.W.callWith_K (first := [.ref a]) (h₀ := X.base) I.ok.mod.kin hm.kp (thn (ha.run pos pins s1 σ H1 _ I1 q) fun us s2 ⟨vs, H2, I2, r, q2⟩ => ⟨I2.kIn, ?_⟩) hst hpl
  exact run_fnS (us := .ref a :: us) (vs := .ref a :: vs) F hr hb (hx σ) I2 (.cons rfl r) q2
end
end Ax
set_option Elab.async false
set_option linter.all false
set_option maxRecDepth 100000
set_option maxHeartbeats 4000000
/-! == of equal nested tuples, lists and dicts -/
namespace Mv
open PySem L2 PySem.Spec PyProof.Rows
/-- equal, of nesting at most n -/
def EqT (K : PySem.W.Frag) (H : Hp) : Nat → V → V → Prop
  | 0 => fun x y => x = y ∧ flatB x = true
  | n + 1 => fun x y => (x = y ∧ flatB x = true) ∨ (∃ a, x = .ref a ∧ y = .ref a) ∨
    (∃ a b xs ys, x = .ref a ∧ y = .ref b ∧ SqL K H a xs ∧ SqL K H b ys ∧ Paired (EqT K H n) xs ys) ∨
    (∃ a b xs ys, x = .ref a ∧ y = .ref b ∧ SqT K H a xs ∧ SqT K H b ys ∧ Paired (EqT K H n) xs ys) ∨
    ∃ a b ks ls, x = .ref a ∧ y = .ref b ∧ H a = some (.dK ks) ∧ H b = some (.dK ls) ∧ ks.length = ls.length ∧ ∀ p ∈ ks, ∃ u, valV ls p.1 = some u ∧ EqT K H n p.2 u
section
variable {X : Cx} {pins : List (Addr × Obj)} {σ : L2.St} {H : Hp} {s : Shared}
theorem pairs_tree {n : Nat} {F : V → V → Prop} (ih : ∀ x y v u, F x y → RelV x v → RelV y u → PySem.W.EqTree X.prog X.w s n v u true) {xs ys : List V} (hp : Paired F xs ys) :
    ∀ {us ws : List Value}, Vals xs us → Vals ys ws → us.length = ws.length ∧ ∀ j (h1 : j < us.length) (h2 : j < ws.length), PySem.W.EqTree X.prog X.w s n us[j] ws[j] true := by
  induction hp with
  | nil =>
    intro us ws r1 r2
    cases r1
    cases r2
    exact ⟨rfl, fun j h1 => absurd h1 (Nat.not_lt_zero j)⟩
  | cons h _ k =>
    intro us ws r1 r2
    cases r1 with
    | cons a1 b1 =>
      cases r2 with
      | cons a2 b2 =>
        obtain ⟨k1, k2⟩ := k b1 b2
        refine ⟨by rw [List.length_cons, List.length_cons, k1], fun j h1 h2 => ?_⟩
        cases j with
        | zero => exact ih _ _ _ _ h a1 a2
        | succ j => exact k2 j (Nat.lt_of_succ_lt_succ h1) (Nat.lt_of_succ_lt_succ h2)
theorem paired_mem {A B : Type} {F : A → B → Prop} {xs : List A} {ys : List B} (h : Paired F xs ys) {y : B} (hy : y ∈ ys) : ∃ x ∈ xs, F x y := by
  induction h with
  | nil => cases hy
  | cons h _ ih =>
    rcases List.mem_cons.mp hy with rfl | hy
    · exact ⟨_, List.mem_cons_self, h⟩
    · obtain ⟨x, h1, h2⟩ := ih hy
      exact ⟨x, List.mem_cons_of_mem _ h1, h2⟩
theorem all_true (n : Nat) : ((List.range n).all fun _ => true) = true := List.all_eq_true.mpr fun _ _ => rfl
theorem eqT_tree (I : Inv X pins σ H s) : ∀ (n : Nat) (x y : V) (v u : Value), EqT X.K H n x y → RelV x v → RelV y u → PySem.W.EqTree X.prog X.w s n v u true
  | 0, x, y, v, u, h, rx, ry => by
    obtain ⟨rfl, f⟩ := h
    exact .leaf fun A _ => eqAt_same rx ry f
  | n + 1, x, y, v, u, h, rx, ry => by
    rcases h with ⟨rfl, f⟩ | ⟨a, rfl, rfl⟩ | ⟨a, b, xs, ys, rfl, rfl, ha, hb, hp⟩ | ⟨a, b, xs, ys, rfl, rfl, ha, hb, hp⟩ | ⟨a, b, ks, ls, rfl, rfl, ha, hb, hl, hp⟩
    · exact .leaf fun A _ => eqAt_same rx ry f
    · cases (show v = Value.ref a from rx)
      cases (show u = Value.ref a from ry)
      exact .same
    · cases (show v = Value.ref a from rx)
      cases (show u = Value.ref b from ry)
      by_cases e : a = b
      · subst e; exact .same
      · obtain ⟨us, r1, p1, _⟩ := I.list ha
        obtain ⟨ws, r2, p2, _⟩ := I.list hb
        obtain ⟨e1, e2⟩ := pairs_tree (eqT_tree I n) hp r1 r2
        have t := PySem.W.EqTree.lists (e := fun _ => true) e p1.isList p2.isList (by simpa using e1) fun j h1 h2 => by simpa using e2 j (by simpa using h1) (by simpa using h2)
        rwa [all_true] at t
    · cases (show v = Value.ref a from rx)
      cases (show u = Value.ref b from ry)
      by_cases e : a = b
      · subst e; exact .same
      · obtain ⟨us, r1, p1, _⟩ := I.tuple ha
        obtain ⟨ws, r2, p2, _⟩ := I.tuple hb
        obtain ⟨e1, e2⟩ := pairs_tree (eqT_tree I n) hp r1 r2
        have t := PySem.W.EqTree.tuples (e := fun _ => true) e p1 p2 fun j h1 h2 => by simpa using e2 j (by simpa using h1) (by simpa using h2)
        rw [all_true, show (us.toArray.size == ws.toArray.size) = true by simpa using e1] at t
        exact t
    · cases (show v = Value.ref a from rx)
      cases (show u = Value.ref b from ry)
      by_cases e : a = b
      · subst e; exact .same
      · obtain ⟨_, ya, va, ra, da⟩ := (show ObjOk X.prog X.w H s.heap a (.dK ks) from I.hok a _ ha)
        obtain ⟨_, yb, vb, rb, db⟩ := (show ObjOk X.prog X.w H s.heap b (.dK ls) from I.hok b _ hb)
        have find : ∀ k v, (k, v) ∈ va → ∃ p ∈ ks, p.1 = k ∧ RelV p.2 v := fun k v hm => by
          obtain ⟨p, h1, h2, h3⟩ := paired_mem (show Paired _ ks va from ra) hm
          exact ⟨p, h1, h2, h3⟩
        have t := PySem.W.EqTree.dicts (n := n) (e := fun _ => true) e ya yb da db fun k v y hm hy => by
          obtain ⟨p, h1, rfl, h3⟩ := find k v hm
          obtain ⟨u, hu, he⟩ := hp p h1
          have r := rb.val p.1
          rw [hu, hy] at r
          exact eqT_tree I n _ _ _ _ he h3 r
        rw [show (va.length == vb.length) = true from by rw [← ra.length, ← rb.length, hl]; simp, show (va.all fun p => (valueAt vb p.1).isSome && true) = true from List.all_eq_true.mpr fun q hq => by
          obtain ⟨k, v⟩ := q
          obtain ⟨p, h1, rfl, h3⟩ := find k v hq
          obtain ⟨u, hu, _⟩ := hp p h1
          have r := rb.val p.1
          rw [hu] at r
          obtain ⟨z, hz, _⟩ := RelO.some_of r
          rw [hz]; rfl] at t
        exact t
end
/-- a == b, two tuples that are equal -/
def rEqT (K : PySem.W.Frag) : R2 := fun x y H Q => ∃ (n : Nat) (a b : Addr) (xs ys : List V), n ≤ 60 ∧ x = .ref a ∧ y = .ref b ∧ SqT K H a xs ∧ SqT K H b ys ∧ Paired (EqT K H n) xs ys ∧ Q (.bl true) H
theorem op_eqT {X : Cx} (hu : X.A.units + 64 < cLine) : OpR X (compareOp .Eq) (rEqT X.K) := by
  intro pins s σ H x y v u Q I rx ry h
  obtain ⟨n, a, b, xs, ys, hn, rfl, rfl, ha, hb, hp, q⟩ := h
  cases (show v = Value.ref a from rx)
  cases (show u = Value.ref b from ry)
  obtain ⟨us, r1, p1, _⟩ := I.tuple ha
  obtain ⟨ws, r2, p2, _⟩ := I.tuple hb
  obtain ⟨e1, e2⟩ := pairs_tree (eqT_tree I n) hp r1 r2
  refine PySem.W.eq_tuplesT (n := n) (e := fun _ => true) p1 p2 (fun j h1 h2 => by simpa using e2 j (by simpa using h1) (by simpa using h2)) (by omega) ?_
  rw [all_true, show (us.toArray.size == ws.toArray.size) = true by simpa using e1]
  exact ⟨.bl true, H, I, rfl, q⟩
end Mv
set_option Elab.async false
set_option linter.all false
set_option maxRecDepth 100000
set_option maxHeartbeats 4000000
/-! set(d) of few small ints, and | of two such -/
namespace Mv
open PySem L2 PySem.Spec PyProof.Rows
/-! ### tables of few small hashes -/
def few : List Int := [1, 2, 4, 8]
def rows4 : Nat → List (List Int)
  | 0 => [[]]
  | n + 1 => few.flatMap fun u => (rows4 n).map (u :: ·)
theorem mem_rows4 : ∀ {hs : List Int}, (∀ h ∈ hs, h ∈ few) → hs ∈ rows4 hs.length
  | [], _ => List.mem_singleton.mpr rfl
  | h :: hs, a => List.mem_flatMap.mpr ⟨h, a h List.mem_cons_self, List.mem_map.mpr ⟨hs, mem_rows4 fun x hx => a x (List.mem_cons_of_mem _ hx), rfl⟩⟩
theorem few_len {hs : List Int} (nd : hs.Nodup) (a : ∀ h ∈ hs, h ∈ few) : hs.length ≤ 4 := by
  have key : ∀ (l D : List Int), l.Nodup → (∀ x ∈ l, x ∈ D) → l.length ≤ D.length := by
    intro l
    induction l with
    | nil => exact fun _ _ _ => Nat.zero_le _
    | cons x l ih =>
      intro D nd sub
      have hx := sub x List.mem_cons_self
      have := ih (D.erase x) (List.nodup_cons.mp nd).2 fun y hy => (List.mem_erase_of_ne (fun e => (List.nodup_cons.mp nd).1 (by rw [← e]; exact hy))).mpr (sub y (List.mem_cons_of_mem _ hy))
      rw [List.length_erase_of_mem hx] at this
      have := List.length_pos_of_mem hx
      rw [List.length_cons]
      omega
  exact key hs few nd a
/-- laid with the mask m: all is found, in rising places -/
def laysOk (m : Nat) (hs : List Int) : Bool := match SetTable.layClean m hs.toArray with
  | none => false
  | some ow => ((liveOf m ow).map (·.2)).isPerm (List.range hs.length) && decide (((liveOf m ow).map (·.1)).Pairwise (· < ·)) && decide (((liveOf m ow).map (·.1)).length = hs.length)
theorem all_lay15 : ∀ n, n ≤ 4 → ∀ hs ∈ rows4 n, hs.Nodup → laysOk 15 hs = true := by decide +kernel
theorem relaid_few (t : SetTable) {hs : List Int} {wanted : Nat} (hw : SetTable.sizeAbove wanted = 16) (nd : hs.Nodup) (a : ∀ h ∈ hs, h ∈ few) :
    ∃ t' order, t.relaid hs.toArray wanted = some (t', order) ∧ order.toList.Perm (List.range hs.length) ∧ t'.mask = 15 ∧ t'.place.size = hs.length ∧ t'.dummies = #[] ∧ Ris t'.place.toList ∧ t'.led = t.led := by
  have ok := all_lay15 _ (few_len nd a) hs (mem_rows4 a) nd
  unfold laysOk at ok
  rw [relaid_eq, hw]
  cases e : SetTable.layClean 15 hs.toArray with
  | none => rw [e] at ok; cases ok
  | some ow =>
    rw [e] at ok
    dsimp only at ok
    rw [Bool.and_eq_true, Bool.and_eq_true, decide_eq_true_eq, decide_eq_true_eq] at ok
    obtain ⟨⟨p1, p2⟩, p3⟩ := ok
    exact ⟨tabOf t 15 ow, ((liveOf 15 ow).map (·.2)).toArray, rfl, by rw [List.toList_toArray]; exact List.isPerm_iff.mp p1, rfl, by show ((liveOf 15 ow).map (·.1)).toArray.size = _; rw [List.size_toArray]; exact p3, rfl, by show Ris ((liveOf 15 ow).map (·.1)).toArray.toList; rw [List.toList_toArray]; exact p2, rfl⟩
section
variable {P : Program} {w : World} {A : Around} {E : Value → Shared → Prop} {s : Shared}
/-- a set of few small ints with a table of the mask 7 or 15 -/
def SetF (w : World) (h : Heap) (a : Addr) (S : Int → Bool) (n m : Nat) : Prop :=
  ∃ o es ep t, h.get? a = some o ∧ o.ExactSet ∧ o.data = .set es ep t ∧ (∀ e ∈ es.toList, GoodE e) ∧ (es.toList.map keyOf).Nodup ∧ (∀ k, S k = true ↔ k ∈ es.toList.map keyOf) ∧ (∀ k ∈ es.toList.map keyOf, k ∈ few) ∧
    t.place.size = es.size ∧ t.dummies = #[] ∧ t.mask = m ∧ es.size = n ∧ n ≤ 4 ∧ (m = 7 ∨ m = 15) ∧ Ris t.place.toList ∧ (w.params.followText "set-order" = true ∨ t.led = true)
theorem fits_few {t : SetTable} {n m : Nat} (h1 : t.place.size = n) (h2 : t.dummies = #[]) (h3 : t.mask = m) (h4 : n ≤ 4) (h5 : m = 7 ∨ m = 15) : t.fits n = true := by
  unfold SetTable.fits SetTable.fill
  rw [h2, Bool.and_eq_true, beq_iff_eq, decide_eq_true_eq]
  refine ⟨h1, ?_⟩
  show t.place.size + 0 ≤ t.mask
  omega
theorem SetF.toR {h : Heap} {a : Addr} {S : Int → Bool} {n m : Nat} (R : SetF w h a S n m) : SetR w h a S n := by
  obtain ⟨o, es, ep, t, h1, h2, h3, h4, h5, h6, h7, h8, h9, h10, h11, h12, h13, h14, h15⟩ := R
  exact ⟨o, es, ep, t, h1, h2, h3, h4, h5, h6, by unfold scanBound; omega, fits_few h8 h9 h10 (by omega) h13, h11, h14, h15⟩
theorem hash_few {k : Int} (h : k ∈ few) : hashInt k = k := by
  unfold few at h
  rcases List.mem_cons.mp h with rfl | h
  · decide +kernel
  rcases List.mem_cons.mp h with rfl | h
  · decide +kernel
  rcases List.mem_cons.mp h with rfl | h
  · decide +kernel
  rcases List.mem_cons.mp h with rfl | h
  · decide +kernel
  · cases h
theorem hashes_few : ∀ {l : List (Int × Value)}, (∀ e ∈ l, GoodE e) → (∀ k ∈ l.map keyOf, k ∈ few) → l.map (·.1) = l.map keyOf
  | [], _, _ => rfl
  | e :: l, g, a => by
    rw [List.map_cons, List.map_cons, hashes_few (fun x hx => g x (List.mem_cons_of_mem _ hx)) fun k hk => a k (by rw [List.map_cons]; exact List.mem_cons_of_mem _ hk)]
    obtain ⟨k, tk, e1, e2⟩ := g e List.mem_cons_self
    have ek : keyOf e = k := by unfold keyOf; rw [e1]
    have := hash_few (a k (by rw [List.map_cons, ek]; exact List.mem_cons_self))
    rw [ek, e2, this]
/-- the table laid anew for five to seven -/
theorem relay_few {a : Addr} {S : Int → Bool} {n m wanted : Nat} (R : SetF w s.heap a S n m) (hw : SetTable.sizeAbove wanted = 16) {Q : Unit → Shared → Prop}
    (q : ∀ h', Heap.SameBut a s.heap h' → SetF w h' a S n 15 → Q () { s with heap := h' }) : wpAny (model P w) A (setRelay a wanted) Q E s := by
  obtain ⟨o, es, ep, t, h1, h2, h3, h4, h5, h6, h7, h8, h9, h10, h11, h12, h13, h14, h15⟩ := R
  have hh := hashes_few h4 h7
  have fits := fits_few h8 h9 h10 (by omega) h13
  obtain ⟨t', order, r1, r2, r3, r4, r5, r6, r7⟩ := relaid_few t (hs := es.toList.map (·.1)) hw (by rw [hh]; exact h5) (by rw [hh]; exact h7)
  have ea : (es.toList.map (·.1)).toArray = es.map (·.1) := by rw [← Array.toList_map]
  rw [ea] at r1
  rw [List.length_map, Array.length_toList] at r2 r4
  have pm : (order.filterMap fun i => es[i]?).toList.Perm es.toList := by
    rw [Array.toList_filterMap]
    have p := r2.filterMap fun i => es[i]?
    have up : ∀ j, j ≤ es.size → (List.range j).filterMap (fun i => es[i]?) = es.toList.take j := by
      intro j
      induction j with
      | zero => exact fun _ => rfl
      | succ j ih =>
        intro hj
        have hE : es[j]? = some es[j] := Array.getElem?_eq_getElem (by omega)
        rw [List.range_succ, List.filterMap_append, ih (by omega), List.filterMap_cons_some hE, List.take_succ, Array.getElem?_toList, hE]; rfl
    rw [up _ (Nat.le_refl _), ← Array.length_toList, List.take_length] at p
    exact p
  have hz : (order.filterMap fun i => es[i]?).size = es.size := by rw [← Array.length_toList, pm.length_eq, Array.length_toList]
  rw [setRelay_eq]
  refine wpAny_bind (wpAny_setState_of h1 h3 fits ?_)
  dsimp only
  rw [if_neg (by rw [hw, sizeLine_eq]; omega), r1]
  dsimp only
  rw [if_neg (by rw [hz]; simp)]
  refine wpAny_bind (wpAny_pure ?_)
  dsimp only
  refine wpAny_storeSet_of h1 h3 ?_ (by rw [hz, h11, sizeLine_eq]; omega)
  have sb : Heap.SameBut a s.heap (s.heap.update a (Obj.putSet (order.filterMap fun i => es[i]?) t')) := Heap.SameBut.update ..
  refine q _ sb ⟨_, _, ep + 1, t', store_at h1 h3, ⟨h2.1, h2.2.1, h2.2.2⟩, rfl, fun e he => h4 e (pm.mem_iff.mp he), (pm.map keyOf).nodup_iff.mpr h5, fun k => (h6 k).trans (pm.map keyOf).mem_iff.symm, fun k hk => h7 k ((pm.map keyOf).mem_iff.mp hk), by rw [r4, hz], r5, r3, by rw [hz]; exact h11, h12, .inr rfl, r6, by rw [r7]; exact h15⟩
end
end Mv
set_option Elab.async false
set_option linter.all false
set_option maxRecDepth 100000
set_option maxHeartbeats 1000000
namespace Mv
open PySem L2 PySem.Spec PyProof.Rows
/-! ### the table of the mask 7 that few small ints have -/
def order4 : List Int := [8, 1, 2, 4]
def slotOf (k : Int) : Nat := (k % 8).toNat
def subs : List (List Int) := (List.range 16).map fun b => (order4.zipIdx.filter fun p => b / 2 ^ p.2 % 2 == 1).map (·.1)
def ins (k : Int) (hs : List Int) : List Int := order4.filter fun u => u == k || hs.contains u
def tab7 (b : Bool) (hs : List Int) : SetTable := { mask := 7, place := (hs.map slotOf).toArray, dummies := #[], finger := 0, led := b, moves := 0, plain := true }
def cutAt (b : Bool) (hs : List Int) (k : Int) : Nat := SetTable.below (tab7 b hs).place (slotOf k)
def stepOk (b : Bool) (hs : List Int) (k : Int) : Bool :=
  decide ((tab7 b hs).freeSlot k = some (slotOf k, false)) && decide ((tab7 b hs).put (slotOf k) = (tab7 b (ins k hs), cutAt b hs k)) &&
  decide (hs.take (cutAt b hs k) ++ k :: hs.drop (cutAt b hs k) = ins k hs) && subs.contains (ins k hs) && decide ((ins k hs).length = hs.length + 1) && decide (hs.length ≤ 3) && ((tab7 b (ins k hs)).fits (hs.length + 1)) && !((tab7 b (ins k hs)).tooFull)
theorem steps_ok : ∀ b : Bool, ∀ hs ∈ subs, ∀ k ∈ few, hs.contains k = false → stepOk b hs k = true := by decide +kernel
theorem subs_ok : ∀ hs ∈ subs, (hs.all fun k => few.contains k) = true ∧ hs.Nodup ∧ hs.length ≤ 4 ∧ (hs.map slotOf).Pairwise (· < ·) := by decide +kernel
theorem ins_mem : ∀ hs ∈ subs, ∀ k ∈ few, ∀ x ∈ few, (ins k hs).contains x = (x == k || hs.contains x) := by decide +kernel
section
variable {P : Program} {w : World} {A : Around} {E : Value → Shared → Prop} {s : Shared}
def ledOf (w : World) : Bool := !w.params.followText "set-order"
def SetC (w : World) (h : Heap) (a : Addr) (hs : List Int) : Prop :=
  ∃ o es ep, h.get? a = some o ∧ o.ExactSet ∧ o.data = .set es ep (tab7 (ledOf w) hs) ∧ (∀ e ∈ es.toList, GoodE e) ∧ es.toList.map keyOf = hs ∧ hs ∈ subs
theorem led_of (w : World) : w.params.followText "set-order" = true ∨ ledOf w = true := by
  unfold ledOf
  cases w.params.followText "set-order"
  · exact .inr rfl
  · exact .inl rfl
theorem subs_few {hs : List Int} (h : hs ∈ subs) {k : Int} (hk : k ∈ hs) : k ∈ few := List.contains_iff_mem.mp (List.all_eq_true.mp (subs_ok hs h).1 k hk)
theorem keys_size {es : Array (Int × Value)} {hs : List Int} (h : es.toList.map keyOf = hs) : es.size = hs.length := by rw [← h, List.length_map, Array.length_toList]
theorem SetC.toF {h : Heap} {a : Addr} {hs : List Int} (R : SetC w h a hs) : SetF w h a (fun k => hs.contains k) hs.length 7 := by
  obtain ⟨o, es, ep, h1, h2, h3, h4, h5, h6⟩ := R
  obtain ⟨s1, s2, s3, s4⟩ := subs_ok hs h6
  have hz := keys_size h5
  exact ⟨o, es, ep, _, h1, h2, h3, h4, by rw [h5]; exact s2, fun k => by rw [h5]; exact List.contains_iff_mem, fun k hk => subs_few h6 (by rw [← h5]; exact hk), by
    show ((hs.map slotOf).toArray).size = _
    rw [List.size_toArray, List.length_map, hz], rfl, rfl, hz, s3, .inl rfl, by
    show Ris ((hs.map slotOf).toArray).toList
    rw [List.toList_toArray]; exact s4, led_of w⟩
theorem SetC.new {h : Heap} {a : Addr} (ho : h.get? a = some { cls := .type "set", dict := none, data := .set #[] 0 (.fresh 0 0 (!w.params.followText "set-order")) }) : SetC w h a [] :=
  ⟨_, #[], 0, ho, ⟨rfl, rfl, rfl⟩, rfl, fun e he => (nomatch he), rfl, by decide +kernel⟩
/-- a further key -/
theorem SetC.add {a : Addr} {hs : List Int} {k : Int} {tk : Tok} {Q : Bool → Shared → Prop} (R : SetC w s.heap a hs) (hk : k ∈ few) (new : hs.contains k = false) (q : ∀ h', Heap.SameBut a s.heap h' → SetC w h' a (ins k hs) → Q true { s with heap := h' }) :
    wpAny (model P w) A (setAddHashed a (.int k tk) k) Q E s := by
  obtain ⟨o, es, ep, h1, h2, h3, h4, h5, h6⟩ := id R
  have st := steps_ok (ledOf w) hs h6 k hk new
  unfold stepOk at st
  simp only [Bool.and_eq_true, decide_eq_true_eq, Bool.not_eq_true'] at st
  obtain ⟨⟨⟨⟨⟨⟨⟨f1, f2⟩, f3⟩, f4⟩, f5⟩, f6⟩, f7⟩, f8⟩ := st
  have f4 : ins k hs ∈ subs := List.contains_iff_mem.mp f4
  have hz := keys_size h5
  have fits : (tab7 (ledOf w) hs).fits es.size = true := fits_few (m := 7) (by show ((hs.map slotOf).toArray).size = _; rw [List.size_toArray, List.length_map, hz]) rfl rfl (by omega) (.inl rfl)
  have hel : ElemsOf (intKind P w) es.toList := good_elems h4
  have hb : es.size < scanBound := by unfold scanBound; omega
  have hkey : (intKind P w).is k (.int k tk) = true := intKind_is P w k tk
  have hsc : (Value.int k tk).scannable = true := rfl
  have hhash : (intKind P w).hash k = k := hash_few hk
  have out : es.toList.findIdx? (fun e => (intKind P w).is k e.2) = none := List.findIdx?_eq_none_iff.mpr fun e he => by
    cases z : (intKind P w).is k e.2 with
    | false => rfl
    | true =>
      have : k ∈ es.toList.map keyOf := (good_mem (P := P) (w := w) h4 k).2 ⟨e, he, z⟩
      rw [h5, ← List.contains_iff_mem, new] at this
      cases this
  have scan : ∀ Q' : ScanMet → Shared → Prop, Q' .absent s → wpAny (model P w) A (setScan a (.int k tk) k true es) Q' E s := fun Q' q' => by
    have z := wpAny_setScan_of (A := A) (E := E) (Q := Q') (adding := true) hkey h1 h3 fits hel
    rw [hhash, out] at z
    exact z q'
  have new1 : layNew (tab7 (ledOf w) hs) es k (.int k tk) = (SetTable.insertAt es (cutAt (ledOf w) hs k) (k, .int k tk), tab7 (ledOf w) (ins k hs), false, false) := by
    have z1 : (SetTable.insertAt es (cutAt (ledOf w) hs k) (k, .int k tk)).size = hs.length + 1 := by
      rw [← Array.length_toList, SetTable.toList_insertAt, List.length_append, List.length_cons, List.length_take, List.length_drop, Array.length_toList, hz]
      omega
    unfold layNew
    rw [f1]
    dsimp only
    rw [f2]
    dsimp only
    rw [z1, f7]
    unfold SetTable.orStandIn
    rw [if_pos f7]; rfl
  unfold setAddHashed setAddHashedIn
  refine wpAny_holding (wpAny_bind (wpAny_setState_of h1 h3 fits ?_))
  dsimp only
  rw [byScan_of hsc hb hel, if_pos rfl]
  unfold setAddByScan
  refine wpAny_bind (wpAny_bind (wpAny_rule (wpAny_bind (scan _ ?_))))
  dsimp only
  rw [new1]
  dsimp only
  refine wpAny_bind (wpAny_of_eq (a := ()) (show (_ : Sem Unit) = pure () from rfl) ?_)
  rw [if_pos (show (tab7 (ledOf w) (ins k hs)).plain = true from rfl)]
  refine wpAny_bind (wpAny_of_eq (a := true) (show hashByValue 8 (.int k tk) = pure true from rfl) ?_)
  rw [if_pos rfl]
  refine wpAny_bind (wpAny_storeSet_of h1 h3 ?_ (by rw [← Array.length_toList, SetTable.toList_insertAt, List.length_append, List.length_cons, List.length_take, List.length_drop, Array.length_toList, hz, sizeLine_eq]; omega))
  rw [if_neg (by rw [f8]; decide)]
  have sb : Heap.SameBut a s.heap (s.heap.update a (Obj.putSet (SetTable.insertAt es (cutAt (ledOf w) hs k) (k, .int k tk)) (tab7 (ledOf w) (ins k hs)))) := Heap.SameBut.update ..
  refine wpAny_pure (wpAny_pure (q _ sb ⟨_, _, ep + 1, store_at h1 h3, ⟨h2.1, h2.2.1, h2.2.2⟩, rfl, fun e he => ?_, ?_, f4⟩))
  · rw [SetTable.toList_insertAt] at he
    rcases List.mem_append.mp he with he | he
    · exact h4 e (List.mem_of_mem_take he)
    · rcases List.mem_cons.mp he with rfl | he
      · exact ⟨k, tk, rfl, (hash_few hk).symm⟩
      · exact h4 e (List.mem_of_mem_drop he)
  · rw [SetTable.toList_insertAt, List.map_append, List.map_cons, List.map_take, List.map_drop, h5]
    exact f3
end
end Mv
set_option Elab.async false
set_option linter.all false
set_option maxRecDepth 100000
set_option maxHeartbeats 4000000
namespace Mv
open PySem L2 PySem.Spec PyProof.Rows
section
variable {P : Program} {w : World} {A : Around} {E : Value → Shared → Prop} {s : Shared}
/-- keys put in one after the other -/
def insAll (ks : List Int) : List Int := ks.foldl (fun h k => ins k h) []
theorem insAll_snoc (ks : List Int) (k : Int) : insAll (ks ++ [k]) = ins k (insAll ks) := by unfold insAll; rw [List.foldl_append]; rfl
theorem insAll_subs : ∀ n (ks : List Int), ks.length = n → (∀ k ∈ ks, k ∈ few) → ks.Nodup → insAll ks ∈ subs ∧ ∀ x ∈ few, (insAll ks).contains x = ks.contains x
  | 0, ks, h, _, _ => by
    obtain rfl := List.eq_nil_of_length_eq_zero h
    exact ⟨by decide +kernel, fun x _ => rfl⟩
  | n + 1, ks, h, a, nd => by
    have hne : ks ≠ [] := fun e => by rw [e] at h; cases h
    obtain ⟨l, k, rfl⟩ : ∃ l k, ks = l ++ [k] := ⟨ks.dropLast, ks.getLast hne, (List.dropLast_concat_getLast hne).symm⟩
    rw [List.length_append, List.length_singleton] at h
    have nd1 := (List.nodup_append.mp nd).1
    obtain ⟨i1, i2⟩ := insAll_subs n l (by omega) (fun x hx => a x (List.mem_append_left _ hx)) nd1
    have hk := a k (List.mem_append_right _ (List.mem_singleton.mpr rfl))
    have new : (insAll l).contains k = false := by
      rw [i2 k hk]
      cases z : l.contains k with
      | false => rfl
      | true => exact absurd rfl ((List.nodup_append.mp nd).2.2 k (List.contains_iff_mem.mp z) k (List.mem_singleton.mpr rfl))
    have st := steps_ok true _ i1 k hk new
    unfold stepOk at st
    simp only [Bool.and_eq_true, decide_eq_true_eq] at st
    rw [insAll_snoc]
    refine ⟨List.contains_iff_mem.mp st.1.1.1.1.2, fun x hx => ?_⟩
    rw [ins_mem _ i1 k hk x hx, i2 x hx, List.contains_append, List.contains_cons, List.contains_nil, Bool.or_false, Bool.or_comm]
theorem SetC.at_ {h h' : Heap} {a : Addr} {hs : List Int} (R : SetC w h a hs) (k : ∀ o, h.get? a = some o → h'.get? a = some o) : SetC w h' a hs := by
  obtain ⟨o, es, ep, h1, r⟩ := R
  exact ⟨o, es, ep, k o h1, r⟩
/-- the walk over a dict's entries that puts each key in -/
theorem put_keys {S d : Addr} {vs : List (Key × Value)} {ks : List Int} {nm : String} {Q : Unit → Shared → Prop} (hS : SetC w s.heap S []) (hd : s.heap.DictOf (mixKind P w) d vs) (hds : (d == sysModules) = false) (hk : vs.map (·.1) = ks.map Sum.inl) (few1 : ∀ k ∈ ks, k ∈ few) (nd : ks.Nodup) (ne : d ≠ S)
    (q : ∀ h', Heap.SameBut S s.heap h' → SetC w h' S (insAll ks) → Q () { s with heap := h' }) :
    wpAny (model P w) A (do
      let epoch ← dictEpoch d
      let n ← dictEntries d
      setRoomFor S n.size
      let l ← dictEntries d
      forIn [:l.size] PUnit.unit fun i (_ : PUnit) => (do
          let l' ← dictEntries d
          match l'[i]? with
            | some e => do
              let _ ← holding [e.key] (setAddHashed S e.key e.hash)
              let ep' ← dictEpoch d
              if (ep' != epoch) = true then do
                  (unsupported (toString nm ++ toString ":changed-during-callback") : Sem PUnit)
                  pure (ForInStep.yield PUnit.unit)
                else pure (ForInStep.yield PUnit.unit)
            | _ => do
              (unsupported "internal:set-from-dict" : Sem PUnit)
              pure (ForInStep.yield PUnit.unit) : Sem (ForInStep PUnit))
      pure ()) Q E s := by
  obtain ⟨od, es, ep, h1, h2, h3, h4, h5, h6⟩ := id hd
  have hlen : vs.length = es.size := by rw [← h5.length]; exact Array.length_toList
  have hkl : vs.length = ks.length := by have := congrArg List.length hk; rwa [List.length_map, List.length_map] at this
  have h44 : ks.length ≤ 4 := few_len nd few1
  refine wpAny_bind (wpAny_dictEpoch h1 h3 ?_)
  refine wpAny_bind (wpAny_dictEntries h1 h3 ?_)
  obtain ⟨o, es0, ep0, a1, a2, a3, a4, a5, a6⟩ := id hS
  have z0 : es0.size = 0 := keys_size a5
  have fits0 : (tab7 (ledOf w) []).fits es0.size = true := by rw [z0]; exact fits_few (m := 7) rfl rfl rfl (by decide) (.inl rfl)
  refine wpAny_bind ?_
  unfold setRoomFor
  refine wpAny_bind (wpAny_setState_of a1 a3 fits0 ?_)
  dsimp only
  rw [show (tab7 (ledOf w) []).roomFor es.size = none by
    unfold SetTable.roomFor
    rw [if_neg (by show ¬ ((0 + 0 + es.size) * 5 ≥ 7 * 3); omega)]]
  refine wpAny_pure ?_
  refine wpAny_bind (wpAny_dictEntries h1 h3 ?_)
  refine wpAny_bind ?_
  rw [Std.Legacy.Range.forIn_eq_forIn_range']
  simp only [Std.Legacy.Range.size, Nat.sub_zero, Nat.add_sub_cancel, Nat.div_one]
  refine wpAny_forIn_list _ (fun left _ s' => ∃ h' i, s' = { s with heap := h' } ∧ left = List.range' i (es.size - i) ∧ i ≤ es.size ∧ SetC w h' S (insAll (ks.take i)) ∧ Heap.SameBut S s.heap h') _ ?_ ?_ _ _ ⟨s.heap, 0, rfl, by simp, Nat.zero_le _, hS, Heap.SameBut.refl _ _⟩
  · rintro x left b s' ⟨h', i, rfl, hl, hi, hc, sb⟩
    have hlt : i < es.size := by
      rcases Nat.lt_or_ge i es.size with z | z
      · exact z
      · rw [Nat.sub_eq_zero_of_le z] at hl; cases hl
    obtain ⟨rfl, hl2⟩ : x = i ∧ left = List.range' (i + 1) (es.size - (i + 1)) := by
      rw [show es.size - i = (es.size - (i + 1)) + 1 by omega, List.range'_succ] at hl
      injection hl with z1 z2
      exact ⟨z1, z2⟩
    have hd' : h'.get? d = some od := (sb.2 d ne).trans h1
    refine wpAny_bind (wpAny_dictEntries hd' h3 ?_)
    rw [Array.getElem?_eq_getElem hlt]
    obtain ⟨kv, hkv⟩ : ∃ kv, vs[x]? = some kv := ⟨vs[x]'(by omega), List.getElem?_eq_getElem _⟩
    obtain ⟨key, v⟩ := kv
    obtain ⟨is1, _⟩ := h5.get? (e := es[x]) (by simp [hlt]) hkv
    obtain ⟨key', is2, hash⟩ := h4 es[x] (Array.getElem_mem hlt)
    obtain rfl : key' = key := (mixKind P w).inj _ _ _ is2 is1
    obtain ⟨k, hks⟩ : ∃ k, ks[x]? = some k := ⟨ks[x]'(by omega), List.getElem?_eq_getElem _⟩
    have ek : key' = Sum.inl k := by
      have z1 : (vs.map (·.1))[x]? = some key' := by rw [List.getElem?_map, hkv]; rfl
      rw [hk, List.getElem?_map, hks] at z1
      exact (Option.some.inj z1).symm
    subst ek
    obtain ⟨tk, kt⟩ := Value.isInt_shape (show Value.isInt k es[x].key = true from is1)
    have hkf := few1 k (List.mem_of_getElem? hks)
    have hh : es[x].hash = k := hash.trans (hash_few hkf)
    have fewt : ∀ y ∈ ks.take x, y ∈ few := fun y hy => few1 y (List.mem_of_mem_take hy)
    have ndt : (ks.take x).Nodup := nd.sublist (List.take_sublist _ _)
    obtain ⟨i1, i2⟩ := insAll_subs _ (ks.take x) rfl fewt ndt
    have new : (insAll (ks.take x)).contains k = false := by
      rw [i2 k hkf]
      cases z : (ks.take x).contains k with
      | false => rfl
      | true =>
        exfalso
        obtain ⟨j, hj⟩ := List.getElem?_of_mem (List.contains_iff_mem.mp z)
        have hji : j < x := by
          have := (List.getElem?_eq_some_iff.mp hj).1
          rw [List.length_take] at this
          omega
        rw [List.getElem?_take_of_lt hji] at hj
        have := (List.getElem?_inj (by omega) nd).mp (hj.trans hks.symm)
        omega
    show wpAny _ _ (holding [es[x].key] (setAddHashed S es[x].key es[x].hash) >>= _) _ _ _
    rw [kt, hh]
    refine wpAny_bind (wpAny_holding (SetC.add (s := { s with heap := h' }) hc hkf new fun h2' sb2 hc2 => ?_))
    refine wpAny_bind (wpAny_dictEpoch ((sb2.2 d ne).trans hd') h3 ?_)
    rw [if_neg (by simp)]
    refine wpAny_pure ⟨h2', x + 1, rfl, hl2, hlt, ?_, sb.trans sb2⟩
    rw [List.take_succ, hks]
    show SetC w h2' S (insAll (ks.take x ++ [k]))
    rw [insAll_snoc]
    exact hc2
  · rintro b s' ⟨h', i, rfl, hl, hi, hc, sb⟩
    have hi2 : i = es.size := by
      have := congrArg List.length hl
      rw [List.length_range', List.length_nil] at this
      omega
    subst hi2
    rw [List.take_of_length_le (by omega)] at hc
    exact wpAny_pure (q h' sb hc)
end
end Mv
set_option Elab.async false
set_option linter.all false
set_option maxRecDepth 100000
set_option maxHeartbeats 4000000
namespace Mv
open PySem L2 PySem.Spec PyProof.Rows
section
variable {P : Program} {w : World} {A : Around} {E : Value → Shared → Prop} {s : Shared}
theorem fits_c {es : Array (Int × Value)} {hs : List Int} (h5 : es.toList.map keyOf = hs) (h6 : hs ∈ subs) : (tab7 (ledOf w) hs).fits es.size = true := by
  have hz := keys_size h5
  have h4 := (subs_ok hs h6).2.2.1
  exact fits_few (m := 7) (by show ((hs.map slotOf).toArray).size = _; rw [List.size_toArray, List.length_map, hz]) rfl rfl (by omega) (.inl rfl)
/-- the elements, in some order -/
theorem walk_few {o : Addr} {ob : Obj} {es : Array (Int × Value)} {ep : Nat} {hs : List Int} {more : List Addr} {f : Option Addr} (h1 : s.heap.get? o = some ob) (h3 : ob.data = .set es ep (tab7 (ledOf w) hs)) (h5 : es.toList.map keyOf = hs) (h6 : hs ∈ subs)
    {Q : Array (Int × Value) → Shared → Prop} (q : ∀ out : Array (Int × Value), out.toList.Perm es.toList → Q out s) : wpAny (model P w) A (setWalkUnseen o more f) Q E s := by
  have fits := fits_c (w := w) h5 h6
  unfold setWalkUnseen
  refine wpAny_bind (wpAny_setState_of h1 h3 fits ?_)
  dsimp only
  refine wpAny_bind (wpAny_byText ?_)
  rw [if_pos (by
    show (w.params.followText "set-order" || (ledOf w && true) || decide (es.size ≤ 1)) = true
    unfold ledOf
    cases w.params.followText "set-order" <;> rfl)]
  unfold setWalk
  refine wpAny_bind (wpAny_setState_of h1 h3 fits ?_)
  dsimp only
  refine wpAny_bind (wpAny_byText ?_)
  by_cases hb : w.params.followText "set-order" = true
  · rw [if_pos hb]
    exact wpAny_bind (wpAny_askSetting (wpAny_pure (q _ (pick_perm _ _))))
  · rw [if_neg hb]
    refine wpAny_of_eq (a := es) ?_ (q es (List.Perm.refl _))
    have hl : ledOf w = true := (led_of w).resolve_left hb
    rw [hl]; rfl
/-- an empty new set takes over another's table -/
theorem copy_few {r o : Addr} {hs : List Int} {each : Sem Unit} {Q : Unit → Shared → Prop} (Rr : SetC w s.heap r []) (Ro : SetC w s.heap o hs) (ne : r ≠ o) (q : ∀ h', Heap.SameBut r s.heap h' → SetC w h' r hs → Q () { s with heap := h' }) :
    wpAny (model P w) A (setMerge r o each) Q E s := by
  obtain ⟨oo, eo, epo, h1, h2, h3, h4, h5, h6⟩ := id Ro
  obtain ⟨orr, er, epr, g1, g2, g3, g4, g5, g6⟩ := id Rr
  have fo := fits_c (w := w) h5 h6
  have fr := fits_c (w := w) g5 g6
  have hz := keys_size h5
  have hl4 := (subs_ok hs h6).2.2.1
  unfold setMerge
  rw [if_neg (by simpa using ne)]
  refine wpAny_bind (wpAny_setState_of h1 h3 fo ?_)
  dsimp only
  by_cases he : eo.isEmpty = true
  · rw [if_pos he]
    have e0 : hs = [] := by
      have : eo.size = 0 := by simpa [Array.isEmpty] using he
      exact List.eq_nil_of_length_eq_zero (by omega)
    exact wpAny_pure (q s.heap (Heap.SameBut.refl _ _) (by rw [e0]; exact Rr))
  · rw [if_neg he]
    unfold setRoomFor
    refine wpAny_bind (wpAny_bind (wpAny_setState_of g1 g3 fr ?_))
    dsimp only
    rw [show (tab7 (ledOf w) []).roomFor eo.size = none by
      unfold SetTable.roomFor
      rw [if_neg (by show ¬ ((0 + 0 + eo.size) * 5 ≥ 7 * 3); omega)]]
    refine wpAny_pure ?_
    refine wpAny_bind (wpAny_setState_of g1 g3 fr ?_)
    dsimp only
    rw [show (tab7 (ledOf w) []).road (tab7 (ledOf w) hs) = .slotForSlot from rfl]
    dsimp only
    refine wpAny_storeSet_of g1 g3 ?_ (by rw [hz, sizeLine_eq]; omega)
    have sb : Heap.SameBut r s.heap (s.heap.update r (Obj.putSet eo { tab7 (ledOf w) hs with finger := (tab7 (ledOf w) []).finger, led := (tab7 (ledOf w) []).led && (tab7 (ledOf w) hs).led, moves := (tab7 (ledOf w) []).moves, plain := (tab7 (ledOf w) []).plain && (tab7 (ledOf w) hs).plain })) := Heap.SameBut.update ..
    refine q _ sb ⟨_, eo, epr + 1, store_at g1 g3, ⟨g2.1, g2.2.1, g2.2.2⟩, ?_, h4, h5, h6⟩
    show Data.set eo (epr + 1) _ = Data.set eo (epr + 1) (tab7 (ledOf w) hs)
    congr 1
    show ({ mask := 7, place := (hs.map slotOf).toArray, dummies := #[], finger := 0, led := ledOf w && ledOf w, moves := 0, plain := true } : SetTable) = tab7 (ledOf w) hs
    rw [Bool.and_self]; rfl
/-- the second one's elements are put in, one by one -/
theorem merge_few {r o : Addr} {hs1 hs2 : List Int} {each : Sem Unit} {Q : Unit → Shared → Prop} (Rr : SetC w s.heap r hs1) (Ro : SetC w s.heap o hs2) (ne : r ≠ o) (h7 : hs1.length + hs2.length ≤ 7)
    (he : ∀ (s' : Shared) (Q' : Unit → Shared → Prop), s'.heap.get? o = s.heap.get? o → Q' () s' → wpAny (model P w) A each Q' E s')
    (q : ∀ h' n, Heap.SameBut r s.heap h' → SetR w h' r (fun k => hs1.contains k || hs2.contains k) n → n ≤ 7 → Q () { s with heap := h' }) :
    wpAny (model P w) A (setMerge r o each) Q E s := by
  by_cases hs0 : hs1 = []
  · subst hs0
    refine copy_few Rr Ro ne fun h' sb R => q h' hs2.length sb (R.toF.toR.congr fun k => ?_) (by omega)
    rfl
  obtain ⟨oo, eo, epo, h1, h2, h3, h4, h5, h6⟩ := id Ro
  obtain ⟨orr, er, epr, g1, g2, g3, g4, g5, g6⟩ := id Rr
  have fo := fits_c (w := w) h5 h6
  have fr := fits_c (w := w) g5 g6
  have hz := keys_size h5
  have hzr := keys_size g5
  have hl4 := (subs_ok hs2 h6).2.2.1
  have hl41 := (subs_ok hs1 g6).2.2.1
  have hq : eo.toList.length = eo.size := Array.length_toList
  have pos : 1 ≤ hs1.length := Nat.pos_of_ne_zero fun z => hs0 (List.eq_nil_of_length_eq_zero z)
  unfold setMerge
  rw [if_neg (by simpa using ne)]
  refine wpAny_bind (wpAny_setState_of h1 h3 fo ?_)
  dsimp only
  by_cases hem : eo.isEmpty = true
  · rw [if_pos hem]
    have e0 : hs2 = [] := by
      have : eo.size = 0 := by simpa [Array.isEmpty] using hem
      exact List.eq_nil_of_length_eq_zero (by omega)
    subst e0
    exact wpAny_pure (q s.heap hs1.length (Heap.SameBut.refl _ _) (Rr.toF.toR.congr fun k => by rw [List.contains_nil, Bool.or_false]) (by omega))
  · rw [if_neg hem]
    -- room
    have room : ∀ Q' : Unit → Shared → Prop, (∀ h' m, Heap.SameBut r s.heap h' → SetF w h' r (fun k => hs1.contains k) hs1.length m → Q' () { s with heap := h' }) → wpAny (model P w) A (setRoomFor r eo.size) Q' E s := fun Q' q' => by
      unfold setRoomFor
      refine wpAny_bind (wpAny_setState_of g1 g3 fr ?_)
      dsimp only
      by_cases hr : ((tab7 (ledOf w) hs1).fill + eo.size) * 5 ≥ (tab7 (ledOf w) hs1).mask * 3
      · have ew : (tab7 (ledOf w) hs1).roomFor eo.size = some ((hs1.length + hs2.length) * 2) := by
          unfold SetTable.roomFor
          rw [if_pos hr, hz]
          show some ((((hs1.map slotOf).toArray).size + hs2.length) * 2) = _
          rw [List.size_toArray, List.length_map]
        rw [ew]
        have hfl : (tab7 (ledOf w) hs1).fill = hs1.length := by
          show ((hs1.map slotOf).toArray).size + 0 = _
          rw [List.size_toArray, List.length_map, Nat.add_zero]
        rw [hfl, hz] at hr
        have hr : (hs1.length + hs2.length) * 5 ≥ 7 * 3 := hr
        have h16 : SetTable.sizeAbove ((hs1.length + hs2.length) * 2) = 16 := by
          have : hs1.length + hs2.length = 5 ∨ hs1.length + hs2.length = 6 ∨ hs1.length + hs2.length = 7 := by omega
          rcases this with e | e | e <;> rw [e] <;> decide
        exact relay_few Rr.toF h16 fun h' sb R => q' h' 15 sb R
      · rw [show (tab7 (ledOf w) hs1).roomFor eo.size = none by
          unfold SetTable.roomFor
          rw [if_neg hr]]
        exact wpAny_pure (q' s.heap 7 (Heap.SameBut.refl _ _) Rr.toF)
    refine wpAny_bind (room _ fun h' m sb R => ?_)
    obtain ⟨or2, er2, epr2, tr, k1, k2, k3, k4, k5, k6, k7, k8, k9, k10, k11, k12, k13, k14, k15⟩ := id R
    refine wpAny_bind (wpAny_setState_of (s := { s with heap := h' }) k1 k3 (fits_few k8 k9 k10 (by omega) k13) ?_)
    dsimp only
    have road : ∀ t : SetTable, t.place.size = er2.size → t.road (tab7 (ledOf w) hs2) = .oneByOne := fun t ht => by
      unfold SetTable.road SetTable.fill
      rw [if_pos (by rw [bne_iff_ne]; omega)]
    rw [road _ k8]
    dsimp only
    have h1' : h'.get? o = some oo := (sb.2 o (Ne.symm ne)).trans h1
    refine wpAny_bind (walk_few (s := { s with heap := h' }) h1' h3 h5 h6 fun out pm => ?_)
    refine wpAny_bind ?_
    show wpAny _ _ (forIn out _ _) _ _ _
    rw [← Array.forIn_toList]
    have goods : ∀ e ∈ out.toList, GoodE e := fun e he => h4 e (pm.mem_iff.mp he)
    refine wpAny_forIn_list _ (fun left _ s' => ∃ h2 n done, s' = { s with heap := h2 } ∧ done ++ left = out.toList ∧ Heap.SameBut r s.heap h2 ∧ SetR w h2 r (fun k => hs1.contains k || (done.map keyOf).contains k) n ∧ n ≤ hs1.length + done.length) _ ?_ ?_ _ _
      ⟨h', hs1.length, [], rfl, rfl, sb, R.toR.congr fun k => by show _ = hs1.contains k; rw [List.map_nil, List.contains_nil, Bool.or_false], by omega⟩
    · rintro ⟨hh, x⟩ left b s' ⟨h2, n, done, rfl, hl, sb2, R2, hn⟩
      have mem : (hh, x) ∈ out.toList := by rw [← hl]; exact List.mem_append_right _ List.mem_cons_self
      obtain ⟨k, tk, e1, e2⟩ := goods _ mem
      dsimp only at e1 e2
      subst e1 e2
      have hlen := pm.length_eq
      rw [← hl, List.length_append, List.length_cons] at hlen
      dsimp only
      refine wpAny_bind (wpAny_holding (setR_add_hashed (s := { s with heap := h2 }) R2 (by unfold scanBound; omega) fun h3' sb3 R3 => ?_))
      refine wpAny_bind (he _ _ ((sb3.2 o (Ne.symm ne)).trans (sb2.2 o (Ne.symm ne))) ?_)
      refine wpAny_bind (wpAny_setState_of (s := { s with heap := h3' }) ((sb3.2 o (Ne.symm ne)).trans ((sb2.2 o (Ne.symm ne)).trans h1)) h3 fo ?_)
      dsimp only
      rw [if_neg (by simp)]
      refine wpAny_pure ⟨h3', _, done ++ [(hashInt k, .int k tk)], rfl, by rw [List.append_assoc]; exact hl, sb2.trans sb3, R3.congr fun j => ?_, ?_⟩
      · rw [List.map_append, List.contains_append, ← Bool.or_assoc]
        show (_ || _ || [k].contains j) = (_ || decide (j = k))
        rw [List.contains_cons, List.contains_nil, Bool.or_false]; rfl
      · rw [List.length_append, List.length_singleton]
        split <;> omega
    · rintro b s' ⟨h2, n, done, rfl, hl, sb2, R2, hn⟩
      rw [List.append_nil] at hl
      have hlen := pm.length_eq
      rw [← hl] at hlen
      refine wpAny_pure (q h2 n sb2 (R2.congr fun k => ?_) (by omega))
      rw [hl]
      have : hs2.contains k = (out.toList.map keyOf).contains k := by
        rw [← h5]
        have z := (pm.map keyOf).mem_iff (a := k)
        cases c : (out.toList.map keyOf).contains k with
        | true => exact List.contains_iff_mem.mpr (z.mp (List.contains_iff_mem.mp c))
        | false =>
          cases d : (eo.toList.map keyOf).contains k with
          | false => rfl
          | true => rw [List.contains_iff_mem.mpr (z.mpr (List.contains_iff_mem.mp d))] at c; cases c
      rw [this]
end
end Mv
set_option Elab.async false
set_option linter.all false
set_option maxRecDepth 100000
set_option maxHeartbeats 8000000
namespace Mv
open PySem L2 PySem.Spec PyProof.Rows
section
variable {P : Program} {w : World} {A : Around} {E : Value → Shared → Prop} {s : Shared}
abbrev freshSet (w : World) : Obj := { cls := .type "set", dict := none, data := .set #[] 0 (.fresh 0 0 (!w.params.followText "set-order")) }
theorem any_set_dict {d : Addr} {Q : Bool → Shared → Prop} (hT : s.TypeIs (.ref d) "dict") (q : Q false s) : wpAny (model P w) A (Builtin.Frozenset.isAnySet (.ref d)) Q E s := by
  have h1 := F.sub_dict_set
  have h2 := F.sub_dict_frozenset
  unfold Builtin.Frozenset.isAnySet
  wp_walk
  exact q
theorem any_set_set {d : Addr} {Q : Bool → Shared → Prop} (hT : s.TypeIs (.ref d) "set") (q : Q true s) : wpAny (model P w) A (Builtin.Frozenset.isAnySet (.ref d)) Q E s := by
  have h1 := sub_set_self
  unfold Builtin.Frozenset.isAnySet
  wp_walk
  exact q
theorem update_dict {S d : Addr} {vs : List (Key × Value)} {ks : List Int} {nm : String} {Q : Unit → Shared → Prop} (hS : SetC w s.heap S []) (hd : s.heap.DictOf (mixKind P w) d vs) (hds : (d == sysModules) = false) (hk : vs.map (·.1) = ks.map Sum.inl) (few1 : ∀ k ∈ ks, k ∈ few) (nd : ks.Nodup) (ne : d ≠ S)
    (q : ∀ h', Heap.SameBut S s.heap h' → SetC w h' S (insAll ks) → Q () { s with heap := h' }) : wpAny (model P w) A (Builtin.Frozenset.updateFrom nm S (.ref d)) Q E s := by
  have hT : s.TypeIs (.ref d) "dict" := hd.typeIs
  unfold Builtin.Frozenset.updateFrom
  refine wpAny_bind (any_set_dict hT ?_)
  rw [if_neg (by decide)]
  refine wpAny_bind (wpAny_typeOf hT ?_)
  rw [if_pos (by decide)]
  refine wpAny_bind (wpAny_rule ?_)
  refine wpAny_bind (wpAny_pure ?_)
  rw [if_neg (by rw [hds]; decide)]
  exact put_keys (nm := nm) hS hd hds hk few1 nd ne q
/-- set(d), d a dict whose keys are few small ints -/
theorem set_of_dict {d : Addr} {vs : List (Key × Value)} {ks : List Int} {Q : Value → Shared → Prop} (hh : A.handled = none) (hd : s.heap.DictOf (mixKind P w) d vs) (hds : (d == sysModules) = false) (hk : vs.map (·.1) = ks.map Sum.inl) (few1 : ∀ k ∈ ks, k ∈ few) (nd : ks.Nodup)
    (q : ∀ (h' : Heap) (tk : Nat), SetC w h' s.heap.objs.size (insAll ks) → (∀ b o, s.heap.get? b = some o → h'.get? b = some o) → Q (.ref s.heap.objs.size) { s with heap := h', toks := tk }) :
    wpAny (model P w) A (call (.type "set") [.ref d]) Q E s := by
  obtain ⟨c, tl, hmro⟩ := F.called_set.mro
  have hmade := F.called_set.made
  have hsub := F.called_set.sub
  refine wpAny_call (codeAny_of_tree ?_)
  show wpAny _ _ (callAny (.type "set") _) _ _ _
  refine wpAny_pure ⟨Code.quiet_builtin _ (by decide +kernel), codeAny_builtin F.entry_type_call ?_⟩
  rw [Around.under_plain (weight_type_call_type "set" [.ref d] []) rfl]
  have h1 := F.called_set.notType
  have h2 := F.called_set.canCreate
  have hct := F.typeCall_set_1 (.ref d)
  repeat (any_goals (first | assumption | wp_step))
  refine codeAny_mono (code_set_led1 (.ref d) (E := E) (Q₁ := fun obj s₁ => obj = .ref s.heap.objs.size ∧ s₁ = { s with heap := s.heap.push (freshSet w) }) ⟨rfl, rfl⟩) fun r s₁ hr => ?_
  cases r with
  | error e => exact hr
  | ok fl =>
    cases fl with
    | ret obj =>
      obtain ⟨rfl, rfl⟩ := hr
      have hS : (s.heap.push (freshSet w)).get? s.heap.objs.size = some (freshSet w) := Heap.get?_push_size _ rfl
      have hT : Shared.TypeIs { s with heap := s.heap.push (freshSet w) } (.ref s.heap.objs.size) "set" := ⟨_, hS, rfl⟩
      have hli := F.called_set.init.lookup
      have hbi := F.called_set.init.bind (.ref s.heap.objs.size)
      repeat (any_goals (first | assumption | wp_step))
      refine codeAny_mono (codeAny_call_builtin (R := wants (fun r s₂ => r = .none ∧ ∃ h' tk, s₂ = { s with heap := h', toks := tk } ∧ SetC w h' s.heap.objs.size (insAll ks) ∧ (∀ b o, s.heap.get? b = some o → h'.get? b = some o)) E)
        F.called_set.init.plain F.entry_set_init (check_set_init_1 hT ?_)) fun r₂ s₂ hr₂ => ?_
      · have keep : ∀ b o, s.heap.get? b = some o → (s.heap.push (freshSet w)).get? b = some o := fun b o e => Heap.get?_push_of_some _ e
        have hd1 : (s.heap.push (freshSet w)).DictOf (mixKind P w) d vs := by
          obtain ⟨o, es, ep, a1, r⟩ := hd
          exact ⟨o, es, ep, keep _ _ a1, r⟩
        obtain ⟨od, esd, epd, a1, a2, a3, a4, a5, a6⟩ := id hd
        have hdT : Shared.TypeIs { s with heap := s.heap.push (freshSet w) } (.ref d) "dict" := hd1.typeIs
        have hsls := F.sub_dict_set
        have hslf := F.sub_dict_frozenset
        have hne : (Value.type "dict" == Value.type "dict") = true := by decide
        have ne : d ≠ s.heap.objs.size := Nat.ne_of_lt (Heap.lt_size a1)
        have used : ∀ Q' : Bool → Shared → Prop, Q' false { s with heap := s.heap.push (freshSet w) } → wpAny (model P w) A.in1.in1 (setUsed s.heap.objs.size) Q' (fun e s' => wants (fun r s₂ => r = .none ∧ ∃ h' tk, s₂ = { s with heap := h', toks := tk } ∧ SetC w h' s.heap.objs.size (insAll ks) ∧ (∀ b o, s.heap.get? b = some o → h'.get? b = some o)) E (.error e) s') { s with heap := s.heap.push (freshSet w) } := fun Q' q' => by
          unfold setUsed
          exact wpAny_bind (wpAny_setState_of (s := { s with heap := s.heap.push (freshSet w) }) hS rfl (by rfl) (wpAny_pure q'))
        unfold Builtin.«set.__init__» noKeywords
        generalize hSU : setUsed = SU
        generalize hUF : Builtin.Frozenset.updateFrom = UF
        wp_walk
        subst hSU
        refine used _ ?_
        wp_walk
        subst hUF
        refine update_dict (s := { s with heap := s.heap.push (freshSet w) }) (SetC.new hS) hd1 hds hk few1 nd ne fun h' sb hc => ?_
        show wpAny _ _ (ret Value.none) _ _ _
        exact wpAny_pure ⟨rfl, h', s.toks, rfl, hc, fun b o e => (sb.2 b (Nat.ne_of_lt (Heap.lt_size e))).trans (keep b o e)⟩
      · cases r₂ with
        | error e => exact hr₂
        | ok fl₂ =>
          cases fl₂ with
          | ret r =>
            obtain ⟨rfl, h', tk, rfl, hS', hkp⟩ := hr₂
            repeat (any_goals (first | assumption | wp_step))
            exact q _ _ hS' hkp
          | _ => exact hr₂.elim
    | _ => exact hr.elim
end
end Mv
set_option Elab.async false
set_option linter.all false
set_option maxRecDepth 100000
set_option maxHeartbeats 8000000
namespace Mv
open PySem L2 PySem.Spec PyProof.Rows
section
variable {P : Program} {w : World} {A : Around} {E : Value → Shared → Prop} {s : Shared}
theorem entry_set_or : entryFor table "set.__or__" = some Builtin.«frozenset.__or__» :=
  entryFor_alias (id' := "frozenset.__or__") (by kernel_rfl) rfl (by decide +kernel) (by kernel_rfl)
theorem SetC.type {h : Heap} {a : Addr} {hs : List Int} (R : SetC w h a hs) {s : Shared} (e : s.heap = h) : s.TypeIs (.ref a) "set" := by
  obtain ⟨o, es, ep, h1, h2, _⟩ := R
  exact ⟨o, by rw [e]; exact h1, h2.1⟩
theorem update_set {r b : Addr} {hs1 hs2 : List Int} {nm : String} {Q : Unit → Shared → Prop} (Rr : SetC w s.heap r hs1) (Rb : SetC w s.heap b hs2) (ne : r ≠ b) (h7 : hs1.length + hs2.length ≤ 7)
    (q : ∀ h' n, Heap.SameBut r s.heap h' → SetR w h' r (fun k => hs1.contains k || hs2.contains k) n → n ≤ 7 → Q () { s with heap := h' }) : wpAny (model P w) A (Builtin.Frozenset.updateFrom nm r (.ref b)) Q E s := by
  obtain ⟨ob, eb, epb, b1, b2, b3, b4, b5, b6⟩ := id Rb
  have fb := fits_c (w := w) b5 b6
  unfold Builtin.Frozenset.updateFrom
  refine wpAny_bind (any_set_set (Rb.type rfl) ?_)
  rw [if_pos rfl]
  refine wpAny_bind (wpAny_pure ?_)
  unfold Builtin.Frozenset.merge
  refine wpAny_bind (wpAny_setEpoch_of b1 b3 fb ?_)
  refine merge_few Rr Rb ne h7 (fun s' Q' e q' => ?_) q
  unfold Builtin.Frozenset.unchanged
  refine wpAny_bind (wpAny_setEpoch_of (s := s') (e.trans b1) b3 fb ?_)
  rw [if_neg (by simp)]
  exact wpAny_pure q'
/-- a | b -/
theorem or_few {a b : Addr} {hs1 hs2 : List Int} {Q : Value → Shared → Prop} (Ra : SetC w s.heap a hs1) (Rb : SetC w s.heap b hs2) (ne : a ≠ b) (h7 : hs1.length + hs2.length ≤ 7)
    (q : ∀ h' n, SetR w h' s.heap.objs.size (fun k => hs1.contains k || hs2.contains k) n → n ≤ 7 → (∀ c o, s.heap.get? c = some o → h'.get? c = some o) → Q (.ref s.heap.objs.size) { s with heap := h' }) :
    wpAny (model P w) A (binaryOp .BitOr (.ref a) (.ref b)) Q E s := by
  have ta := Ra.type (s := s) rfl
  have tb := Rb.type (s := s) rfl
  refine wpAny_binaryOp_same (op := .BitOr) ta tb F.fills_set_or F.slot_set_or (wpAny_call_entry F.slot_set_or ta entry_set_or ?_ (F.args_set_or_2 _ _))
  unfold Builtin.«frozenset.__or__»
  refine wpAny_bind (wpAny_of_eq (a := ((Value.ref a, Value.ref b) : Value × Value)) (show Builtin.Frozenset.slot1 "__or__" ⟨[.ref a, .ref b], []⟩ = pure (.ref a, .ref b) from rfl) ?_)
  dsimp only
  simp only [Bool.false_eq_true, if_false]
  have both : ∀ Q' : Bool → Shared → Prop, Q' true s → wpAny (model P w) A.in1 (Builtin.Frozenset.isAnySet (.ref a) <&&> Builtin.Frozenset.isAnySet (.ref b)) Q' E s := fun Q' q' => by
    unfold andM
    exact wpAny_bind (any_set_set ta (any_set_set tb q'))
  refine wpAny_bind (both _ ?_)
  rw [if_neg (by decide)]
  refine wpAny_bind (wpAny_pure ?_)
  refine wpAny_bind ?_
  -- the copy
  have copy : ∀ Q' : Value → Shared → Prop, (∀ h', SetC w h' s.heap.objs.size hs1 → (∀ c o, s.heap.get? c = some o → h'.get? c = some o) → Q' (.ref s.heap.objs.size) { s with heap := h' }) → wpAny (model P w) A.in1 (Builtin.Frozenset.copyOf a) Q' E s := fun Q' q' => by
    have h1 := sub_set_self
    have keep : ∀ c o, s.heap.get? c = some o → (s.heap.push (freshSet w)).get? c = some o := fun c o e => Heap.get?_push_of_some _ e
    have hS : (s.heap.push (freshSet w)).get? s.heap.objs.size = some (freshSet w) := Heap.get?_push_size _ rfl
    have la : a < s.heap.objs.size := let ⟨_, _, _, z, _⟩ := Ra; Heap.lt_size z
    unfold Builtin.Frozenset.copyOf Builtin.Frozenset.baseOf PySem.newSet
    generalize hSM : setMerge = SM
    wp_walk
    subst hSM
    refine wpAny_askSetting (wpAny_pure ?_)
    dsimp only
    simp only [if_true]
    refine wpAny_newObj_type ?_
    refine wpAny_bind (wpAny_pure ?_)
    have Rn := SetC.new (w := w) hS
    refine wpAny_bind (copy_few (s := { s with heap := s.heap.push (freshSet w) }) Rn (Ra.at_ fun o e => keep a o e) (Ne.symm (Nat.ne_of_lt la)) fun h' sb R => wpAny_pure (q' h' R fun c o e => (sb.2 c (Nat.ne_of_lt (Heap.lt_size e))).trans (keep c o e)))
  refine wpAny_bind (copy _ fun h1 R1 k1 => ?_)
  have lb : b < s.heap.objs.size := let ⟨_, _, _, z, _⟩ := Rb; Heap.lt_size z
  dsimp only
  rw [if_pos (by simpa using Ne.symm ne)]
  refine wpAny_bind (wpAny_pure ?_)
  refine wpAny_bind (wpAny_holding (update_set (s := { s with heap := h1 }) R1 (Rb.at_ fun o e => k1 b o e) (Ne.symm (Nat.ne_of_lt lb)) h7 fun h2 n sb R hn => ?_))
  refine wpAny_pure ?_
  show wpAny _ _ (ret (Value.ref s.heap.objs.size)) _ _ _
  exact wpAny_pure ⟨_, rfl, (fun z => nomatch z), q h2 n R hn fun c o e => (sb.2 c (Nat.ne_of_lt (Heap.lt_size e))).trans (k1 c o e)⟩
end
/-! ### over the hand layer -/
def SetCO (w : World) (a : Addr) (hs : List Int) : HO := .ext fun h => SetC w h a hs
section
variable {X : Cx}
theorem setCO_new {w : World} {P : Program} {H : Hp} {h : Heap} {a : Addr} {hs : List Int} (R : SetC w h a hs) : ObjOk P w H h a (SetCO w a hs) := by
  have ⟨o, _, _, ho, _⟩ := R
  exact ⟨R, ⟨o, ho⟩, fun h1 h2 p k => SetC.at_ p k⟩
theorem setCO_get {pins : List (Addr × Obj)} {σ : L2.St} {H : Hp} {s : Shared} {a : Addr} {hs : List Int} (I : Inv X pins σ H s) (ha : H a = some (SetCO X.w a hs)) : SetC X.w s.heap a hs := (I.hok a _ ha).1
theorem kv_keys {kvs : List (Key × V)} {va : List (Key × Value)} (r : KV kvs va) : va.map (·.1) = kvs.map (·.1) := by
  unfold KV at r
  induction r with
  | nil => rfl
  | cons h _ ih => rw [List.map_cons, List.map_cons, ih, h.1]
/-- set(d) -/
def rSetD (w : World) : List V → Hp → VK → Prop := fun xs H Q => ∃ (d : Addr) (kvs : List (Key × V)) (ks : List Int), xs = [.ref d] ∧ H d = some (.dK kvs) ∧ kvs.map (·.1) = ks.map Sum.inl ∧ (∀ k ∈ ks, k ∈ few) ∧ ks.Nodup ∧ ∀ p, H p = none → Q (.ref p) (upd H p (SetCO w p (insAll ks)))
theorem cr_setD (hc : X.calm = true) : CallR X (.type "set") (rSetD X.w) := by
  intro pins s σ H xs us Q I r h
  obtain ⟨d, kvs, ks, rfl, hd, hk, hf, nd, q⟩ := h
  cases r with
  | cons r1 r2 =>
    cases r2
    cases (show _ = Value.ref d from r1)
    obtain ⟨_, ya, va, ra, da⟩ := (show ObjOk X.prog X.w H s.heap d (.dK kvs) from I.hok d _ hd)
    have hk2 : va.map (·.1) = ks.map Sum.inl := (kv_keys ra).trans hk
    refine set_of_dict (I.ok.hd hc) da ya hk2 hf nd fun h' tk R keep => ?_
    have new : H s.heap.objs.size = none := I.hok.fresh (Nat.le_refl _)
    exact ⟨.ref s.heap.objs.size, _, I.laid (t' := tk) keep (Nat.le_refl _) (setCO_new R), rfl, q _ new⟩
/-- a | b of two such -/
def rOrSet (w : World) : R2 := fun x y H Q => ∃ (a b : Addr) (hs1 hs2 : List Int), x = .ref a ∧ y = .ref b ∧ H a = some (SetCO w a hs1) ∧ H b = some (SetCO w b hs2) ∧ a ≠ b ∧ hs1.length + hs2.length ≤ 7 ∧
  ∀ p n, H p = none → n ≤ 7 → Q (.ref p) (upd H p (SetO w p (fun k => hs1.contains k || hs2.contains k) n))
theorem op_orSet : OpR X (binaryOp .BitOr) (rOrSet X.w) := by
  intro pins s σ H x y v u Q I rx ry h
  obtain ⟨a, b, hs1, hs2, rfl, rfl, ha, hb, ne, h7, q⟩ := h
  cases (show v = Value.ref a from rx)
  cases (show u = Value.ref b from ry)
  refine or_few (setCO_get I ha) (setCO_get I hb) ne h7 fun h' n R hn keep => ?_
  have new : H s.heap.objs.size = none := I.hok.fresh (Nat.le_refl _)
  exact ⟨.ref s.heap.objs.size, _, I.laid (t' := s.toks) keep (Nat.le_refl _) (setO_new R), rfl, q _ n new hn⟩
end
end Mv
set_option Elab.async false
set_option linter.all false
set_option maxRecDepth 100000
namespace Wd
open PySem L2
def top (i : Nat) : Stmt := PySem.Challenge.pw_heapturns_k24_whole_stretches_one_after.main.body.getD i (.Pass ⟨0, 0, 0, 0⟩)
abbrev sWall : Stmt := top 0
abbrev sInvalidNumberInit : Stmt := inClass (top 3) 0
abbrev sInvalidPlaceInit : Stmt := inClass (top 4) 0
abbrev sInvalidArgumentInit : Stmt := inClass (top 5) 0
abbrev sIsInteger : Stmt := top 7
abbrev sIsBetween : Stmt := top 8
abbrev sIsPlace : Stmt := top 11
abbrev sIsPool : Stmt := top 12
abbrev sShortened : Stmt := top 13
abbrev sCommon : Stmt := top 14
abbrev sMoveInit : Stmt := inClass (top 15) 0
abbrev sMoveIsTaken : Stmt := inClass (top 15) 1
abbrev sMoveTail : Stmt := inClass (top 15) 2
abbrev sMoveObjects : Stmt := inClass (top 15) 3
abbrev sMovePools : Stmt := inClass (top 15) 4
abbrev sMoveShift : Stmt := inClass (top 15) 5
abbrev sMoveCheckPlace : Stmt := inClass (top 15) 6
abbrev sMoveOrigin : Stmt := inClass (top 15) 7
abbrev sMoveGoal : Stmt := inClass (top 15) 8
abbrev sMoveThen : Stmt := inClass (top 15) 9
abbrev sMoveMostObject : Stmt := inClass (top 15) 10
abbrev sMoveIsRound : Stmt := inClass (top 15) 11
abbrev sMovePower : Stmt := inClass (top 15) 12
abbrev sMovePlaces : Stmt := inClass (top 15) 13
abbrev sMoveIsInside : Stmt := inClass (top 15) 14
abbrev sMoveBackFrom : Stmt := inClass (top 15) 15
abbrev sMoveReturns : Stmt := inClass (top 15) 16
abbrev sMoveCheckRound : Stmt := inClass (top 15) 17
abbrev sMoveMeets : Stmt := inClass (top 15) 18
abbrev sMoveCycles : Stmt := inClass (top 15) 19
abbrev sMoveIsPermutation : Stmt := inClass (top 15) 20
abbrev sMoveOrder : Stmt := inClass (top 15) 21
abbrev sMoveInverse : Stmt := inClass (top 15) 22
abbrev sMoveEq : Stmt := inClass (top 15) 23
abbrev sMoveRepr : Stmt := inClass (top 15) 24
abbrev sIdentity : Stmt := top 16
abbrev sLawCellAt : Stmt := top 18
abbrev sLawSource : Stmt := top 19
abbrev sLawDraw : Stmt := top 20
abbrev sLawPick : Stmt := top 21
abbrev sLawPlaces : Stmt := top 22
abbrev sLawSteps : Stmt := top 23
abbrev sLawPlayed : Stmt := top 24
abbrev sLawTail : Stmt := top 25
abbrev sLawParts : Stmt := top 26
abbrev sLawShort : Stmt := top 27
abbrev sLawSizes : Stmt := top 28
abbrev sLawMove : Stmt := top 29
abbrev sLawIsRefused : Stmt := top 30
abbrev sLawRight : Stmt := top 31
abbrev sLaw : Stmt := top 32
/-- a def of the module: its text, how it binds, its name -/
structure DefF (K : PySem.W.Frag) (mg : Str → Option Value) (x : Str) (st : Stmt) (ps : List Str) (f : Addr) (fd : FuncData) : Prop where
  fn : Fun K x x st f fd
  bd : Binds K fd ps []
  gl : mg x = some (.ref f)
/-- a method of the class at C -/
structure DefM (K : PySem.W.Frag) (C : Addr) (x qual : Str) (st : Stmt) (ps : List Str) (f : Addr) (fd : FuncData) : Prop where
  fn : Fun K x qual st f fd
  bd : Binds K fd ps []
  mt : Meth K C x f
/-- the names that the module leaves built in -/
structure Blt (mg : Str → Option Value) : Prop where
  isi : mg "isinstance" = none
  len : mg "len" = none
  min : mg "min" = none
  max : mg "max" = none
  all : mg "all" = none
  int : mg "int" = none
  bool : mg "bool" = none
  str : mg "str" = none
  tuple : mg "tuple" = none
  list : mg "list" = none
  range : mg "range" = none
  sorted : mg "sorted" = none
  dict : mg "dict" = none
  set : mg "set" = none
  enm : mg "enumerate" = none
end Wd
set_option Elab.async false
set_option linter.all false
set_option maxRecDepth 100000
set_option maxHeartbeats 4000000
namespace Wd
open PySem L2
section
variable {P : Program} {w : World} {K : PySem.W.Frag} {mg : Str → Option Value} {base : Heap} {f : Addr} {fd : FuncData}
def spIsInteger : Sp := fun vs H Q _ => ∃ i : Int, vs = [.int i] ∧ Q (.bl true) H
theorem sc_IsInteger : FnScope ["thing"] ["thing"] (defScope sIsInteger) := ⟨rfl, rfl, rfl, by decide +kernel, rfl, by decide +kernel, by decide +kernel⟩
theorem ok_IsInteger (D : DefF K mg "is_integer" sIsInteger ["thing"] f fd) (B : Blt mg) : FnOk P w K mg base CX0 1 f fd ["thing"] spIsInteger := by
  refine D.fn.ok sc_IsInteger (fun vs H Q E h => ?_) (fun cdv A outer s H vs Q E hr h => ?_)
  · obtain ⟨i, rfl, _⟩ := h; rfl
  · obtain ⟨i, rfl, k⟩ := h
    refine ⟨_, pss_one (ps_ret (pe_and (pe_callB call_isi (by rfl) B.isi PyProof.Rows.boot_isinstance (pa_cons (pv 0) (pa_cons (pe_bltn (v := .ty "int") (by rfl) B.int PyProof.Rows.boot_int rfl) pa_nil)))
      (pe_one (pe_not (pe_callB call_isi (by rfl) B.isi PyProof.Rows.boot_isinstance (pa_cons (pv 0) (pa_cons (pe_bltn (v := .ty "bool") (by rfl) B.bool PyProof.Rows.boot_bool rfl) pa_nil))))))), ?_⟩
    refine ⟨_, rfl, _, _, _, _, true, rfl, ClsV.ty _, .base (.int i), kit_ty (by decide +kernel), _, rfl, iteT ?_⟩
    refine ⟨_, rfl, _, _, _, _, false, rfl, ClsV.ty _, .base (.int i), kit_ty (by decide +kernel), _, rfl, ?_⟩
    exact k
def spIsBetween : Sp := fun vs H Q _ => ∃ i a b : Int, vs = [.int i, .int a, .int b] ∧ Q (.bl (decide (a ≤ i) && decide (i ≤ b))) H
theorem sc_IsBetween : FnScope ["thing", "least", "most"] ["thing", "least", "most"] (defScope sIsBetween) := ⟨rfl, rfl, rfl, by decide +kernel, rfl, by decide +kernel, by decide +kernel⟩
theorem ok_IsBetween (D : DefF K mg "is_between" sIsBetween ["thing", "least", "most"] f fd) {fI : Addr} {fdI : FuncData} (DI : DefF K mg "is_integer" sIsInteger ["thing"] fI fdI) (GI : FnOk P w K mg base CX0 1 fI fdI ["thing"] spIsInteger) :
    FnOk P w K mg base CX0 2 f fd ["thing", "least", "most"] spIsBetween := by
  refine D.fn.ok sc_IsBetween (fun vs H Q E h => ?_) (fun cdv A outer s H vs Q E hr h => ?_)
  · obtain ⟨i, a, b, rfl, _⟩ := h; rfl
  · obtain ⟨i, a, b, rfl, k⟩ := h
    refine ⟨_, pss_one (ps_ret (pe_and (pe_call GI hr rfl DI.gl DI.fn.kp DI.bd .nil pass0 (pa_cons (pv 0) pa_nil)) (pe_one (pe_chain op_le op_le (pv 1) (pv 0) (pv 2))))), ?_⟩
    refine ⟨_, rfl, i, rfl, _, rfl, iteT ?_⟩
    refine ⟨_, rfl, _, rfl, _, _, rfl, rfl, _, rfl, ?_⟩
    by_cases h1 : a ≤ i
    · rw [decide_eq_true h1] at k ⊢
      refine iteT ⟨_, rfl, _, _, rfl, rfl, ?_⟩
      rw [Bool.true_and] at k
      exact k
    · rw [decide_eq_false h1] at k ⊢
      exact iteF k
end
end Wd
set_option Elab.async false
set_option linter.all false
set_option maxRecDepth 100000
set_option maxHeartbeats 4000000
set_option exponentiation.threshold 100000
/-! small lemmas, shared with the words' chain -/
namespace Wd
open PySem L2

theorem Paired.mono {A B : Type} {F G : A → B → Prop} (h : ∀ a b, F a b → G a b) {l : List A} {r : List B} (p : Paired F l r) : Paired G l r := Paired.mapP p h
theorem Same.new {H : Hp} {p : Addr} {o : HO} (h : H p = none) : Same H (upd H p o) := fun b u e => by rw [upd_ne (ne_of_none e h)]; exact e
theorem Paired.len {A B : Type} {F : A → B → Prop} {l : List A} {r : List B} (p : Paired F l r) : l.length = r.length := Paired.length p
theorem Paired.app {A B : Type} {F : A → B → Prop} : ∀ {l l' : List A} {r r' : List B}, Paired F l r → Paired F l' r' → Paired F (l ++ l') (r ++ r')
  | _, _, _, _, .nil, q => q
  | _, _, _, _, .cons a b, q => .cons a (Paired.app b q)
theorem Paired.at_ {A B : Type} {F : A → B → Prop} : ∀ {l : List A} {r : List B} {i : Nat} {x : A}, Paired F l r → l[i]? = some x → ∃ y, r[i]? = some y ∧ F x y
  | _, _, _, _, .nil, h => by simp at h
  | _, _, 0, _, .cons a b, h => by
    have := Option.some.inj h
    subst this
    exact ⟨_, rfl, a⟩
  | _, _, i + 1, _, .cons a b, h => Paired.at_ (i := i) b h
theorem three_line : 3 ≤ sizeLine := by rw [sizeLine_eq]; decide
theorem nat_eq0 {x y : Int} (h : x = y) : decide (V.int x = V.int y) = true := by subst h; exact decide_eq_true rfl
theorem nat_ne0 {x y : Int} (h : x ≠ y) : decide (V.int x = V.int y) = false := decide_eq_false fun e => h (V.int.inj e)
theorem cut_nat (xs : List V) (a b : Nat) : cutV xs (some ((a : Nat) : Int)) (some ((b : Nat) : Int)) = (xs.drop a).take (b - a) := by
  unfold cutV
  rw [HT.sIx_nat, HT.sIx_nat]
  rcases Nat.le_total a xs.length with h | h
  · rw [Nat.min_eq_left h]
    rcases Nat.le_total b xs.length with g | g
    · rw [Nat.min_eq_left g]
    · rw [Nat.min_eq_right g, List.take_of_length_le (by rw [List.length_drop]; exact Nat.le_refl _), List.take_of_length_le (by rw [List.length_drop]; omega)]
  · rw [Nat.min_eq_right h, List.drop_of_length_le (Nat.le_refl _), List.drop_of_length_le h, List.take_nil, List.take_nil]
theorem Paired.drop {A B : Type} {F : A → B → Prop} : ∀ {l : List A} {r : List B} (n : Nat), Paired F l r → Paired F (l.drop n) (r.drop n)
  | _, _, 0, h => h
  | _, _, _ + 1, .nil => .nil
  | _, _, n + 1, .cons _ t => Paired.drop n t
theorem cut_lo (xs : List V) (k : Nat) : cutV xs (some ((k : Nat) : Int)) none = xs.drop k := by
  unfold cutV
  rw [HT.sIx_nat, HT.sIx_none]
  rcases Nat.le_total k xs.length with h | h
  · rw [Nat.min_eq_left h, List.take_of_length_le (by rw [List.length_drop]; exact Nat.le_refl _)]
  · rw [Nat.min_eq_right h, Nat.sub_self, List.take_zero, List.drop_of_length_le h]
theorem cut_hi (xs : List V) (k : Nat) : cutV xs none (some ((k : Nat) : Int)) = xs.take k := by
  have := cut_nat xs 0 k
  rw [Nat.sub_zero, List.drop_zero] at this
  exact this
theorem seq_join {ta tb : TS} {D : Ends} {σ : St} {H : Hp} (J : St → Hp → Prop) (h : ∀ D' : Ends, (∀ σ' H', J σ' H' → D'.nx σ' H') → ta D' σ H) (h2 : ∀ σ' H', J σ' H' → tb D σ' H') : tSeq ta tb D σ H := h _ h2
theorem asg_join {i : Nat} {v : V} {ta tb : TS} {D : Ends} {σ : St} {H : Hp} (J : St → Hp → Prop) (h : ∀ D' : Ends, (∀ σ' H', J σ' H' → D'.nx σ' H') → ta D' (σ.set i (some v)) H) (h2 : ∀ σ' H', J σ' H' → tb D σ' H') : gName i v σ H (Ends.nx { D with nx := tSeq ta tb D }) := h _ h2
theorem next_join {ta tb : TS} {D : Ends} {σ : St} {H : Hp} (J : St → Hp → Prop) (h : ∀ D' : Ends, (∀ σ' H', J σ' H' → D'.nx σ' H') → ta D' σ H) (h2 : ∀ σ' H', J σ' H' → tb D σ' H') : tNext { D with nx := tSeq ta tb D } σ H := h _ h2
theorem and_more {b b2 : Bool} {tb : TE} {σ : St} {H : Hp} {Q : VK} (h : ∀ Q' : VK, (∀ H', Same H H' → Q' (.bl b2) H') → tb σ H Q') (q : ∀ H', Same H H' → Q (.bl (b && b2)) H') : ∃ c, V.bl b = V.bl c ∧ if c = true then tb σ H Q else Q (.bl false) H :=
  ⟨b, rfl, by cases b with
    | false => exact iteF (q H (Same.refl H))
    | true => exact iteT (h Q q)⟩
theorem cm64 {i j : Int} (h0 : 0 ≤ i) (h1 : i < 18446744073709551616) (h2 : 0 ≤ j) (h3 : j < 18446744073709551616) : CMulW i j :=
  wide_mul (a := 64) (b := 64) (by have : (2 : Nat) ^ 64 = 18446744073709551616 := by decide
                                   omega) (by have : (2 : Nat) ^ 64 = 18446744073709551616 := by decide
                                              omega) (by decide) (by decide) (by decide)
theorem nat_int {i : Int} (h : 0 ≤ i) : ∃ n : Nat, i = (n : Nat) := ⟨i.toNat, by omega⟩
theorem Paired.take {A B : Type} {F : A → B → Prop} : ∀ {l : List A} {r : List B} (n : Nat), Paired F l r → Paired F (l.take n) (r.take n)
  | _, _, 0, _ => .nil
  | _, _, _ + 1, .nil => .nil
  | _, _, n + 1, .cons a b => .cons a (Paired.take n b)
theorem Paired.at2 {A B : Type} {F : A → B → Prop} : ∀ {l : List A} {r : List B} {i : Nat} {y : B}, Paired F l r → r[i]? = some y → ∃ x, l[i]? = some x ∧ F x y
  | _, _, _, _, .nil, h => by simp at h
  | _, _, 0, _, .cons a b, h => by
    have := Option.some.inj h
    subst this
    exact ⟨_, rfl, a⟩
  | _, _, i + 1, _, .cons a b, h => Paired.at2 (i := i) b h
end Wd
set_option Elab.async false
set_option linter.all false
set_option maxRecDepth 100000
set_option maxHeartbeats 4000000
/-! places, fronts, tails as data; what stays where some lists are written -/
namespace Wd
open PySem L2 Mv
theorem iteN {A B : Prop} (h : B) : if (!true) = true then A else B := by rw [if_neg (by decide)]; exact h
theorem iteM {A B : Prop} (h : A) : if (!false) = true then A else B := by rw [if_pos (by decide)]; exact h
/-- all but the lists of F stay -/
def Bt (F : Addr → Prop) (H H' : Hp) : Prop := ∀ b o, H b = some o → (F b → ∀ xs, o ≠ .lst xs) → H' b = some o
theorem Bt.trans {F : Addr → Prop} {H H1 H2 : Hp} (h : Bt F H H1) (k : Bt F H1 H2) : Bt F H H2 := fun b o e c => k b o (h b o e c) c
theorem Bt.refl {F : Addr → Prop} {H : Hp} : Bt F H H := fun _ _ e _ => e
theorem Same.bt {F : Addr → Prop} {H H' : Hp} (h : Same H H') : Bt F H H' := fun b o e _ => h b o e
theorem Bt.sub {F G : Addr → Prop} {H H' : Hp} (h : Bt F H H') (s : ∀ a, F a → G a) : Bt G H H' := fun b o e c => h b o e fun z => c (s b z)
theorem Bt.put {F : Addr → Prop} {H : Hp} {a : Addr} {xs : List V} {o : HO} (h : H a = some (.lst xs)) (f : F a) : Bt F H (upd H a o) := fun b o' e c => by
  by_cases z : b = a
  · subst z; rw [h] at e; cases e; exact absurd rfl (c f xs)
  · rw [upd_ne z]; exact e
theorem Bt.new {F : Addr → Prop} {H : Hp} {a : Addr} {o : HO} (h : H a = none) : Bt F H (upd H a o) := Same.bt (Same.new h)
theorem Bt.at_ {F : Addr → Prop} {H H' : Hp} (h : Bt F H H') {b : Addr} {o : HO} (e : H b = some o) (c : ¬ F b) : H' b = some o := h b o e fun z => absurd z c
theorem Bt.tup {F : Addr → Prop} {H H' : Hp} (h : Bt F H H') {b : Addr} {xs : List V} (e : H b = some (.tup xs)) : H' b = some (.tup xs) := h b _ e fun _ _ z => nomatch z
def Old (H : Hp) : Addr → Prop := fun a => H a ≠ none
abbrev NoF : Addr → Prop := fun _ => False
end Wd
namespace Mv
open PySem L2 Wd
theorem PlAt.bt {F : Addr → Prop} {H H' : Hp} (s : Bt F H H') {v : V} {p : Pl} (h : PlAt H v p) : PlAt H' v p := PlAt.but (fun b xs e => s.tup e) h
end Mv
namespace Wd
open PySem L2 Mv
/-- a list of places, not of F -/
def PsAt (F : Addr → Prop) (H : Hp) (v : V) (ps : List Pl) : Prop := ∃ l xs, v = .ref l ∧ ¬ F l ∧ H l = some (.lst xs) ∧ Paired (PlAt H) xs ps
theorem PsAt.bt {F : Addr → Prop} {H H' : Hp} (s : Bt F H H') {v : V} {ps : List Pl} (h : PsAt F H v ps) : PsAt F H' v ps := by
  obtain ⟨l, xs, rfl, h1, h2, h3⟩ := h
  exact ⟨l, xs, rfl, h1, s.at_ h2 h1, Paired.mono (fun _ _ => PlAt.bt s) h3⟩
theorem PsAt.sub {F G : Addr → Prop} {H : Hp} (s : ∀ a, G a → F a) {v : V} {ps : List Pl} (h : PsAt F H v ps) : PsAt G H v ps := by
  obtain ⟨l, xs, rfl, h1, h2, h3⟩ := h
  exact ⟨l, xs, rfl, fun z => h1 (s l z), h2, h3⟩
/-- a front and the first place behind it -/
def TlAt (F : Addr → Prop) (H : Hp) (v : V) (t : List Pl × Nat) : Prop := ∃ a u, v = .ref a ∧ H a = some (.tup [u, .int (t.2 : Nat)]) ∧ PsAt F H u t.1
theorem TlAt.bt {F : Addr → Prop} {H H' : Hp} (s : Bt F H H') {v : V} {t : List Pl × Nat} (h : TlAt F H v t) : TlAt F H' v t := by
  obtain ⟨a, u, rfl, h1, h2⟩ := h
  exact ⟨a, u, rfl, s.tup h1, h2.bt s⟩
theorem TlAt.sub {F G : Addr → Prop} {H : Hp} (s : ∀ a, G a → F a) {v : V} {t : List Pl × Nat} (h : TlAt F H v t) : TlAt G H v t := by
  obtain ⟨a, u, rfl, h1, h2⟩ := h
  exact ⟨a, u, rfl, h1, h2.sub s⟩
/-- sizes from 1 to 8 -/
def Pl.fit : Pl → Prop
  | .obj _ => True
  | .pool s _ => 1 ≤ s ∧ s ≤ 8
/-- a place that may stand in the front of the pool of size s -/
def Pl.inPool (s : Nat) : Pl → Prop
  | .obj _ => True
  | .pool t _ => t = s
def Pl.d : Pl → PyData
  | .obj n => .tuple [.str "object", .int (n : Nat)]
  | .pool s c => .tuple [.str "pool", .int (s : Nat), .int (c : Nat)]
theorem Pl.dp {K : PySem.W.Frag} {H : Hp} {v : V} {p : Pl} (h : PlAt H v p) : Dp K H v (Pl.d p) := by
  obtain ⟨a, rfl, h⟩ := h
  cases p with
  | obj n => exact .tup (SqT.of h) (.cons (.str _) (.cons (.int _) .nil))
  | pool s c => exact .tup (SqT.of h) (.cons (.str _) (.cons (.int _) (.cons (.int _) .nil)))
theorem Pl.shaped (p : Pl) : SeqAt.shaped (Pl.d p) = true := by
  unfold SeqAt.shaped
  cases p with
  | obj n => simp only [Pl.d, PyData.canLay0, PyData.canLayAll0, PyData.depth, PyData.depthAll, Bool.and_true]; decide +kernel
  | pool s c => simp only [Pl.d, PyData.canLay0, PyData.canLayAll0, PyData.depth, PyData.depthAll, Bool.and_true]; decide +kernel
def Pl.isPool (s : Nat) (c : Int) : Pl → Bool
  | .obj _ => false
  | .pool t d => decide (t = s) && decide (((d : Nat) : Int) = c)
theorem Pl.isPool_iff {s : Nat} {c : Int} {p : Pl} : Pl.isPool s c p = true ↔ ∃ d : Nat, ((d : Nat) : Int) = c ∧ p = .pool s d := by
  cases p with
  | obj n => exact ⟨fun z => (nomatch z), fun ⟨_, _, z⟩ => (nomatch z)⟩
  | pool t d =>
    unfold Pl.isPool
    rw [Bool.and_eq_true_iff, decide_eq_true_eq, decide_eq_true_eq]
    exact ⟨fun ⟨a, b⟩ => ⟨d, b, by rw [a]⟩, fun ⟨e, a, b⟩ => by cases b; exact ⟨rfl, a⟩⟩
theorem eqv_pool (p : Pl) (s : Nat) (c : Int) : PyData.eqv (Pl.d p) (.tuple [.str "pool", .int (s : Nat), .int c]) = Pl.isPool s c p := by
  cases p with
  | obj n => simp only [Pl.d, PyData.eqv, PyData.eqvAll, Bool.and_false, Pl.isPool]
  | pool t d =>
    simp only [Pl.d, PyData.eqv, PyData.eqvAll, Bool.and_true, Pl.isPool]
    have e : (("pool" : Str) == "pool") = true := by decide +kernel
    rw [e, Bool.true_and]
    congr 1
    exact decide_eq_decide.mpr ⟨fun z => Int.ofNat.inj z, fun z => by rw [z]⟩
theorem shaped_pool (s : Nat) (c : Int) : SeqAt.shaped (.tuple [.str "pool", .int (s : Nat), .int c]) = true := by
  unfold SeqAt.shaped
  simp only [PyData.canLay0, PyData.canLayAll0, PyData.depth, PyData.depthAll, Bool.and_true]
  have : PyData.strOk "pool" = true := by decide +kernel
  rw [this]; rfl
theorem sz3 : 3 ≤ sizeLine := three_line
theorem sz2 : 2 ≤ sizeLine := Nat.le_trans (by decide) three_line
theorem sz1 : 1 ≤ sizeLine := Nat.le_trans (by decide) three_line
theorem szM : (1000000 : Nat) ≤ sizeLine := by rw [sizeLine_eq]; decide
end Wd
set_option Elab.async false
set_option linter.all false
set_option maxRecDepth 100000
set_option maxHeartbeats 4000000
namespace Wd
open PySem L2 Mv
section
variable {P : Program} {w : World} {K : PySem.W.Frag} {mg : Str → Option Value} {base : Heap} {f C CM : Addr} {fd : FuncData} {H : Hp}
theorem all_rep (n : Nat) : (List.replicate n true).all id = true := by rw [List.all_replicate]; simp
/-- a comprehension over a list (or tuple) that gives True throughout -/
theorem lc_trues {K : PySem.W.Frag} {a : Addr} {xs : List V} {i : Nat} {te : TE} {vs : List Nat} {σ : L2.St} {H1 : Hp} {D : Addr} {Qd : Hp → Prop} (hD : H1 D = none) (hl : H1 a = some (.lst xs)) (hn : xs.length ≤ 1000)
    (hw : ∀ x, wipe ((wipe σ vs).set i (some x)) vs = wipe σ vs)
    (hs : ∀ x, x ∈ xs → ∀ H', Same H1 H' → ∀ Q' : VK, (∀ H'', Same H' H'' → Q' (.bl true) H'') → te ((wipe σ vs).set i (some x)) H' Q') (hd : ∀ H', Same H1 H' → H' D = some (.lst (List.replicate xs.length (.bl true))) → Qd H') :
    ∃ W : Nat → Nat → Hp → Prop, (∃ m, W 0 m (upd H1 D (.lst []))) ∧ ∀ j m H, W j m H →
      ((Itl K a).stop j H ∧ Qd H) ∨ ((Itl K a).go j H ∧ ∃ Nx : Hp → Prop, (∀ H', Nx H' → ∃ m', m' < m ∧ W (j + 1) m' H') ∧ ∀ x H', (Itl K a).yld j H x H' → gName i x (wipe σ vs) H' fun σ2 H2 => wipe σ2 vs = wipe σ vs ∧ tYes σ2 H2 fun b H3 =>
        if b = true then te σ2 H3 fun y H4 => ∃ acc, H4 D = some (.lst acc) ∧ acc.length < sizeLine ∧ Nx (upd H4 D (.lst (acc ++ [y]))) else Nx H3) := by
  have z := szM
  refine lc_list (xs := xs) (fun j H' => Same H1 H' ∧ H' D = some (.lst (List.replicate j (.bl true)))) ⟨Same.new hD, upd_same⟩ (fun j H' _ h => SqL.of (h.1 _ _ hl)) ?_ fun H' h => hd H' h.1 h.2
  rintro j x H' hx ⟨s1, hD'⟩
  refine ⟨hw x, ?_⟩
  unfold tYes
  have hj := (List.getElem?_eq_some_iff.mp hx).1
  refine iteT (hs x (List.mem_of_getElem? hx) H' s1 _ fun H'' s2 => ⟨_, s2 _ _ hD', by rw [List.length_replicate]; omega, fun b o e => ?_, ?_⟩)
  · rw [upd_ne (fun z => by rw [z, hD] at e; cases e)]; exact s2 _ _ (s1 _ _ e)
  · rw [upd_same, ← List.replicate_succ']
theorem lc_truesT {K : PySem.W.Frag} {a : Addr} {xs : List V} {i : Nat} {te : TE} {vs : List Nat} {σ : L2.St} {H1 : Hp} {D : Addr} {Qd : Hp → Prop} (hD : H1 D = none) (hl : H1 a = some (.tup xs)) (hn : xs.length ≤ 1000)
    (hw : ∀ x, wipe ((wipe σ vs).set i (some x)) vs = wipe σ vs)
    (hs : ∀ x, x ∈ xs → ∀ H', Same H1 H' → ∀ Q' : VK, (∀ H'', Same H' H'' → Q' (.bl true) H'') → te ((wipe σ vs).set i (some x)) H' Q') (hd : ∀ H', Same H1 H' → H' D = some (.lst (List.replicate xs.length (.bl true))) → Qd H') :
    ∃ W : Nat → Nat → Hp → Prop, (∃ m, W 0 m (upd H1 D (.lst []))) ∧ ∀ j m H, W j m H →
      ((Itt K a).stop j H ∧ Qd H) ∨ ((Itt K a).go j H ∧ ∃ Nx : Hp → Prop, (∀ H', Nx H' → ∃ m', m' < m ∧ W (j + 1) m' H') ∧ ∀ x H', (Itt K a).yld j H x H' → gName i x (wipe σ vs) H' fun σ2 H2 => wipe σ2 vs = wipe σ vs ∧ tYes σ2 H2 fun b H3 =>
        if b = true then te σ2 H3 fun y H4 => ∃ acc, H4 D = some (.lst acc) ∧ acc.length < sizeLine ∧ Nx (upd H4 D (.lst (acc ++ [y]))) else Nx H3) := by
  have z := szM
  refine lc_tup (xs := xs) (fun j H' => Same H1 H' ∧ H' D = some (.lst (List.replicate j (.bl true)))) ⟨Same.new hD, upd_same⟩ (fun j H' _ h => SqT.of (h.1 _ _ hl)) ?_ fun H' h => hd H' h.1 h.2
  rintro j x H' hx ⟨s1, hD'⟩
  refine ⟨hw x, ?_⟩
  unfold tYes
  have hj := (List.getElem?_eq_some_iff.mp hx).1
  refine iteT (hs x (List.mem_of_getElem? hx) H' s1 _ fun H'' s2 => ⟨_, s2 _ _ hD', by rw [List.length_replicate]; omega, fun b o e => ?_, ?_⟩)
  · rw [upd_ne (fun z => by rw [z, hD] at e; cases e)]; exact s2 _ _ (s1 _ _ e)
  · rw [upd_same, ← List.replicate_succ']
theorem SqL.reps {K : PySem.W.Frag} {H : Hp} {D : Addr} {n : Nat} (h : H D = some (.lst (List.replicate n (.bl true)))) : SqL K H D ((List.replicate n true).map V.bl) := SqL.of (by rw [List.map_replicate]; exact h)
def spIsPlace : Sp := fun vs H Q _ => ∃ v p, vs = [v] ∧ PlAt H v p ∧ Pl.fit p ∧ ∀ H', Same H H' → Q (.bl true) H'
theorem sc_IsPlace : FnScope ["thing", "part"] ["thing"] (defScope sIsPlace) := ⟨rfl, rfl, rfl, by decide +kernel, rfl, by decide +kernel, by decide +kernel⟩
theorem ok_IsPlace (D : DefF K mg "is_place" sIsPlace ["thing"] f fd) (B : Blt mg) {t8 : Tok} (m8 : mg "MOST_SIZE" = some (.int 8 t8))
    {fI : Addr} {fdI : FuncData} (DIsInteger : DefF K mg "is_integer" sIsInteger ["thing"] fI fdI) (GIsInteger : FnOk P w K mg base CX0 1 fI fdI ["thing"] spIsInteger) : FnOk P w K mg base CX0 2 f fd ["thing"] spIsPlace := by
  refine D.fn.ok sc_IsPlace (fun vs H Q E h => ?_) (fun cdv A outer s H vs Q E hr h => ?_)
  · obtain ⟨v, p, rfl, _⟩ := h; rfl
  · obtain ⟨v, p, rfl, ⟨a, rfl, ha⟩, hf, k⟩ := h
    refine ⟨_, (pss_cons (ps_if (PW.pt (pw_or (pt_not (pt_val (pe_callB call_isi (by rfl) B.isi PyProof.Rows.boot_isinstance (pa_cons (pv 0) (pa_cons (pe_bltn (v := .ty "tuple") (by rfl) B.tuple PyProof.Rows.boot_tuple rfl) pa_nil))))) (pw_or (pt_cmpR op_notIn_seq (pe_callB call_len_seq (by rfl) B.len PySem.boot_len (pa_cons (pv 0) pa_nil)) (pe_tup (pa_cons pe_int (pa_cons pe_int pa_nil))) rfl) (pw_or1 (pt_not (pt_val (pe_callB call_isi (by rfl) B.isi PyProof.Rows.boot_isinstance (pa_cons (pe_ix ix_tup (pv 0) pe_int (fun _ _ => rfl)) (pa_cons (pe_bltn (v := .ty "str") (by rfl) B.str PyProof.Rows.boot_str rfl) pa_nil))))))))) (pss_one (ps_ret pe_bl)) pss_nil) (pss_cons (ps_if (pt_not (pt_val (pe_callB (cr_all rfl) (by rfl) B.all PyProof.Rows.boot_all (pa_cons (pe_lc (own := [("part", 1)]) (g := gName 1) (tt := tYes) rfl sc_IsPlace.nd (pi_tup (pe_slice sl_tupA (pv 0) (po_some pe_int) po_none)) (blkOk_by (N := ["thing", "part"]) (sc := defScope sIsPlace) (by decide +kernel)) (fun _ _ _ _ _ => pg_name (i := 1) sc_IsPlace.nd rfl (Or.inl rfl)) (fun _ _ _ _ _ => pts_nil) (fun _ _ _ _ _ => (pe_and (pe_call GIsInteger (hr.mono (by first | decide | omega)) rfl DIsInteger.gl DIsInteger.fn.kp DIsInteger.bd .nil pass0 (pa_cons (pv 1) pa_nil)) (pe_one (pe_cmpR op_ge (pv 1) pe_int (nomark _)))))) pa_nil)))) (pss_one (ps_ret pe_bl)) pss_nil) (pss_cons (ps_if (pt_cmpR op_eq (pe_ix ix_tup (pv 0) pe_int (fun _ _ => rfl)) pe_str (nomark _)) (pss_one (ps_ret (pe_cmpR op_eq (pe_callB call_len_seq (by rfl) B.len PySem.boot_len (pa_cons (pv 0) pa_nil)) pe_int (nomark _)))) pss_nil) (pss_one (ps_ret (pe_and (pe_cmpR op_eq (pe_ix ix_tup (pv 0) pe_int (fun _ _ => rfl)) pe_str (nomark _)) (pe_and (pe_cmpR op_eq (pe_callB call_len_seq (by rfl) B.len PySem.boot_len (pa_cons (pv 0) pa_nil)) pe_int (nomark _)) (pe_one (pe_chain op_le op_le pe_int (pe_ix ix_tup (pv 0) pe_int (fun _ _ => rfl)) (pe_glob (v := .int 8) rfl m8 ⟨_, rfl⟩)))))))))), ?_⟩
    have sq : SqT K H a p.vs := SqT.of ha
    have hl : p.vs.length = 2 ∨ p.vs.length = 3 := by cases p <;> simp [Pl.vs]
    have h0 : ∃ z, atI p.vs 0 = some (.str z) := by cases p <;> exact ⟨_, rfl⟩
    obtain ⟨z0, h0⟩ := h0
    refine ⟨_, rfl, _, _, _, _, true, rfl, ClsV.ty _, .base (.tup ha), kit_ty (by decide +kernel), _, rfl, iteF ?_⟩
    refine ⟨_, rfl, a, _, rfl, .inr sq, sz2, fun t1 ht1 => ⟨t1, _, rfl, .inr (SqT.of upd_same), rfl, rfl, _, rfl, ?_⟩⟩
    have s1 := Same.new (o := .tup [.int 2, .int 3]) ht1
    generalize upd H t1 (.tup [.int 2, .int 3]) = H1 at s1 ⊢
    have sq1 : SqT K H1 a p.vs := SqT.of (s1 _ _ ha)
    rw [show inV (.int ((p.vs.length : Nat) : Int)) [.int 2, .int 3] = true by rcases hl with e | e <;> (rw [e]; decide +kernel)]
    refine iteF ?_
    refine ⟨_, rfl, a, _, 0, .str z0, rfl, rfl, sq1, h0, _, _, _, _, true, rfl, ClsV.ty _, .base (.str z0), kit_ty (by decide +kernel), _, rfl, iteF ?_⟩
    have lN : ∃ ns : List Nat, p.vs.drop 1 = ns.map (fun n => V.int (n : Nat)) := by
      cases p with
      | obj n => exact ⟨[n], rfl⟩
      | pool s c => exact ⟨[s, c], rfl⟩
    obtain ⟨ns, eN⟩ := lN
    have cN : cutV p.vs (some 1) none = p.vs.drop 1 := cut_lo p.vs 1
    refine ⟨_, rfl, 1, rfl, a, _, rfl, sq1, fun z => absurd z.1 ?_, fun _ t2 ht2 => ?_⟩
    · rw [show (some (1 : Int)) = some ((1 : Nat) : Int) from rfl, HT.sIx_nat]; omega
    dsimp only at ht2 ⊢
    rw [cN, eN]
    have s2 := s1.trans (Same.new (o := .tup (ns.map fun n => V.int (n : Nat))) ht2)
    have lns : ns.length ≤ 1000 := by have := congrArg List.length eN; rw [List.length_map, List.length_drop] at this; omega
    refine ⟨t2, rfl, ⟨_, SqT.of upd_same⟩, fun D' hD => lc_truesT (xs := ns.map fun n => V.int (n : Nat)) hD upd_same (by rw [List.length_map]; exact lns) (fun _ => rfl) ?_ ?_⟩
    · rintro x hx H' s' Q' k'
      obtain ⟨n, _, rfl⟩ := List.mem_map.mp hx
      refine ⟨_, rfl, _, rfl, true, rfl, iteT ?_⟩
      refine ⟨_, rfl, _, _, rfl, rfl, ?_⟩
      dsimp only
      rw [decide_eq_true (show (0 : Int) ≤ ((n : Nat) : Int) by omega)]
      exact k' H' (Same.refl _)
    · intro H' s' hD'
      refine ⟨D', _, rfl, SqL.reps hD', _, rfl, ?_⟩
      rw [all_rep]
      refine iteF ?_
      have s3 := s2.trans s'
      have sq3 : SqT K H' a p.vs := SqT.of (s3 _ _ ha)
      cases p with
      | obj n =>
        refine ⟨_, rfl, a, _, 0, _, rfl, rfl, sq3, rfl, rfl, _, rfl, ?_⟩
        rw [show decide (V.str "object" = V.str (Str.ofString "object")) = true from decide_eq_true rfl]
        refine iteT ⟨_, rfl, a, _, rfl, .inr sq3, rfl, ?_⟩
        exact k _ s3
      | pool t c =>
        refine ⟨_, rfl, a, _, 0, _, rfl, rfl, sq3, rfl, rfl, _, rfl, ?_⟩
        rw [show decide (V.str "pool" = V.str (Str.ofString "object")) = false from by decide +kernel]
        refine iteF ⟨_, rfl, a, _, 0, _, rfl, rfl, sq3, rfl, rfl, _, rfl, ?_⟩
        rw [show decide (V.str "pool" = V.str (Str.ofString "pool")) = true from decide_eq_true rfl]
        refine iteT ⟨_, rfl, a, _, rfl, .inr sq3, rfl, _, rfl, ?_⟩
        refine iteT ⟨_, rfl, a, _, 1, _, rfl, rfl, sq3, rfl, _, _, rfl, rfl, _, rfl, ?_⟩
        rw [decide_eq_true (show (1 : Int) ≤ ((t : Nat) : Int) from by have := hf.1; omega)]
        refine iteT ⟨_, _, rfl, rfl, ?_⟩
        dsimp only
        rw [decide_eq_true (show ((t : Nat) : Int) ≤ 8 from by have := hf.2; omega)]
        exact k _ s3
def spIsPool : Sp := fun vs H Q _ => ∃ (s : Nat) (v : V) (F : Addr → Prop) (t : List Pl × Nat), vs = [.int (s : Nat), v] ∧ 1 ≤ s ∧ s ≤ 8 ∧ TlAt F H v t ∧ t.1.length ≤ 1000 ∧ (∀ p ∈ t.1, Pl.fit p ∧ Pl.inPool s p) ∧ ∀ H', Same H H' → Q (.bl true) H'
theorem sc_IsPool : FnScope ["size", "thing", "front", "fresh", "place"] ["size", "thing"] (defScope sIsPool) := ⟨rfl, rfl, rfl, by decide +kernel, rfl, by decide +kernel, by decide +kernel⟩
theorem ok_IsPool (D : DefF K mg "is_pool" sIsPool ["size", "thing"] f fd) (B : Blt mg) {t8 : Tok} (m8 : mg "MOST_SIZE" = some (.int 8 t8))
    {fI fB fP : Addr} {fdI fdB fdP : FuncData} (DIsInteger : DefF K mg "is_integer" sIsInteger ["thing"] fI fdI) (GIsInteger : FnOk P w K mg base CX0 1 fI fdI ["thing"] spIsInteger)
    (DIsBetween : DefF K mg "is_between" sIsBetween ["thing", "least", "most"] fB fdB) (GIsBetween : FnOk P w K mg base CX0 2 fB fdB ["thing", "least", "most"] spIsBetween)
    (DIsPlace : DefF K mg "is_place" sIsPlace ["thing"] fP fdP) (GIsPlace : FnOk P w K mg base CX0 2 fP fdP ["thing"] spIsPlace) : FnOk P w K mg base CX0 3 f fd ["size", "thing"] spIsPool := by
  refine D.fn.ok sc_IsPool (fun vs H Q E h => ?_) (fun cdv A outer s H vs Q E hr h => ?_)
  · obtain ⟨s, v, F, t, rfl, _⟩ := h; rfl
  · obtain ⟨sz, v, F, ⟨ps, n⟩, rfl, h1, h8, ⟨a, u, rfl, ha, ⟨l, xs, rfl, _, hl, px⟩⟩, hlen, hf, k⟩ := h
    refine ⟨_, (pss_cons (ps_if (PW.pt (pw_or (pt_not (pt_val (pe_call GIsBetween (hr.mono (by first | decide | omega)) rfl DIsBetween.gl DIsBetween.fn.kp DIsBetween.bd .nil pass0 (pa_cons (pv 0) (pa_cons pe_int (pa_cons (pe_glob (v := .int 8) rfl m8 ⟨_, rfl⟩) pa_nil)))))) (pw_or (pt_not (pt_val (pe_callB call_isi (by rfl) B.isi PyProof.Rows.boot_isinstance (pa_cons (pv 1) (pa_cons (pe_bltn (v := .ty "tuple") (by rfl) B.tuple PyProof.Rows.boot_tuple rfl) pa_nil))))) (pw_or1 (pt_cmpR op_ne (pe_callB call_len_seq (by rfl) B.len PySem.boot_len (pa_cons (pv 1) pa_nil)) pe_int (nomark _)))))) (pss_one (ps_ret pe_bl)) pss_nil) (pss_cons (ps_asg (pv 1) (pg_tup rfl (pgs_cons (pg_name (i := 2) sc_IsPool.nd rfl (.inl rfl)) (pgs_cons (pg_name (i := 3) sc_IsPool.nd rfl (.inl rfl)) pgs_nil)))) (pss_cons (ps_if (PW.pt (pw_or (pt_not (pt_val (pe_callB call_isi (by rfl) B.isi PyProof.Rows.boot_isinstance (pa_cons (pv 2) (pa_cons (pe_bltn (v := .ty "list") (by rfl) B.list PyProof.Rows.boot_list rfl) pa_nil))))) (pw_or (pt_not (pt_val (pe_call GIsInteger (hr.mono (by first | decide | omega)) rfl DIsInteger.gl DIsInteger.fn.kp DIsInteger.bd .nil pass0 (pa_cons (pv 3) pa_nil)))) (pw_or1 (pt_cmpR op_lt (pv 3) pe_int (nomark _)))))) (pss_one (ps_ret pe_bl)) pss_nil) (pss_one (ps_ret (pe_callB (cr_all rfl) (by rfl) B.all PyProof.Rows.boot_all (pa_cons (pe_lc (own := [("place", 4)]) (g := gName 4) (tt := tYes) rfl sc_IsPool.nd (pi_list (pv 2)) (blkOk_by (N := ["size", "thing", "front", "fresh", "place"]) (sc := defScope sIsPool) (by decide +kernel)) (fun _ _ _ _ _ => pg_name (i := 4) sc_IsPool.nd rfl (Or.inl rfl)) (fun _ _ _ _ _ => pts_nil) (fun _ _ _ _ _ => (pe_and (pe_call GIsPlace (hr.mono (by first | decide | omega)) rfl DIsPlace.gl DIsPlace.fn.kp DIsPlace.bd .nil pass0 (pa_cons (pv 4) pa_nil)) (pe_one (pe_or (pe_cmpR op_eq (pe_ix (show IxR _ (rIxT K) from ix_tup) (pv 4) pe_int (fun _ _ => rfl)) pe_str (nomark _)) (pe_one (pe_cmpR op_eq (pe_ix (show IxR _ (rIxT K) from ix_tup) (pv 4) pe_int (fun _ _ => rfl)) (pv 0) (nomark _)))))))) pa_nil))))))), ?_⟩
    refine ⟨_, rfl, _, _, _, rfl, _, rfl, ?_⟩
    rw [decide_eq_true (show (1 : Int) ≤ ((sz : Nat) : Int) by omega), decide_eq_true (show ((sz : Nat) : Int) ≤ 8 by omega)]
    refine iteF ⟨_, rfl, _, _, _, _, true, rfl, ClsV.ty _, .base (.tup ha), kit_ty (by decide +kernel), _, rfl, iteF ?_⟩
    refine ⟨_, rfl, a, _, rfl, .inr (SqT.of ha), rfl, _, rfl, ?_⟩
    refine iteF ?_
    refine ⟨_, rfl, a, _, rfl, SqT.of ha, rfl, _, _, rfl, _, _, rfl, rfl, ?_⟩
    refine ⟨_, rfl, _, _, _, _, true, rfl, ClsV.ty _, .base (.lst hl), kit_ty (by decide +kernel), _, rfl, iteF ?_⟩
    refine ⟨_, rfl, _, rfl, _, rfl, iteF ?_⟩
    refine ⟨_, rfl, _, _, rfl, rfl, _, rfl, ?_⟩
    rw [decide_eq_false (show ¬ ((n : Nat) : Int) < 0 by omega)]
    refine iteF ?_
    have lx := Paired.len px
    refine ⟨_, rfl, l, rfl, ⟨_, SqL.of hl⟩, fun D' hD => lc_trues (xs := xs) hD hl (by rw [lx]; exact hlen) (fun _ => rfl) ?_ ?_⟩
    · rintro x hx H' s' Q' k'
      obtain ⟨j, hj⟩ := List.getElem?_of_mem hx
      obtain ⟨p, hp, q⟩ := Paired.at_ px hj
      have hm := List.mem_of_getElem? hp
      have q' := q.mono s'
      refine ⟨_, rfl, x, p, rfl, q', (hf p hm).1, fun H'' s'' => ⟨true, rfl, iteT ?_⟩⟩
      obtain ⟨b, rfl, hb⟩ := q'.mono s''
      cases p with
      | obj n =>
        refine ⟨_, rfl, b, _, 0, _, rfl, rfl, SqT.of hb, rfl, rfl, _, rfl, ?_⟩
        rw [show decide (V.str "object" = V.str (Str.ofString "object")) = true from decide_eq_true rfl]
        exact iteT (k' _ s'')
      | pool t c =>
        refine ⟨_, rfl, b, _, 0, _, rfl, rfl, SqT.of hb, rfl, rfl, _, rfl, ?_⟩
        rw [show decide (V.str "pool" = V.str (Str.ofString "object")) = false from by decide +kernel]
        refine iteF ⟨_, rfl, b, _, 1, _, rfl, rfl, SqT.of hb, rfl, _, rfl, rfl, ?_⟩
        have e : t = sz := (hf _ hm).2
        rw [e, show decide (V.int ((sz : Nat) : Int) = V.int ((sz : Nat) : Int)) = true from decide_eq_true rfl]
        exact k' _ s''
    · intro H' s' hD'
      refine ⟨D', _, rfl, SqL.reps hD', ?_⟩
      rw [all_rep]
      exact k _ s'
/-- the shortest front that tells the same -/
def shortF (s : Nat) (ps : List Pl) : Nat → Nat → Nat × Nat
  | 0, n => (0, n)
  | c + 1, n => match ps[c]?, n with
    | some (.pool t d), m + 1 => if t = s ∧ d = m then shortF s ps c m else (c + 1, m + 1)
    | _, _ => (c + 1, n)
def short (s : Nat) (ps : List Pl) (n : Nat) : List Pl × Nat := (ps.take (shortF s ps ps.length n).1, (shortF s ps ps.length n).2)
def spShortened : Sp := fun vs H Q _ => ∃ (s : Nat) (v : V) (F : Addr → Prop) (ps : List Pl) (n : Nat), vs = [.int (s : Nat), v, .int (n : Nat)] ∧ PsAt F H v ps ∧ ∀ v' H', Same H H' → TlAt (Old H) H' v' (short s ps n) → Q v' H'
theorem sc_Shortened : FnScope ["size", "front", "fresh", "count"] ["size", "front", "fresh"] (defScope sShortened) := ⟨rfl, rfl, rfl, by decide +kernel, rfl, by decide +kernel, by decide +kernel⟩
theorem ok_Shortened (D : DefF K mg "shortened" sShortened ["size", "front", "fresh"] f fd) (B : Blt mg) : FnOk P w K mg base CX0 1 f fd ["size", "front", "fresh"] spShortened := by
  refine D.fn.ok sc_Shortened (fun vs H Q E h => ?_) (fun cdv A outer s H vs Q E hr h => ?_)
  · obtain ⟨s, v, F, ps, n, rfl, _⟩ := h; rfl
  · obtain ⟨sz, v, F, ps, n, rfl, ⟨l, xs, rfl, _, hl, px⟩, k⟩ := h
    refine ⟨_, (pss_cons (ps_set (i := 3) sc_Shortened.nd rfl (.inl rfl) (pe_callB call_len_seq (by rfl) B.len PySem.boot_len (pa_cons (pv 1) pa_nil))) (pss_cons (ps_while PassesOwn.never (PW.pt (pw_and (pt_cmpR op_gt (pv 3) pe_int (nomark _)) (pw_and1 (pt_cmpR (op_eqD hr.units) (pe_ix ix_list (pv 1) (pe_op op_sub (pv 3) pe_int) (fun _ _ => rfl)) (pe_tup (pa_cons pe_str (pa_cons (pv 0) (pa_cons (pe_op op_sub (pv 2) pe_int) pa_nil)))) (nomark _))))) (pss_cons (ps_aug (i := 3) sc_Shortened.nd rfl (.inl rfl) pe_int ip_sub) (pss_one (ps_aug (i := 2) sc_Shortened.nd rfl (.inl rfl) pe_int ip_sub)))) (pss_one (ps_ret (pe_tup (pa_cons (pe_slice sl_list (pv 1) po_none (po_some (pv 3))) (pa_cons (pv 2) pa_nil))))))), ?_⟩
    have lx := Paired.len px
    refine ⟨_, rfl, l, _, rfl, .inl (SqL.of hl), ?_⟩
    refine ⟨fun m σ H' => ∃ (n' : Nat), shortF sz ps m n' = shortF sz ps ps.length n ∧ m ≤ ps.length ∧ σ = [some (.int (sz : Nat)), some (.ref l), some (.int (n' : Nat)), some (.int (m : Nat))] ∧ Same H H', ⟨ps.length, n, rfl, Nat.le_refl _, by rw [lx]; rfl, Same.refl _⟩, ?_⟩
    rintro m σ H1 ⟨n', e, hm, rfl, s1⟩
    have fin : ∀ (c n2 : Nat), shortF sz ps ps.length n = (c, n2) → ∀ H2, Same H H2 → (tRet (tTup (tCons (tSl (rSlL K) (tVar 1) tNoPart (tPart (tVar 3))) (tCons (tVar 2) tNil)))) { nx := fun x H' => Q V.non H', rt := Q } [some (.int (sz : Nat)), some (.ref l), some (.int (n2 : Nat)), some (.int (c : Nat))] H2 := fun c n2 e2 H2 s2 => by
      refine ⟨_, rfl, _, rfl, _, rfl, l, _, rfl, SqL.of (s2 _ _ hl), fun p1 hp1 => ?_⟩
      rw [cut_hi]
      have s3 := Same.new (o := .lst (xs.take c)) hp1
      refine ⟨_, rfl, sz2, fun p2 hp2 => ?_⟩
      have s4 := s3.trans (Same.new (o := .tup [.ref p1, .int (n2 : Nat)]) hp2)
      refine k _ _ (s2.trans s4) ⟨p2, .ref p1, rfl, ?_, p1, xs.take c, rfl, fun z => z ?_, ?_, ?_⟩
      · unfold short; rw [e2]; exact upd_same
      · cases z : H p1 with
        | none => rfl
        | some o => rw [s2 _ _ z] at hp1; cases hp1
      · rw [upd_ne (ne_of_none upd_same hp2)]; exact upd_same
      · unfold short; rw [e2]
        exact Paired.mono (fun _ _ => PlAt.mono (s2.trans s4)) (Paired.take c px)
    refine ⟨_, rfl, _, _, rfl, rfl, _, rfl, ?_⟩
    cases m with
    | zero =>
      rw [decide_eq_false (show ¬ (0 : Int) < ((0 : Nat) : Int) by omega)]
      refine iteF (iteF ?_)
      exact fin 0 n' (by rw [← e]; rfl) H1 s1
    | succ c =>
      rw [decide_eq_true (show (0 : Int) < ((c + 1 : Nat) : Int) by omega)]
      refine iteT ?_
      obtain ⟨x, hx, q⟩ := Paired.at2 px (List.getElem?_eq_getElem (show c < ps.length by omega))
      generalize hp : ps[c]'(by omega) = p at q
      have hpc : ps[c]? = some p := by rw [← hp]; exact List.getElem?_eq_getElem (by omega)
      refine ⟨_, rfl, _, rfl, _, _, rfl, rfl, l, xs, _, x, rfl, rfl, SqL.of (s1 _ _ hl), ?_, _, rfl, _, rfl, _, _, rfl, rfl, sz3, fun p1 hp1 => ?_⟩
      · rw [show ((c + 1 : Nat) : Int) - 1 = ((c : Nat) : Int) by omega]; exact atI_nat hx
      have s2 := s1.trans (Same.new (o := .tup [.str "pool", .int (sz : Nat), .int (((n' : Nat) : Int) - 1)]) hp1)
      refine ⟨Pl.d p, .tuple [.str "pool", .int (sz : Nat), .int (((n' : Nat) : Int) - 1)], Pl.dp (q.mono s2), .tup (SqT.of upd_same) (.cons (.str _) (.cons (.int _) (.cons (.int _) .nil))), Pl.shaped p, shaped_pool _ _, _, rfl, ?_⟩
      rw [eqv_pool]
      by_cases hc : ∃ m, n' = m + 1 ∧ p = .pool sz m
      · obtain ⟨m, rfl, rfl⟩ := hc
        rw [show Pl.isPool sz (((m + 1 : Nat) : Int) - 1) (.pool sz m) = true from Pl.isPool_iff.mpr ⟨m, by omega, rfl⟩]
        refine iteT ⟨_, fun _ _ h => h, ?_⟩
        have hcl : c ≤ ps.length := by omega
        refine ⟨_, rfl, _, _, rfl, rfl, _, rfl, _, _, rfl, rfl, c, Nat.lt_succ_self c, m, ?_, hcl, ?_, s2⟩
        · rw [← e]
          show _ = match ps[c]?, m + 1 with
            | some (.pool t d), m + 1 => if t = sz ∧ d = m then shortF sz ps c m else (c + 1, m + 1)
            | _, _ => (c + 1, m + 1)
          rw [hpc]
          simp
        · dsimp only
          rw [show ((c + 1 : Nat) : Int) - 1 = ((c : Nat) : Int) by omega, show ((m + 1 : Nat) : Int) - 1 = ((m : Nat) : Int) by omega]; rfl
      · rw [show Pl.isPool sz (((n' : Nat) : Int) - 1) p = false from by
          cases z : Pl.isPool sz (((n' : Nat) : Int) - 1) p with
          | false => rfl
          | true =>
            obtain ⟨d, e1, e2⟩ := Pl.isPool_iff.mp z
            exact absurd ⟨d, by omega, e2⟩ hc]
        refine iteF ?_
        refine fin (c + 1) n' ?_ _ s2
        rw [← e]
        show (match ps[c]?, n' with
          | some (.pool t d), m + 1 => if t = sz ∧ d = m then shortF sz ps c m else (c + 1, m + 1)
          | _, _ => (c + 1, n')) = _
        rw [hpc]
        cases p with
        | obj _ => rfl
        | pool t d =>
          cases n' with
          | zero => rfl
          | succ m =>
            show (if t = sz ∧ d = m then _ else _) = _
            rw [if_neg fun z => hc ⟨m, rfl, by rw [z.1, z.2]⟩]
end
end Wd
set_option Elab.async false
set_option linter.all false
set_option maxRecDepth 100000
set_option maxHeartbeats 4000000
namespace Wd
open PySem L2 Mv
/-- what a move tells -/
structure Mvd where
  things : List Pl
  tail : Nat → List Pl × Nat
def touched (tl : Nat → List Pl × Nat) : List Nat := (List.range 9).filter fun s => decide (tl s ≠ ([], 0))
/-- a dict of tails by sizes -/
def DcAt (F : Addr → Prop) (H : Hp) (kvs : List (Key × V)) (ks : List Nat) (tl : Nat → List Pl × Nat) : Prop := Paired (fun (kv : Key × V) s => kv.1 = Sum.inl ((s : Nat) : Int) ∧ TlAt F H kv.2 (tl s)) kvs ks
theorem DcAt.bt {F : Addr → Prop} {H H' : Hp} (s : Bt F H H') {kvs : List (Key × V)} {ks : List Nat} {tl : Nat → List Pl × Nat} (h : DcAt F H kvs ks tl) : DcAt F H' kvs ks tl := Paired.mono (fun _ _ z => ⟨z.1, z.2.bt s⟩) h
theorem DcAt.sub {F G : Addr → Prop} {H : Hp} (s : ∀ a, G a → F a) {kvs : List (Key × V)} {ks : List Nat} {tl : Nat → List Pl × Nat} (h : DcAt F H kvs ks tl) : DcAt G H kvs ks tl := Paired.mono (fun _ _ z => ⟨z.1, z.2.sub s⟩) h
theorem DcAt.get {F : Addr → Prop} {H : Hp} {tl : Nat → List Pl × Nat} {s : Nat} : ∀ {kvs : List (Key × V)} {ks : List Nat}, DcAt F H kvs ks tl → (s ∈ ks → ∃ v, valV kvs (Sum.inl ((s : Nat) : Int) : Key) = some v ∧ TlAt F H v (tl s)) ∧ (s ∉ ks → valV kvs (Sum.inl ((s : Nat) : Int) : Key) = none)
  | _, _, .nil => ⟨fun z => absurd z List.not_mem_nil, fun _ => rfl⟩
  | kv :: kvs, k :: ks, .cons a b => by
    by_cases e : k = s
    · subst e
      exact ⟨fun _ => ⟨kv.2, valV_pos a.1, a.2⟩, fun z => absurd List.mem_cons_self z⟩
    · have ne : ¬ kv.1 = (Sum.inl ((s : Nat) : Int) : Key) := fun z => e (Int.ofNat.inj (Sum.inl.inj (a.1.symm.trans z)))
      rw [valV_neg ne]
      have ih := DcAt.get (s := s) b
      exact ⟨fun z => ih.1 ((List.mem_cons.mp z).resolve_left fun y => e y.symm), fun z => ih.2 fun y => z (List.mem_cons_of_mem _ y)⟩
/-- an instance of Move at v -/
def MvAt (CM : Addr) (F : Addr → Prop) (H : Hp) (v : V) (m : Mvd) : Prop := ∃ a dx lt d xs kvs, v = .ref a ∧ H a = some (.ins CM dx [("things", .ref lt), ("tails", .ref d)]) ∧ ¬ F lt ∧ H lt = some (.lst xs) ∧ Paired (PlAt H) xs m.things ∧ H d = some (.dK kvs) ∧ DcAt F H kvs (touched m.tail) m.tail
theorem MvAt.bt {CM : Addr} {F : Addr → Prop} {H H' : Hp} (s : Bt F H H') {v : V} {m : Mvd} (h : MvAt CM F H v m) : MvAt CM F H' v m := by
  obtain ⟨a, dx, lt, d, xs, kvs, rfl, h1, h2, h3, h4, h5, h6⟩ := h
  exact ⟨a, dx, lt, d, xs, kvs, rfl, s _ _ h1 fun _ _ z => (nomatch z), h2, s.at_ h3 h2, Paired.mono (fun _ _ => PlAt.bt s) h4, s _ _ h5 fun _ _ z => (nomatch z), h6.bt s⟩
theorem MvAt.sub {CM : Addr} {F G : Addr → Prop} {H : Hp} (s : ∀ a, G a → F a) {v : V} {m : Mvd} (h : MvAt CM F H v m) : MvAt CM G H v m := by
  obtain ⟨a, dx, lt, d, xs, kvs, rfl, h1, h2, h3, h4, h5, h6⟩ := h
  exact ⟨a, dx, lt, d, xs, kvs, rfl, h1, fun z => h2 (s _ z), h3, h4, h5, h6.sub s⟩
/-- facts of the class -/
structure MCl (K : PySem.W.Frag) (mg : Str → Option Value) (CM fI : Addr) (fdI : FuncData) : Prop where
  cl : Cls K CM
  nTh : NoAttr K CM "things"
  nTa : NoAttr K CM "tails"
  ha : PySem.W.findIn K (.ref CM) "__class__" = some (some (.builtin "object.__class__"))
  hn : PySem.W.specialIn K (.builtin "object.__class__") "__get__" = some (some (.builtin "getset_descriptor.__get__"))
  ht : PySem.W.takesIn K (.builtin "object.__class__") = some true
  hm : PySem.W.mroIn K CM (.type "object") = some true
  self : PySem.W.kitOne K (.ref CM) (.ref CM) = some true
  noT : ∀ T : String, T ∈ ["NoneType", "int", "tuple", "list", "dict"] → PySem.W.kitOne K (.type T) (.ref CM) = some false
  ne : PySem.W.findIn K (.ref CM) "__ne__" = some (some (.builtin "object.__ne__"))
  fn : Fun K "__init__" "Move.__init__" sMoveInit fI fdI
  b : Binds K fdI ["self", "objects", "pools"] []
  mkr : Mk K CM fI
  gl : mg "Move" = some (.ref CM)
/-- the place that a place comes from -/
def Mvd.orig (m : Mvd) : Pl → Pl
  | .obj n => m.things.getD n (.obj 0)
  | .pool s c => (m.tail s).1.getD c (.pool s ((m.tail s).2 + c - (m.tail s).1.length))
section
variable {P : Program} {w : World} {K : PySem.W.Frag} {mg : Str → Option Value} {base : Heap} {f C CM fMI : Addr} {fd fdMI : FuncData} {H : Hp}
/-- no place behind a front -/
def Taken (ks : List Nat) (tl : Nat → List Pl × Nat) : Pl → Prop
  | .obj _ => True
  | .pool s c => s ∈ ks ∧ c < (tl s).2
def spIsTaken : Sp := fun vs H Q _ => ∃ (x : V) (d : Addr) (v : V) (p : Pl) (kvs : List (Key × V)) (ks : List Nat) (tl : Nat → List Pl × Nat), vs = [x, .ref d, v] ∧ PlAt H v p ∧ H d = some (.dK kvs) ∧ DcAt NoF H kvs ks tl ∧ Taken ks tl p ∧ ∀ H', Same H H' → Q (.bl true) H'
theorem sc_MoveIsTaken : FnScope ["self", "pools", "place"] ["self", "pools", "place"] (defScope sMoveIsTaken) := ⟨rfl, rfl, rfl, by decide +kernel, rfl, by decide +kernel, by decide +kernel⟩
theorem ok_IsTaken (D : DefM K CM "is_taken" "Move.is_taken" sMoveIsTaken ["self", "pools", "place"] f fd) : FnOk P w K mg base CX0 1 f fd ["self", "pools", "place"] spIsTaken := by
  refine D.fn.ok sc_MoveIsTaken (fun vs H Q E h => ?_) (fun cdv A outer s H vs Q E hr h => ?_)
  · obtain ⟨x, d, v, p, kvs, ks, tl, rfl, _⟩ := h; rfl
  · obtain ⟨x, d, v, p, kvs, ks, tl, rfl, ⟨a, rfl, ha⟩, hd, hk, ht, k⟩ := h
    refine ⟨_, (pss_one (ps_ret (pe_or (pe_cmpR op_eq (pe_ix ix_tup (pv 2) pe_int (fun _ _ => rfl)) pe_str (nomark _)) (pe_one (pe_cmpR op_lt (pe_ix ix_tup (pv 2) pe_int (fun _ _ => rfl)) (pe_ix ix_tup (pe_dget2 (Nat.lt_of_le_of_lt (Nat.add_le_add_left (by decide : 1 ≤ 64) _) hr.units) (pv 1) (pe_ix ix_tup (pv 2) pe_int (fun _ _ => rfl)) (pe_tup (pa_cons (pe_lst pa_nil) (pa_cons pe_int pa_nil))) ⟨rfl, rfl, rfl, rfl⟩) pe_int (fun _ _ => rfl)) (nomark _)))))), ?_⟩
    cases p with
    | obj n =>
      refine ⟨_, rfl, a, _, 0, _, rfl, rfl, SqT.of ha, rfl, rfl, _, rfl, ?_⟩
      rw [show decide (V.str "object" = V.str (Str.ofString "object")) = true from decide_eq_true rfl]
      exact iteT (k _ (Same.refl _))
    | pool s c =>
      refine ⟨_, rfl, a, _, 0, _, rfl, rfl, SqT.of ha, rfl, rfl, _, rfl, ?_⟩
      rw [show decide (V.str "pool" = V.str (Str.ofString "object")) = false from by decide +kernel]
      refine iteF ⟨_, rfl, a, _, 2, _, rfl, rfl, SqT.of ha, rfl, ?_⟩
      obtain ⟨v, hv, hvt⟩ := (DcAt.get (s := s) hk).1 ht.1
      refine ⟨_, rfl, d, rfl, .inl ⟨kvs, .inl hd⟩, _, rfl, a, _, 1, _, rfl, rfl, SqT.of ha, rfl, Nat.zero_le _, fun p1 hp1 => ⟨sz2, fun p2 hp2 => ?_⟩⟩
      have s1 := (Same.new (o := .lst []) hp1).trans (Same.new (o := .tup [.ref p1, .int 0]) hp2)
      refine ⟨_, .inl ⟨kvs, Sum.inl ((s : Nat) : Int), .inl (s1 _ _ hd), rfl, rfl⟩, ?_⟩
      rw [hv]
      obtain ⟨b, u, rfl, hb, _⟩ := hvt
      refine ⟨b, _, 1, _, rfl, rfl, SqT.of (s1 _ _ hb), rfl, _, _, rfl, rfl, ?_⟩
      dsimp only
      rw [decide_eq_true (show ((c : Nat) : Int) < (((tl s).2 : Nat) : Int) by have := ht.2; omega)]
      exact k _ s1
def spTail (CM : Addr) : Sp := fun vs H Q _ => ∃ (v : V) (s : Nat) (m : Mvd) (F : Addr → Prop), vs = [v, .int (s : Nat)] ∧ s ≤ 8 ∧ MvAt CM F H v m ∧ (∀ a, F a → H a ≠ none) ∧ ∀ u H', Same H H' → TlAt F H' u (m.tail s) → Q u H'
theorem sc_MoveTail : FnScope ["self", "size"] ["self", "size"] (defScope sMoveTail) := ⟨rfl, rfl, rfl, by decide +kernel, rfl, by decide +kernel, by decide +kernel⟩
theorem ok_Tail (D : DefM K CM "tail" "Move.tail" sMoveTail ["self", "size"] f fd) (TM : MCl K mg CM fMI fdMI) : FnOk P w K mg base CX0 1 f fd ["self", "size"] (spTail CM) := by
  refine D.fn.ok sc_MoveTail (fun vs H Q E h => ?_) (fun cdv A outer s H vs Q E hr h => ?_)
  · obtain ⟨v, s, m, F, rfl, _⟩ := h; rfl
  · obtain ⟨v, s, m, F, rfl, h8, ⟨a, dx, lt, d, xs, kvs, rfl, ha, hnt, hlt, px, hd, hk⟩, hF, k⟩ := h
    refine ⟨_, (pss_one (ps_ret (pe_dget2 (Nat.lt_of_le_of_lt (Nat.add_le_add_left (by decide : 1 ≤ 64) _) hr.units) (pe_fld (pv 0) rfl) (pv 1) (pe_tup (pa_cons (pe_lst pa_nil) (pa_cons pe_int pa_nil))) ⟨rfl, rfl, rfl, rfl⟩))), ?_⟩
    refine ⟨_, rfl, a, CM, dx, _, _, rfl, ha, TM.cl, TM.nTa, rfl, d, rfl, .inl ⟨kvs, .inl hd⟩, _, rfl, Nat.zero_le _, fun p1 hp1 => ⟨sz2, fun p2 hp2 => ?_⟩⟩
    have s1 := (Same.new (o := .lst []) hp1).trans (Same.new (o := .tup [.ref p1, .int 0]) hp2)
    refine ⟨_, .inl ⟨kvs, Sum.inl ((s : Nat) : Int), .inl (s1 _ _ hd), rfl, rfl⟩, ?_⟩
    by_cases hs : s ∈ touched m.tail
    · obtain ⟨v, hv, hvt⟩ := (DcAt.get (s := s) hk).1 hs
      rw [hv]
      exact k _ _ s1 (hvt.bt (Same.bt s1))
    · rw [(DcAt.get (s := s) hk).2 hs]
      have e : m.tail s = ([], 0) := by
        unfold touched at hs
        rw [List.mem_filter, List.mem_range] at hs
        by_cases z : m.tail s = ([], 0)
        · exact z
        · exact absurd ⟨by omega, decide_eq_true z⟩ hs
      refine k _ _ s1 ⟨p2, .ref p1, rfl, by rw [e]; exact upd_same, p1, [], rfl, fun z => hF p1 z hp1, ?_, by rw [e]; exact .nil⟩
      rw [upd_ne (ne_of_none upd_same hp2)]; exact upd_same
def spObjects (CM : Addr) : Sp := fun vs H Q _ => ∃ (v : V) (m : Mvd) (F : Addr → Prop), vs = [v] ∧ MvAt CM F H v m ∧ ∀ u H', Same H H' → PsAt (Old H) H' u m.things → Q u H'
theorem sc_MoveObjects : FnScope ["self"] ["self"] (defScope sMoveObjects) := ⟨rfl, rfl, rfl, by decide +kernel, rfl, by decide +kernel, by decide +kernel⟩
theorem ok_Objects (D : DefM K CM "objects" "Move.objects" sMoveObjects ["self"] f fd) (B : Blt mg) (TM : MCl K mg CM fMI fdMI) : FnOk P w K mg base CX0 1 f fd ["self"] (spObjects CM) := by
  refine D.fn.ok sc_MoveObjects (fun vs H Q E h => ?_) (fun cdv A outer s H vs Q E hr h => ?_)
  · obtain ⟨v, m, F, rfl, _⟩ := h; rfl
  · obtain ⟨v, m, F, rfl, ⟨a, dx, lt, d, xs, kvs, rfl, ha, hnt, hlt, px, hd, hk⟩, k⟩ := h
    refine ⟨_, (pss_one (ps_ret (pe_callTy call_list_of (by rfl) B.list PyProof.Rows.boot_list (pa_cons (pe_fld (pv 0) rfl) pa_nil)))), ?_⟩
    refine ⟨_, rfl, a, CM, dx, _, _, rfl, ha, TM.cl, TM.nTh, rfl, lt, xs, rfl, .inl (SqL.of hlt), fun l hl => ?_⟩
    have s1 := Same.new (o := .lst xs) hl
    exact k _ _ s1 ⟨l, xs, rfl, fun z => z hl, upd_same, Paired.mono (fun _ _ => PlAt.mono s1) px⟩
def spCheckPlace (CM : Addr) : Sp := fun vs H Q _ => ∃ (v u : V) (m : Mvd) (F : Addr → Prop) (p : Pl), vs = [v, u] ∧ MvAt CM F H v m ∧ PlAt H u p ∧ Pl.fit p ∧ (∀ n, p = .obj n → n < m.things.length) ∧ ∀ H', Same H H' → Q .non H'
theorem sc_MoveCheckPlace : FnScope ["self", "place"] ["self", "place"] (defScope sMoveCheckPlace) := ⟨rfl, rfl, rfl, by decide +kernel, rfl, by decide +kernel, by decide +kernel⟩
theorem ok_CheckPlace (D : DefM K CM "check_place" "Move.check_place" sMoveCheckPlace ["self", "place"] f fd) (B : Blt mg) (TM : MCl K mg CM fMI fdMI)
    {fP : Addr} {fdP : FuncData} (DIsPlace : DefF K mg "is_place" sIsPlace ["thing"] fP fdP) (GIsPlace : FnOk P w K mg base CX0 2 fP fdP ["thing"] spIsPlace) : FnOk P w K mg base CX0 3 f fd ["self", "place"] (spCheckPlace CM) := by
  refine D.fn.ok sc_MoveCheckPlace (fun vs H Q E h => ?_) (fun cdv A outer s H vs Q E hr h => ?_)
  · obtain ⟨v, u, m, F, p, rfl, _⟩ := h; rfl
  · obtain ⟨v, u, m, F, p, rfl, hv, hu, hf, hn, k⟩ := h
    refine ⟨_, (pss_one (ps_if (PW.pt (pw_or (pt_not (pt_val (pe_call GIsPlace (hr.mono (by first | decide | omega)) rfl DIsPlace.gl DIsPlace.fn.kp DIsPlace.bd .nil pass0 (pa_cons (pv 1) pa_nil)))) (pw_or1 (PW.pt (pw_and (pt_cmpR op_eq (pe_ix ix_tup (pv 1) pe_int (fun _ _ => rfl)) pe_str (nomark _)) (pw_and1 (pt_cmpR op_ge (pe_ix ix_tup (pv 1) pe_int (fun _ _ => rfl)) (pe_callB call_len_seq (by rfl) B.len PySem.boot_len (pa_cons (pe_fld (pv 0) rfl) pa_nil)) (nomark _)))))))) (pss_one ps_never) pss_nil)), ?_⟩
    obtain ⟨b, rfl, hb⟩ := id hu
    refine ⟨_, rfl, _, p, rfl, hu, hf, fun H1 s1 => ⟨_, rfl, iteF ?_⟩⟩
    obtain ⟨a, dx, lt, d, xs, kvs, rfl, ha, hnt, hlt, px, hd, hk⟩ := hv.bt (Same.bt s1)
    have hb1 := s1 _ _ hb
    cases p with
    | obj n =>
      refine ⟨_, rfl, b, _, 0, _, rfl, rfl, SqT.of hb1, rfl, rfl, _, rfl, ?_⟩
      rw [show decide (V.str "object" = V.str (Str.ofString "object")) = true from decide_eq_true rfl]
      refine iteT ⟨_, rfl, b, _, 1, _, rfl, rfl, SqT.of hb1, rfl, _, rfl, a, CM, dx, _, _, rfl, ha, TM.cl, TM.nTh, rfl, lt, xs, rfl, .inl (SqL.of hlt), _, _, rfl, rfl, _, rfl, ?_⟩
      rw [decide_eq_false (show ¬ ((xs.length : Nat) : Int) ≤ ((n : Nat) : Int) by have := hn n rfl; have := Paired.len px; omega)]
      exact iteF (k _ s1)
    | pool s c =>
      refine ⟨_, rfl, b, _, 0, _, rfl, rfl, SqT.of hb1, rfl, rfl, _, rfl, ?_⟩
      rw [show decide (V.str "pool" = V.str (Str.ofString "object")) = false from by decide +kernel]
      exact iteF (iteF (k _ s1))
def spOrigin (CM : Addr) : Sp := fun vs H Q _ => ∃ (v u : V) (m : Mvd) (F : Addr → Prop) (p : Pl), vs = [v, u] ∧ MvAt CM F H v m ∧ PlAt H u p ∧ Pl.fit p ∧ (∀ n, p = .obj n → n < m.things.length) ∧ ∀ u' H', Same H H' → PlAt H' u' (m.orig p) → Q u' H'
theorem sc_MoveOrigin : FnScope ["self", "place", "word", "size", "count", "front", "fresh"] ["self", "place"] (defScope sMoveOrigin) := ⟨rfl, rfl, rfl, by decide +kernel, rfl, by decide +kernel, by decide +kernel⟩
theorem ok_Origin (D : DefM K CM "origin" "Move.origin" sMoveOrigin ["self", "place"] f fd) (B : Blt mg) (TM : MCl K mg CM fMI fdMI)
    {fC fT : Addr} {fdC fdT : FuncData} (DCheckPlace : DefM K CM "check_place" "Move.check_place" sMoveCheckPlace ["self", "place"] fC fdC) (GCheckPlace : FnOk P w K mg base CX0 3 fC fdC ["self", "place"] (spCheckPlace CM))
    (DTail : DefM K CM "tail" "Move.tail" sMoveTail ["self", "size"] fT fdT) (GTail : FnOk P w K mg base CX0 1 fT fdT ["self", "size"] (spTail CM)) : FnOk P w K mg base CX0 4 f fd ["self", "place"] (spOrigin CM) := by
  refine D.fn.ok sc_MoveOrigin (fun vs H Q E h => ?_) (fun cdv A outer s H vs Q E hr h => ?_)
  · obtain ⟨v, u, m, F, p, rfl, _⟩ := h; rfl
  · obtain ⟨v, u, m, F, p, rfl, hv0, hu, hf, hn, k⟩ := h
    have hv := hv0.sub (G := NoF) fun _ z => z.elim
    refine ⟨_, (pss_cons (ps_expr (pe_meth (pv 0) TM.cl DCheckPlace.mt GCheckPlace (hr.mono (by first | decide | omega)) DCheckPlace.bd .nil pass0 (pa_cons (pv 1) pa_nil))) (pss_cons (ps_if (pt_cmpR op_eq (pe_ix ix_tup (pv 1) pe_int (fun _ _ => rfl)) pe_str (nomark _)) (pss_one (ps_ret (pe_ix ix_list (pe_fld (pv 0) rfl) (pe_ix ix_tup (pv 1) pe_int (fun _ _ => rfl)) (fun _ _ => rfl)))) pss_nil) (pss_cons (ps_asg (pv 1) (pg_tup rfl (pgs_cons (pg_name (i := 2) sc_MoveOrigin.nd rfl (.inl rfl)) (pgs_cons (pg_name (i := 3) sc_MoveOrigin.nd rfl (.inl rfl)) (pgs_cons (pg_name (i := 4) sc_MoveOrigin.nd rfl (.inl rfl)) pgs_nil))))) (pss_cons (ps_asg (pe_meth (pv 0) TM.cl DTail.mt GTail (hr.mono (by first | decide | omega)) DTail.bd .nil pass0 (pa_cons (pv 3) pa_nil)) (pg_tup rfl (pgs_cons (pg_name (i := 5) sc_MoveOrigin.nd rfl (.inl rfl)) (pgs_cons (pg_name (i := 6) sc_MoveOrigin.nd rfl (.inl rfl)) pgs_nil)))) (pss_one (ps_ret (pe_ifExp (pt_cmpR op_lt (pv 4) (pe_callB call_len_seq (by rfl) B.len PySem.boot_len (pa_cons (pv 5) pa_nil)) (nomark _)) (pe_ix ix_list (pv 5) (pv 4) (fun _ _ => rfl)) (pe_tup (pa_cons pe_str (pa_cons (pv 3) (pa_cons (pe_op op_sub (pe_op op_add (pv 6) (pv 4)) (pe_callB call_len_seq (by rfl) B.len PySem.boot_len (pa_cons (pv 5) pa_nil))) pa_nil))))))))))), ?_⟩
    obtain ⟨a, dx, lt, d, xs, kvs, rfl, ha, hnt, hlt, px, hd, hk⟩ := id hv
    obtain ⟨b, rfl, hb⟩ := id hu
    refine ⟨_, rfl, a, dx, _, rfl, ha, rfl, _, rfl, _, _, m, _, p, rfl, hv, hu, hf, hn, fun H1 s1 => ?_⟩
    have hb1 := s1 _ _ hb
    have ha1 := s1 _ _ ha
    cases p with
    | obj n =>
      refine ⟨_, rfl, b, _, 0, _, rfl, rfl, SqT.of hb1, rfl, rfl, _, rfl, ?_⟩
      rw [show decide (V.str "object" = V.str (Str.ofString "object")) = true from decide_eq_true rfl]
      obtain ⟨x, hx, q⟩ := Paired.at2 px (List.getElem?_eq_getElem (hn n rfl))
      refine iteT ⟨_, rfl, a, CM, dx, _, _, rfl, ha1, TM.cl, TM.nTh, rfl, _, rfl, b, _, 1, _, rfl, rfl, SqT.of hb1, rfl, lt, xs, _, x, rfl, rfl, SqL.of (s1 _ _ hlt), atI_nat hx, ?_⟩
      refine k _ _ s1 ?_
      have e : m.orig (.obj n) = m.things[n]'(hn n rfl) := by
        show m.things.getD n (.obj 0) = _
        rw [List.getD_eq_getElem?_getD, List.getElem?_eq_getElem (hn n rfl)]; rfl
      rw [e]
      exact q.mono s1
    | pool s c =>
      refine ⟨_, rfl, b, _, 0, _, rfl, rfl, SqT.of hb1, rfl, rfl, _, rfl, ?_⟩
      rw [show decide (V.str "pool" = V.str (Str.ofString "object")) = false from by decide +kernel]
      refine iteF ⟨_, rfl, b, _, rfl, SqT.of hb1, rfl, _, _, rfl, _, _, rfl, _, _, rfl, rfl, ?_⟩
      refine ⟨_, rfl, a, dx, _, rfl, ha1, rfl, _, rfl, _, s, m, NoF, rfl, hf.2, hv.bt (Same.bt s1), fun _ z => z.elim, fun u H2 s2 ht => ?_⟩
      obtain ⟨t, uu, rfl, ht', l, ys, rfl, _, hl, py⟩ := ht
      have ly := Paired.len py
      refine ⟨t, _, rfl, SqT.of ht', rfl, _, _, rfl, _, _, rfl, rfl, ?_⟩
      refine ⟨_, rfl, _, rfl, l, _, rfl, .inl (SqL.of hl), _, _, rfl, rfl, _, rfl, ?_⟩
      have s12 := s1.trans s2
      by_cases hc : c < ys.length
      · rw [decide_eq_true (show ((c : Nat) : Int) < ((ys.length : Nat) : Int) by omega)]
        obtain ⟨y, hy, q⟩ := Paired.at_ py (List.getElem?_eq_getElem hc)
        refine iteT ⟨_, rfl, _, rfl, l, ys, _, _, rfl, rfl, SqL.of hl, atI_nat (List.getElem?_eq_getElem hc), ?_⟩
        refine k _ _ s12 ?_
        have e : m.orig (.pool s c) = y := by
          show (m.tail s).1.getD c _ = _
          rw [List.getD_eq_getElem?_getD, hy]; rfl
        rw [e]
        exact q
      · rw [decide_eq_false (show ¬ ((c : Nat) : Int) < ((ys.length : Nat) : Int) by omega)]
        refine iteF ⟨_, rfl, _, rfl, _, rfl, _, _, rfl, rfl, _, rfl, l, _, rfl, .inl (SqL.of hl), _, _, rfl, rfl, sz3, fun p1 hp1 => ?_⟩
        have s3 := Same.new (o := .tup [.str "pool", .int (s : Nat), .int (((m.tail s).2 : Nat) + ((c : Nat) : Int) - ((ys.length : Nat) : Int))]) hp1
        refine k _ _ (s12.trans s3) ⟨p1, rfl, ?_⟩
        have e : m.orig (.pool s c) = .pool s ((m.tail s).2 + c - (m.tail s).1.length) := by
          show (m.tail s).1.getD c _ = _
          rw [List.getD_eq_getElem?_getD, List.getElem?_eq_none (by omega)]; rfl
        rw [e, upd_same]
        show some (HO.tup [V.str "pool", .int (s : Nat), .int _]) = some (.tup [V.str "pool", .int (s : Nat), .int _])
        rw [show (((m.tail s).2 + c - (m.tail s).1.length : Nat) : Int) = ((m.tail s).2 : Nat) + ((c : Nat) : Int) - ((ys.length : Nat) : Int) by omega]
end
end Wd
set_option Elab.async false
set_option linter.all false
set_option maxRecDepth 100000
set_option maxHeartbeats 4000000
/-! moves as maps of places: rows, shortest fronts, worlds, what steps do -/
namespace Wd
open PySem L2 Mv
/-- the places of a pool, endless -/
def rowOf (s : Nat) (t : List Pl × Nat) (c : Nat) : Pl := t.1.getD c (.pool s (t.2 + c - t.1.length))
theorem rowOf_lt {s : Nat} {t : List Pl × Nat} {c : Nat} (h : c < t.1.length) : t.1[c]? = some (rowOf s t c) := by
  unfold rowOf
  rw [List.getD_eq_getElem?_getD, List.getElem?_eq_getElem h]; rfl
theorem rowOf_at {s : Nat} {t : List Pl × Nat} {c : Nat} {p : Pl} (h : t.1[c]? = some p) : rowOf s t c = p := by
  unfold rowOf
  rw [List.getD_eq_getElem?_getD, h]; rfl
theorem rowOf_ge {s : Nat} {t : List Pl × Nat} {c : Nat} (h : t.1.length ≤ c) : rowOf s t c = .pool s (t.2 + (c - t.1.length)) := by
  unfold rowOf
  rw [List.getD_eq_getElem?_getD, List.getElem?_eq_none h, Option.getD_none, Nat.add_sub_assoc h]
theorem rowOf_nil {s n c : Nat} : rowOf s ([], n) c = .pool s (n + c) := rowOf_ge (t := ([], n)) (Nat.zero_le _)
theorem orig_pool {m : Mvd} {s c : Nat} : m.orig (.pool s c) = rowOf s (m.tail s) c := rfl
/-- no front's last place follows the rule -/
def Least (s : Nat) (t : List Pl × Nat) : Prop := ∀ k d, t.1.length = k + 1 → t.1[k]? = some (.pool s d) → t.2 ≠ d + 1
theorem shortF_spec (s : Nat) (ps : List Pl) : ∀ c n, c ≤ ps.length → (shortF s ps c n).1 ≤ c ∧ (∀ k, (shortF s ps c n).1 ≤ k → k < c → ps[k]? = some (.pool s ((shortF s ps c n).2 + (k - (shortF s ps c n).1)))) ∧
    n + (shortF s ps c n).1 = (shortF s ps c n).2 + c ∧ ∀ k d, (shortF s ps c n).1 = k + 1 → ps[k]? = some (.pool s d) → (shortF s ps c n).2 ≠ d + 1
  | 0, n, _ => ⟨Nat.le_refl _, fun k _ h => absurd h (Nat.not_lt_zero _), rfl, fun k d h => nomatch h⟩
  | c + 1, n, h => by
    have stop : ∀ (r : Nat × Nat), r = (c + 1, n) → (∀ d, ps[c]? = some (.pool s d) → n ≠ d + 1) → r.1 ≤ c + 1 ∧ (∀ k, r.1 ≤ k → k < c + 1 → ps[k]? = some (.pool s (r.2 + (k - r.1)))) ∧ n + r.1 = r.2 + (c + 1) ∧ ∀ k d, r.1 = k + 1 → ps[k]? = some (.pool s d) → r.2 ≠ d + 1 := by
      rintro _ rfl z
      refine ⟨Nat.le_refl _, fun k a b => absurd b (Nat.not_lt.mpr a), rfl, fun k d e => ?_⟩
      have : k = c := by have : c + 1 = k + 1 := e; omega
      subst this
      exact z d
    have ⟨p, hp⟩ : ∃ p, ps[c]? = some p := ⟨_, List.getElem?_eq_getElem (by omega)⟩
    have un : shortF s ps (c + 1) n = (match (generalizing := false) some p, n with
      | some (.pool t d), m + 1 => if t = s ∧ d = m then shortF s ps c m else (c + 1, m + 1)
      | _, _ => (c + 1, n)) := by rw [← hp]; rfl
    cases p with
    | obj i => exact stop _ un fun d e => by rw [hp] at e; cases e
    | pool t d =>
      cases n with
      | zero => exact stop _ un fun d e z => nomatch z
      | succ m =>
        have un : shortF s ps (c + 1) (m + 1) = if t = s ∧ d = m then shortF s ps c m else (c + 1, m + 1) := un
        by_cases hc : t = s ∧ d = m
        · rw [if_pos hc] at un
          obtain ⟨rfl, rfl⟩ := hc
          obtain ⟨a1, a2, a3, a4⟩ := shortF_spec t ps c d (by omega)
          rw [un]
          refine ⟨by omega, fun k b1 b2 => ?_, by omega, a4⟩
          rcases Nat.lt_or_ge k c with q | q
          · exact a2 k b1 q
          · have : k = c := by omega
            subst this
            rw [hp]
            congr 2
            omega
        · rw [if_neg hc] at un
          exact stop _ un fun e he z => by
            rw [hp] at he
            cases he
            exact hc ⟨rfl, by omega⟩
theorem short_row {s : Nat} {f : List Pl} {n : Nat} : rowOf s (short s f n) = rowOf s (f, n) := by
  obtain ⟨a1, a2, a3, _⟩ := shortF_spec s f f.length n (Nat.le_refl _)
  funext c
  unfold short
  generalize shortF s f f.length n = r at a1 a2 a3
  have hl : (f.take r.1).length = r.1 := by rw [List.length_take]; omega
  rcases Nat.lt_or_ge c r.1 with h | h
  · refine rowOf_at ?_
    show (f.take r.1)[c]? = _
    rw [List.getElem?_take_of_lt h]
    exact rowOf_lt (t := (f, n)) (by show c < f.length; omega)
  · rw [rowOf_ge (by show (f.take r.1).length ≤ c; omega)]
    show Pl.pool s (r.2 + (c - (f.take r.1).length)) = _
    rw [hl]
    rcases Nat.lt_or_ge c f.length with g | g
    · exact (rowOf_at (t := (f, n)) (a2 c h g)).symm
    · rw [rowOf_ge (show (f, n).1.length ≤ c from g)]
      congr 1
      show r.2 + (c - r.1) = n + (c - f.length)
      omega
theorem short_least {s : Nat} {f : List Pl} {n : Nat} : Least s (short s f n) := by
  obtain ⟨a1, a2, a3, a4⟩ := shortF_spec s f f.length n (Nat.le_refl _)
  intro k d h1 h2
  unfold short at h1 h2 ⊢
  generalize shortF s f f.length n = r at a1 a4 h1 h2 ⊢
  have h1 : (f.take r.1).length = k + 1 := h1
  have h2 : (f.take r.1)[k]? = some (Pl.pool s d) := h2
  rw [List.length_take] at h1
  rw [List.getElem?_take_of_lt (by omega)] at h2
  exact a4 k d (by omega) h2
theorem short_len {s : Nat} {f : List Pl} {n : Nat} : (short s f n).1.length ≤ f.length := by
  unfold short
  show (f.take _).length ≤ _
  rw [List.length_take]; omega
theorem least_one {s : Nat} {t u : List Pl × Nat} (ht : Least s t) (e : rowOf s t = rowOf s u) : u.1.length ≤ t.1.length → t.1.length ≤ u.1.length := fun h => by
  rcases Nat.lt_or_ge u.1.length t.1.length with g | g
  · obtain ⟨k, hk⟩ : ∃ k, t.1.length = k + 1 := ⟨t.1.length - 1, by omega⟩
    have e1 := congrFun e k
    have e2 := congrFun e (k + 1)
    rw [rowOf_ge (t := u) (by omega)] at e1 e2
    rw [rowOf_ge (t := t) (by omega)] at e2
    have e2 := (Pl.pool.inj e2).2
    refine absurd ?_ (ht k _ hk ((rowOf_lt (s := s) (t := t) (by omega)).trans (congrArg some e1)))
    omega
  · exact g
theorem least_unique {s : Nat} {t u : List Pl × Nat} (ht : Least s t) (hu : Least s u) (e : rowOf s t = rowOf s u) : t = u := by
  have hl : t.1.length = u.1.length := by
    rcases Nat.le_total u.1.length t.1.length with h | h
    · exact Nat.le_antisymm (least_one ht e h) h
    · exact Nat.le_antisymm h (least_one hu e.symm h)
  have h1 : t.1 = u.1 := by
    refine List.ext_getElem? fun i => ?_
    rcases Nat.lt_or_ge i t.1.length with g | g
    · rw [rowOf_lt (s := s) (t := t) g, rowOf_lt (s := s) (t := u) (by omega), e]
    · rw [List.getElem?_eq_none g, List.getElem?_eq_none (by omega)]
  have h2 := congrFun e t.1.length
  rw [rowOf_ge (Nat.le_refl _), rowOf_ge (by omega)] at h2
  have h2 := (Pl.pool.inj h2).2
  exact Prod.ext h1 (by omega)
theorem short_nil {s : Nat} : short s [] 0 = ([], 0) := rfl
theorem least_nil {s n : Nat} : Least s ([], n) := fun k d h => nomatch h
/-- the shortest form is told by the row -/
theorem short_of_row {s : Nat} {t u : List Pl × Nat} (e : rowOf s t = rowOf s u) : short s t.1 t.2 = short s u.1 u.2 := least_unique short_least short_least (by rw [short_row, short_row]; exact e)
theorem short_least_eq {s : Nat} {t : List Pl × Nat} (h : Least s t) : short s t.1 t.2 = t := least_unique short_least h short_row
/-! ### places that stand -/
def Dm (n : Nat) (p : Pl) : Prop := ∀ i, p = .obj i → i < n
def szOf (z : List Nat) : Pl → Nat
  | .obj i => z.getD i 0
  | .pool s _ => s
/-- a map of places, unlike places from unlike ones, of the same size -/
structure MGood (z0 z1 : List Nat) (f : Pl → Pl) : Prop where
  inj : ∀ p q, Dm z1.length p → Dm z1.length q → f p = f q → p = q
  to : ∀ p, Dm z1.length p → Dm z0.length (f p)
  sz : ∀ p, Dm z1.length p → szOf z0 (f p) = szOf z1 p
theorem MGood.id {z : List Nat} : MGood z z fun p => p := ⟨fun _ _ _ _ e => e, fun _ h => h, fun _ _ => rfl⟩
theorem MGood.comp {z0 z1 z2 : List Nat} {f g : Pl → Pl} (hf : MGood z0 z1 f) (hg : MGood z1 z2 g) : MGood z0 z2 fun p => f (g p) :=
  ⟨fun p q a b e => hg.inj p q a b (hf.inj _ _ (hg.to p a) (hg.to q b) e), fun p a => hf.to _ (hg.to p a), fun p a => (hf.sz _ (hg.to p a)).trans (hg.sz p a)⟩
theorem MGood.congr {z0 z1 : List Nat} {f g : Pl → Pl} (hf : MGood z0 z1 f) (e : ∀ p, Dm z1.length p → g p = f p) : MGood z0 z1 g :=
  ⟨fun p q a b h => hf.inj p q a b (by rw [← e p a, ← e q b]; exact h), fun p a => by rw [e p a]; exact hf.to p a, fun p a => by rw [e p a]; exact hf.sz p a⟩
theorem dm_obj {n i : Nat} : Dm n (.obj i) ↔ i < n := ⟨fun h => h i rfl, fun h j e => by cases e; exact h⟩
theorem dm_pool {n s c : Nat} : Dm n (.pool s c) := fun _ e => nomatch e
/-- what two moves one behind the other tell -/
def thenM (one two : Mvd) : Mvd where
  things := two.things.map one.orig
  tail s := short s ((two.tail s).1.map one.orig ++ (one.tail s).1.drop (two.tail s).2) ((one.tail s).2 + ((two.tail s).2 - (one.tail s).1.length))
theorem then_row {one two : Mvd} {s : Nat} : rowOf s ((two.tail s).1.map one.orig ++ (one.tail s).1.drop (two.tail s).2, (one.tail s).2 + ((two.tail s).2 - (one.tail s).1.length)) = fun c => one.orig (two.orig (.pool s c)) := by
  funext c
  rw [orig_pool]
  generalize hm : one.tail s = a
  obtain ⟨mine, behind⟩ := a
  rcases Nat.lt_or_ge c (two.tail s).1.length with h | h
  · refine rowOf_at ?_
    show (_ ++ _)[c]? = _
    rw [List.getElem?_append_left (by rw [List.length_map]; exact h), List.getElem?_map, rowOf_lt (s := s) h]; rfl
  · rw [rowOf_ge (t := two.tail s) h, orig_pool]
    generalize two.tail s = b at h ⊢
    obtain ⟨front, fresh⟩ := b
    have h : front.length ≤ c := h
    have hl : (front.map one.orig ++ mine.drop fresh).length = front.length + (mine.length - fresh) := by rw [List.length_append, List.length_map, List.length_drop]
    show rowOf s (front.map one.orig ++ mine.drop fresh, behind + (fresh - mine.length)) c = rowOf s (one.tail s) (fresh + (c - front.length))
    rw [hm]
    rcases Nat.lt_or_ge (fresh + (c - front.length)) mine.length with g | g
    · refine rowOf_at ?_
      show (_ ++ _)[c]? = _
      rw [List.getElem?_append_right (by rw [List.length_map]; exact h), List.length_map, List.getElem?_drop]
      exact rowOf_lt (s := s) (t := (mine, behind)) g
    · rw [rowOf_ge (t := (mine, behind)) g, rowOf_ge (by show (front.map one.orig ++ mine.drop fresh).length ≤ c; rw [hl]; omega)]
      show Pl.pool s (behind + (fresh - mine.length) + (c - (front.map one.orig ++ mine.drop fresh).length)) = _
      rw [hl]
      congr 1
      show behind + (fresh - mine.length) + (c - (front.length + (mine.length - fresh))) = behind + (fresh + (c - front.length) - mine.length)
      omega
end Wd
set_option Elab.async false
set_option linter.all false
set_option maxRecDepth 100000
set_option maxHeartbeats 4000000
/-! worlds of objects and pools, steps, what a row of steps does -/
namespace Wd
open PySem L2 Mv
theorem orig_obj {m : Mvd} {i : Nat} {p : Pl} (h : m.things[i]? = some p) : m.orig (.obj i) = p := by
  show m.things.getD i _ = p
  rw [List.getD_eq_getElem?_getD, h]; rfl
/-! ### what a Move asks of its arguments -/
def known (m : Mvd) (ks : List Nat) : List Pl := m.things ++ ks.flatMap fun s => (m.tail s).1
def posOf (m : Mvd) (ks : List Nat) : List Pl := (List.range m.things.length).map Pl.obj ++ ks.flatMap fun s => (List.range (m.tail s).1.length).map (Pl.pool s)
theorem map_getD {A : Type} (l : List A) (f : Nat → A) (h : ∀ i x, l[i]? = some x → f i = x) : l = (List.range l.length).map f := by
  refine List.ext_getElem? fun i => ?_
  rw [List.getElem?_map]
  rcases Nat.lt_or_ge i l.length with g | g
  · rw [List.getElem?_range g, List.getElem?_eq_getElem g]
    exact congrArg some (h i _ (List.getElem?_eq_getElem g)).symm
  · rw [List.getElem?_eq_none g, List.getElem?_eq_none (by rw [List.length_range]; exact g)]; rfl
theorem flat_pos (m : Mvd) : ∀ ks : List Nat, (ks.flatMap fun s => (m.tail s).1) = (ks.flatMap fun s => (List.range (m.tail s).1.length).map (Pl.pool s)).map m.orig
  | [] => rfl
  | s :: ks => by
    rw [List.flatMap_cons, List.flatMap_cons, List.map_append, flat_pos m ks, List.map_map]
    congr 1
    exact map_getD _ _ fun i x h => by show m.orig (.pool s i) = x; rw [orig_pool]; exact rowOf_at h
theorem known_pos (m : Mvd) (ks : List Nat) : known m ks = (posOf m ks).map m.orig := by
  unfold known posOf
  rw [List.map_append, ← flat_pos, List.map_map]
  congr 1
  exact map_getD _ _ fun i x h => orig_obj h
theorem flat_nodup (m : Mvd) : ∀ {ks : List Nat}, ks.Nodup → (ks.flatMap fun s => (List.range (m.tail s).1.length).map (Pl.pool s)).Nodup
  | [], _ => List.nodup_nil
  | s :: ks, nd => by
    rw [List.flatMap_cons]
    rw [List.nodup_cons] at nd
    refine List.nodup_append.mpr ⟨?_, flat_nodup m nd.2, fun a ha b hb => ?_⟩
    · exact List.pairwise_map.mpr (List.nodup_range.imp fun h e => h (Pl.pool.inj e).2)
    · obtain ⟨i, _, rfl⟩ := List.mem_map.mp ha
      obtain ⟨t, ht, hb⟩ := List.mem_flatMap.mp hb
      obtain ⟨j, _, rfl⟩ := List.mem_map.mp hb
      exact fun e => nd.1 (by rw [(Pl.pool.inj e).1]; exact ht)
theorem pos_nodup (m : Mvd) {ks : List Nat} (nd : ks.Nodup) : (posOf m ks).Nodup := by
  unfold posOf
  refine List.nodup_append.mpr ⟨List.pairwise_map.mpr (List.nodup_range.imp fun h e => h (Pl.obj.inj e)), flat_nodup m nd, fun a ha b hb => ?_⟩
  obtain ⟨i, _, rfl⟩ := List.mem_map.mp ha
  obtain ⟨t, _, hb⟩ := List.mem_flatMap.mp hb
  obtain ⟨j, _, rfl⟩ := List.mem_map.mp hb
  exact fun e => nomatch e
theorem pos_dm {m : Mvd} {ks : List Nat} {p : Pl} (h : p ∈ posOf m ks) : Dm m.things.length p := by
  unfold posOf at h
  rcases List.mem_append.mp h with h | h
  · obtain ⟨i, hi, rfl⟩ := List.mem_map.mp h
    exact dm_obj.mpr (List.mem_range.mp hi)
  · obtain ⟨t, _, hb⟩ := List.mem_flatMap.mp h
    obtain ⟨j, _, rfl⟩ := List.mem_map.mp hb
    exact dm_pool
theorem pos_pool {m : Mvd} {ks : List Nat} {s c : Nat} (h : Pl.pool s c ∈ posOf m ks) : s ∈ ks ∧ c < (m.tail s).1.length := by
  unfold posOf at h
  rcases List.mem_append.mp h with h | h
  · obtain ⟨i, hi, e⟩ := List.mem_map.mp h
    exact nomatch e
  · obtain ⟨t, ht, hb⟩ := List.mem_flatMap.mp h
    obtain ⟨j, hj, e⟩ := List.mem_map.mp hb
    cases e
    exact ⟨ht, List.mem_range.mp hj⟩
theorem known_nodup {z0 z1 : List Nat} {m : Mvd} {ks : List Nat} (g : MGood z0 z1 m.orig) (hl : z1.length = m.things.length) (nd : ks.Nodup) : (known m ks).Nodup := by
  rw [known_pos]
  exact List.pairwise_map.mpr ((pos_nodup m nd).imp_of_mem fun ha hb h e => h (g.inj _ _ (by rw [hl]; exact pos_dm ha) (by rw [hl]; exact pos_dm hb) e))
theorem known_taken {z0 z1 : List Nat} {m : Mvd} {ks : List Nat} (g : MGood z0 z1 m.orig) (hl : z1.length = m.things.length) (hn : ∀ s, s ∉ ks → m.tail s = ([], 0)) {p : Pl} (hp : p ∈ known m ks) : Taken ks m.tail p := by
  rw [known_pos] at hp
  obtain ⟨q, hq, rfl⟩ := List.mem_map.mp hp
  have key : ∀ t c, m.orig q = .pool t c → c < (m.tail t).2 := fun t c e => by
    rcases Nat.lt_or_ge c (m.tail t).2 with h | h
    · exact h
    · have e2 : m.orig (.pool t (c - (m.tail t).2 + (m.tail t).1.length)) = .pool t c := by
        rw [orig_pool, rowOf_ge (by omega)]
        congr 1
        omega
      have := g.inj _ _ (by rw [hl]; exact pos_dm hq) dm_pool (e.trans e2.symm)
      subst this
      have := (pos_pool hq).2
      omega
  cases e : m.orig q with
  | obj i => exact trivial
  | pool t c =>
    have h := key t c e
    refine ⟨?_, h⟩
    by_cases ht : t ∈ ks
    · exact ht
    · rw [hn t ht] at h
      exact absurd h (Nat.not_lt_zero _)
theorem known_fit {z0 z1 : List Nat} {m : Mvd} {ks : List Nat} (g : MGood z0 z1 m.orig) (hl : z1.length = m.things.length) (hz : ∀ s ∈ z1, 1 ≤ s ∧ s ≤ 8) (hk : ∀ s ∈ ks, 1 ≤ s ∧ s ≤ 8) {p : Pl} (hp : p ∈ known m ks) : Pl.fit p := by
  rw [known_pos] at hp
  obtain ⟨q, hq, rfl⟩ := List.mem_map.mp hp
  have e := g.sz q (by rw [hl]; exact pos_dm hq)
  cases e2 : m.orig q with
  | obj i => exact trivial
  | pool t c =>
    rw [e2] at e
    have e : t = szOf z1 q := e
    show 1 ≤ t ∧ t ≤ 8
    rw [e]
    cases q with
    | obj i =>
      have hi : i < z1.length := by rw [hl]; exact dm_obj.mp (pos_dm hq)
      show 1 ≤ z1.getD i 0 ∧ z1.getD i 0 ≤ 8
      rw [List.getD_eq_getElem?_getD, List.getElem?_eq_getElem hi]
      exact hz _ (List.getElem_mem hi)
    | pool u d => exact hk u (pos_pool hq).1
theorem front_own {z0 z1 : List Nat} {m : Mvd} (g : MGood z0 z1 m.orig) {s : Nat} {p : Pl} (hp : p ∈ (m.tail s).1) : Pl.inPool s p := by
  obtain ⟨c, hc⟩ := List.getElem?_of_mem hp
  have e : m.orig (.pool s c) = p := by rw [orig_pool]; exact rowOf_at hc
  have e2 := g.sz (.pool s c) dm_pool
  rw [e] at e2
  cases p with
  | obj i => exact trivial
  | pool t d => exact e2
/-! ### equal moves -/
def Can (m : Mvd) : Prop := ∀ s, Least s (m.tail s)
theorem mvd_ext {m m' : Mvd} (h : Can m) (h' : Can m') (hl : m.things.length = m'.things.length) (e : ∀ p, Dm m.things.length p → m.orig p = m'.orig p) : m = m' := by
  have e1 : m.things = m'.things := by
    refine List.ext_getElem? fun i => ?_
    rcases Nat.lt_or_ge i m.things.length with g | g
    · have q := e (.obj i) (dm_obj.mpr g)
      rw [orig_obj (List.getElem?_eq_getElem g), orig_obj (List.getElem?_eq_getElem (show i < m'.things.length by omega))] at q
      rw [List.getElem?_eq_getElem g, List.getElem?_eq_getElem (show i < m'.things.length by omega), q]
    · rw [List.getElem?_eq_none g, List.getElem?_eq_none (by omega)]
  have e2 : m.tail = m'.tail := by
    funext s
    refine least_unique (h s) (h' s) ?_
    funext c
    exact e (.pool s c) dm_pool
  obtain ⟨a, b⟩ := m
  obtain ⟨a', b'⟩ := m'
  cases e1; cases e2; rfl
theorem thenM_can {one two : Mvd} : Can (thenM one two) := fun s => short_least
theorem thenM_orig {one two : Mvd} {p : Pl} (h : Dm two.things.length p) : (thenM one two).orig p = one.orig (two.orig p) := by
  cases p with
  | obj i =>
    have hi := dm_obj.mp h
    rw [orig_obj (m := two) (List.getElem?_eq_getElem hi)]
    refine orig_obj ?_
    show (two.things.map one.orig)[i]? = _
    rw [List.getElem?_map, List.getElem?_eq_getElem hi]; rfl
  | pool s c =>
    show rowOf s (short s _ _) c = _
    rw [short_row, then_row]
/-- the arguments of the move that then makes -/
def thenA (one two : Mvd) : Mvd where
  things := two.things.map one.orig
  tail s := ((two.tail s).1.map one.orig ++ (one.tail s).1.drop (two.tail s).2, (one.tail s).2 + ((two.tail s).2 - (one.tail s).1.length))
def Mvd.canon (m : Mvd) : Mvd := ⟨m.things, fun s => short s (m.tail s).1 (m.tail s).2⟩
theorem thenM_eq {one two : Mvd} : thenM one two = (thenA one two).canon := rfl
theorem canon_can {m : Mvd} : Can m.canon := fun s => short_least
theorem canon_orig {m : Mvd} {p : Pl} : m.canon.orig p = m.orig p := by
  cases p with
  | obj i => rfl
  | pool s c => show rowOf s (short s _ _) c = _; rw [short_row]; rfl
theorem thenA_orig {one two : Mvd} {p : Pl} (h : Dm two.things.length p) : (thenA one two).orig p = one.orig (two.orig p) := by rw [← canon_orig, ← thenM_eq]; exact thenM_orig h
/-! ### worlds -/
structure Wo where
  objs : List (Pl × Nat)
  pl : Nat → List Pl × Nat
def Wo.m (W : Wo) : Mvd := ⟨W.objs.map Prod.fst, W.pl⟩
def Wo.z (W : Wo) : List Nat := W.objs.map Prod.snd
def Wo.f (W : Wo) : Pl → Pl := W.m.orig
inductive Stp where
  | make (s : Nat)
  | free (i : Nat)
  | leave (i : Nat)
def Stp.ok (z : List Nat) : Stp → Prop
  | .make s => s = 1 ∨ s = 2 ∨ s = 8
  | .free i => i < z.length
  | .leave i => i < z.length
def zst (z : List Nat) : Stp → List Nat
  | .make s => z ++ [s]
  | .free i => z.eraseIdx i
  | .leave i => z.eraseIdx i
def dropT : List Pl × Nat → List Pl × Nat
  | ([], n) => ([], n + 1)
  | (_ :: f, n) => (f, n)
def Wo.step (W : Wo) : Stp → Wo
  | .make s => ⟨W.objs ++ [(rowOf s (W.pl s) 0, s)], fun t => if t = s then dropT (W.pl s) else W.pl t⟩
  | .free i => match W.objs[i]? with
    | none => W
    | some (p, s) => ⟨W.objs.eraseIdx i, fun t => if t = s then (p :: (W.pl s).1, (W.pl s).2) else W.pl t⟩
  | .leave i => ⟨W.objs.eraseIdx i, W.pl⟩
def Wo.play (W : Wo) (sts : List Stp) : Wo := sts.foldl Wo.step W
def tau (z : List Nat) : Stp → Pl → Pl
  | .make s, .obj n => if n < z.length then .obj n else .pool s 0
  | .make s, .pool t c => if t = s then .pool s (c + 1) else .pool t c
  | .free i, .obj n => if n < i then .obj n else .obj (n + 1)
  | .free i, .pool t c => if t = z.getD i 0 then (if c = 0 then .obj i else .pool t (c - 1)) else .pool t c
  | .leave i, .obj n => if n < i then .obj n else .obj (n + 1)
  | .leave _, .pool t c => .pool t c
theorem drop_row {s : Nat} {t : List Pl × Nat} {c : Nat} : rowOf s (dropT t) c = rowOf s t (c + 1) := by
  obtain ⟨f, n⟩ := t
  cases f with
  | nil =>
    show rowOf s ([], n + 1) c = _
    rw [rowOf_nil, rowOf_nil]; congr 1; omega
  | cons p f =>
    show rowOf s (f, n) c = rowOf s (p :: f, n) (c + 1)
    rcases Nat.lt_or_ge c f.length with h | h
    · exact (rowOf_at (t := (p :: f, n)) (by show (p :: f)[c + 1]? = _; rw [List.getElem?_cons_succ]; exact rowOf_lt (t := (f, n)) h)).symm
    · rw [rowOf_ge (t := (f, n)) h, rowOf_ge (t := (p :: f, n)) (by show (p :: f).length ≤ _; rw [List.length_cons]; omega)]
      show Pl.pool s (n + (c - f.length)) = Pl.pool s (n + (c + 1 - (p :: f).length))
      rw [List.length_cons]; congr 1; omega
theorem push_row {s n : Nat} {p : Pl} {f : List Pl} {c : Nat} : rowOf s (p :: f, n) c = if c = 0 then p else rowOf s (f, n) (c - 1) := by
  cases c with
  | zero => rfl
  | succ c => rw [if_neg (by omega), ← drop_row]; rfl
theorem wo_obj {W : Wo} {i : Nat} {p : Pl} {s : Nat} (h : W.objs[i]? = some (p, s)) : W.f (.obj i) = p := orig_obj (by show (W.objs.map Prod.fst)[i]? = _; rw [List.getElem?_map, h]; rfl)
theorem wo_len {W : Wo} : W.z.length = W.objs.length := List.length_map _
theorem erase_obj {W : Wo} {i n : Nat} {pl : Nat → List Pl × Nat} (hi : i < W.objs.length) (hn : n < W.objs.length - 1) : (Wo.f ⟨W.objs.eraseIdx i, pl⟩) (.obj n) = W.f (if n < i then .obj n else .obj (n + 1)) := by
  by_cases h : n < i
  · rw [if_pos h]
    have e := List.getElem?_eq_getElem (show n < W.objs.length by omega)
    rw [wo_obj (W := W) (p := (W.objs[n]).1) (s := (W.objs[n]).2) e]
    refine wo_obj (s := (W.objs[n]).2) ?_
    show (W.objs.eraseIdx i)[n]? = _
    rw [List.getElem?_eraseIdx_of_lt h, e]
  · rw [if_neg h]
    have e := List.getElem?_eq_getElem (show n + 1 < W.objs.length by omega)
    rw [wo_obj (W := W) (p := (W.objs[n + 1]).1) (s := (W.objs[n + 1]).2) e]
    refine wo_obj (s := (W.objs[n + 1]).2) ?_
    show (W.objs.eraseIdx i)[n]? = _
    rw [List.getElem?_eraseIdx_of_ge (by omega), e]
theorem step_free {W : Wo} {i : Nat} {p : Pl} {s : Nat} (h : W.objs[i]? = some (p, s)) : W.step (.free i) = ⟨W.objs.eraseIdx i, fun t => if t = s then (p :: (W.pl s).1, (W.pl s).2) else W.pl t⟩ := by
  show (match W.objs[i]? with
    | none => W
    | some (p, s) => (⟨W.objs.eraseIdx i, fun t => if t = s then (p :: (W.pl s).1, (W.pl s).2) else W.pl t⟩ : Wo)) = _
  rw [h]
theorem map_erase {A B : Type} (f : A → B) : ∀ (l : List A) (i : Nat), (l.eraseIdx i).map f = (l.map f).eraseIdx i
  | [], _ => rfl
  | _ :: _, 0 => rfl
  | a :: l, i + 1 => by
    show f a :: (l.eraseIdx i).map f = f a :: (l.map f).eraseIdx i
    rw [map_erase f l i]
theorem step_z {W : Wo} {st : Stp} (h : st.ok W.z) : (W.step st).z = zst W.z st := by
  cases st with
  | make s => show (W.objs ++ [_]).map Prod.snd = _; rw [List.map_append]; rfl
  | free i =>
    have hi : i < W.objs.length := by rw [← wo_len]; exact h
    rw [step_free (p := (W.objs[i]).1) (s := (W.objs[i]).2) (List.getElem?_eq_getElem hi)]
    exact map_erase _ _ _
  | leave i =>
    exact map_erase _ _ _
theorem step_f {W : Wo} {st : Stp} (h : st.ok W.z) {p : Pl} (hp : Dm (zst W.z st).length p) : (W.step st).f p = W.f (tau W.z st p) := by
  cases st with
  | make s =>
    cases p with
    | obj n =>
      have hn : n < W.objs.length + 1 := by have := dm_obj.mp hp; unfold zst at this; rw [List.length_append, wo_len] at this; exact this
      show _ = W.f (if n < W.z.length then .obj n else .pool s 0)
      rw [wo_len]
      by_cases g : n < W.objs.length
      · rw [if_pos g]
        have e := List.getElem?_eq_getElem g
        rw [wo_obj (W := W) (p := (W.objs[n]).1) (s := (W.objs[n]).2) e]
        exact wo_obj (W := W.step (.make s)) (s := (W.objs[n]).2) (by show (W.objs ++ [_])[n]? = _; rw [List.getElem?_append_left g]; exact e)
      · rw [if_neg g]
        have : n = W.objs.length := by omega
        subst this
        exact wo_obj (W := W.step (.make s)) (s := s) (by show (W.objs ++ [_])[_]? = _; rw [List.getElem?_append_right (Nat.le_refl _), Nat.sub_self]; rfl)
    | pool t c =>
      show rowOf t (if t = s then dropT (W.pl s) else W.pl t) c = W.f (if t = s then .pool s (c + 1) else .pool t c)
      by_cases g : t = s
      · subst g
        rw [if_pos rfl, if_pos rfl, drop_row]; rfl
      · rw [if_neg g, if_neg g]; rfl
  | free i =>
    have hi : i < W.objs.length := by rw [← wo_len]; exact h
    have hl : (W.z.eraseIdx i).length = W.objs.length - 1 := by rw [List.length_eraseIdx, if_pos (by rw [wo_len]; exact hi), wo_len]
    rw [step_free (p := (W.objs[i]).1) (s := (W.objs[i]).2) (List.getElem?_eq_getElem hi)]
    cases p with
    | obj n =>
      have hn : n < W.objs.length - 1 := by have := dm_obj.mp hp; unfold zst at this; rw [hl] at this; exact this
      exact erase_obj hi hn
    | pool t c =>
      have ez : W.z.getD i 0 = (W.objs[i]).2 := by rw [List.getD_eq_getElem?_getD]; unfold Wo.z; rw [List.getElem?_map, List.getElem?_eq_getElem hi]; rfl
      show rowOf t (if t = (W.objs[i]).2 then _ else W.pl t) c = W.f (if t = W.z.getD i 0 then _ else _)
      rw [ez]
      by_cases g : t = (W.objs[i]).2
      · rw [if_pos g, if_pos g, push_row]
        by_cases c0 : c = 0
        · rw [if_pos c0, if_pos c0]
          exact (wo_obj (W := W) (s := (W.objs[i]).2) (List.getElem?_eq_getElem hi)).symm
        · rw [if_neg c0, if_neg c0, ← g]; rfl
      · rw [if_neg g, if_neg g]; rfl
  | leave i =>
    have hi : i < W.objs.length := by rw [← wo_len]; exact h
    cases p with
    | obj n =>
      have hl : (W.z.eraseIdx i).length = W.objs.length - 1 := by rw [List.length_eraseIdx, if_pos (by rw [wo_len]; exact hi), wo_len]
      have hn : n < W.objs.length - 1 := by have := dm_obj.mp hp; unfold zst at this; rw [hl] at this; exact this
      exact erase_obj hi hn
    | pool t c => rfl
theorem erase_dm {z : List Nat} {i n : Nat} (hi : i < z.length) (h : n < (z.eraseIdx i).length) : n < z.length - 1 := by rwa [List.length_eraseIdx, if_pos hi] at h
theorem erase_get {z : List Nat} {i n : Nat} : (z.eraseIdx i).getD n 0 = z.getD (if n < i then n else n + 1) 0 := by
  rw [List.getD_eq_getElem?_getD, List.getD_eq_getElem?_getD]
  by_cases h : n < i
  · rw [if_pos h, List.getElem?_eraseIdx_of_lt h]
  · rw [if_neg h, List.getElem?_eraseIdx_of_ge (by omega)]
theorem tau_good {z : List Nat} {st : Stp} (h : st.ok z) : MGood z (zst z st) (tau z st) := by
  cases st with
  | make s =>
    have hl : (zst z (.make s)).length = z.length + 1 := by show (z ++ [s]).length = _; rw [List.length_append]; rfl
    refine ⟨fun p q a b e => ?_, fun p a => ?_, fun p a => ?_⟩
    · rw [hl] at a b
      cases p with
      | obj n =>
        have a := dm_obj.mp a
        cases q with
        | obj n' =>
          have b := dm_obj.mp b
          have e : (if n < z.length then Pl.obj n else .pool s 0) = if n' < z.length then Pl.obj n' else .pool s 0 := e
          split at e <;> split at e <;> first | exact e | (cases e; done) | (exact congrArg Pl.obj (by omega))
        | pool t c =>
          have e : (if n < z.length then Pl.obj n else .pool s 0) = if t = s then Pl.pool s (c + 1) else .pool t c := e
          split at e <;> split at e <;> first | (cases e; done) | (rename_i g1 g2; cases e; exact absurd rfl g2)
      | pool t c =>
        cases q with
        | obj n' =>
          have b := dm_obj.mp b
          have e : (if t = s then Pl.pool s (c + 1) else .pool t c) = if n' < z.length then Pl.obj n' else .pool s 0 := e
          split at e <;> split at e <;> first | (cases e; done) | (rename_i g1 g2; cases e; exact absurd rfl g1)
        | pool t' c' =>
          have e : (if t = s then Pl.pool s (c + 1) else .pool t c) = if t' = s then Pl.pool s (c' + 1) else .pool t' c' := e
          split at e <;> split at e
          · rename_i g1 g2; cases e; rw [g1, g2]
          · rename_i g1 g2; cases e; exact absurd rfl g2
          · rename_i g1 g2; cases e; exact absurd rfl g1
          · exact e
    · rw [hl] at a
      cases p with
      | obj n =>
        show Dm z.length (if n < z.length then Pl.obj n else .pool s 0)
        split
        · rename_i g; exact dm_obj.mpr g
        · exact dm_pool
      | pool t c =>
        show Dm z.length (if t = s then Pl.pool s (c + 1) else .pool t c)
        split <;> exact dm_pool
    · rw [hl] at a
      cases p with
      | obj n =>
        have a := dm_obj.mp a
        show szOf z (if n < z.length then Pl.obj n else .pool s 0) = (z ++ [s]).getD n 0
        rw [List.getD_eq_getElem?_getD]
        split
        · rename_i g; rw [List.getElem?_append_left g]; show z.getD n 0 = _; rw [List.getD_eq_getElem?_getD]
        · rename_i g
          have : n = z.length := by omega
          subst this
          rw [List.getElem?_append_right (Nat.le_refl _), Nat.sub_self]; rfl
      | pool t c =>
        show szOf z (if t = s then Pl.pool s (c + 1) else .pool t c) = t
        split
        · rename_i g; exact g.symm
        · rfl
  | free i =>
    have hi : i < z.length := h
    refine ⟨fun p q a b e => ?_, fun p a => ?_, fun p a => ?_⟩
    · cases p with
      | obj n =>
        have a := erase_dm hi (dm_obj.mp a)
        cases q with
        | obj n' =>
          have b := erase_dm hi (dm_obj.mp b)
          have e : (if n < i then Pl.obj n else .obj (n + 1)) = if n' < i then Pl.obj n' else .obj (n' + 1) := e
          split at e <;> split at e <;> (have e := Pl.obj.inj e; exact congrArg Pl.obj (by omega))
        | pool t c =>
          have e : (if n < i then Pl.obj n else .obj (n + 1)) = if t = z.getD i 0 then (if c = 0 then Pl.obj i else .pool t (c - 1)) else .pool t c := e
          split at e <;> split at e <;> first | (cases e; done) | (split at e <;> first | (cases e; done) | (have e := Pl.obj.inj e; omega))
      | pool t c =>
        cases q with
        | obj n' =>
          have e : (if t = z.getD i 0 then (if c = 0 then Pl.obj i else .pool t (c - 1)) else .pool t c) = if n' < i then Pl.obj n' else .obj (n' + 1) := e
          split at e
          · split at e
            · split at e <;> (have e := Pl.obj.inj e; omega)
            · split at e <;> exact nomatch e
          · split at e <;> exact nomatch e
        | pool t' c' =>
          have e : (if t = z.getD i 0 then (if c = 0 then Pl.obj i else .pool t (c - 1)) else .pool t c) = if t' = z.getD i 0 then (if c' = 0 then Pl.obj i else .pool t' (c' - 1)) else .pool t' c' := e
          by_cases g1 : t = z.getD i 0
          · by_cases g2 : t' = z.getD i 0
            · rw [if_pos g1, if_pos g2] at e
              by_cases c1 : c = 0
              · by_cases c2 : c' = 0
                · rw [g1, g2, c1, c2]
                · rw [if_pos c1, if_neg c2] at e; exact nomatch e
              · by_cases c2 : c' = 0
                · rw [if_neg c1, if_pos c2] at e; exact nomatch e
                · rw [if_neg c1, if_neg c2] at e
                  have e := (Pl.pool.inj e).2
                  rw [g1, g2]; congr 1; omega
            · rw [if_pos g1, if_neg g2] at e
              by_cases c1 : c = 0
              · rw [if_pos c1] at e; exact nomatch e
              · rw [if_neg c1] at e; exact absurd ((Pl.pool.inj e).1.symm.trans g1) g2
          · by_cases g2 : t' = z.getD i 0
            · rw [if_neg g1, if_pos g2] at e
              by_cases c1 : c' = 0
              · rw [if_pos c1] at e; exact nomatch e
              · rw [if_neg c1] at e; exact absurd ((Pl.pool.inj e).1.trans g2) g1
            · rw [if_neg g1, if_neg g2] at e; exact e
    · cases p with
      | obj n =>
        have a := erase_dm hi (dm_obj.mp a)
        show Dm z.length (if n < i then Pl.obj n else .obj (n + 1))
        split <;> (refine dm_obj.mpr ?_; omega)
      | pool t c =>
        show Dm z.length (if t = z.getD i 0 then (if c = 0 then Pl.obj i else .pool t (c - 1)) else .pool t c)
        split
        · split
          · exact dm_obj.mpr hi
          · exact dm_pool
        · exact dm_pool
    · cases p with
      | obj n =>
        show szOf z (if n < i then Pl.obj n else .obj (n + 1)) = (z.eraseIdx i).getD n 0
        rw [erase_get]
        split <;> rfl
      | pool t c =>
        show szOf z (if t = z.getD i 0 then (if c = 0 then Pl.obj i else .pool t (c - 1)) else .pool t c) = t
        split
        · rename_i g
          split
          · exact g.symm
          · rfl
        · rfl
  | leave i =>
    have hi : i < z.length := h
    refine ⟨fun p q a b e => ?_, fun p a => ?_, fun p a => ?_⟩
    · cases p with
      | obj n =>
        cases q with
        | obj n' =>
          have e : (if n < i then Pl.obj n else .obj (n + 1)) = if n' < i then Pl.obj n' else .obj (n' + 1) := e
          split at e <;> split at e <;> (have e := Pl.obj.inj e; exact congrArg Pl.obj (by omega))
        | pool t c =>
          have e : (if n < i then Pl.obj n else .obj (n + 1)) = Pl.pool t c := e
          split at e <;> exact nomatch e
      | pool t c =>
        cases q with
        | obj n' =>
          have e : Pl.pool t c = if n' < i then Pl.obj n' else .obj (n' + 1) := e
          split at e <;> exact nomatch e
        | pool t' c' => exact e
    · cases p with
      | obj n =>
        have a := erase_dm hi (dm_obj.mp a)
        show Dm z.length (if n < i then Pl.obj n else .obj (n + 1))
        split <;> (refine dm_obj.mpr ?_; omega)
      | pool t c => exact dm_pool
    · cases p with
      | obj n =>
        show szOf z (if n < i then Pl.obj n else .obj (n + 1)) = (z.eraseIdx i).getD n 0
        rw [erase_get]
        split <;> rfl
      | pool t c => rfl
/-! ### rows of steps -/
def zpl (z : List Nat) : List Stp → List Nat
  | [] => z
  | st :: sts => zpl (zst z st) sts
def gf (z : List Nat) : List Stp → Pl → Pl
  | [], p => p
  | st :: sts, p => tau z st (gf (zst z st) sts p)
def Sok (z : List Nat) : List Stp → Prop
  | [] => True
  | st :: sts => st.ok z ∧ Sok (zst z st) sts
theorem gf_good : ∀ {sts : List Stp} {z : List Nat}, Sok z sts → MGood z (zpl z sts) (gf z sts)
  | [], _, _ => MGood.id
  | _ :: _, _, h => (tau_good h.1).comp (gf_good h.2)
theorem play_z : ∀ {sts : List Stp} {W : Wo}, Sok W.z sts → (W.play sts).z = zpl W.z sts
  | [], _, _ => rfl
  | st :: sts, W, h => by
    have e := step_z h.1
    show ((W.step st).play sts).z = _
    rw [play_z (W := W.step st) (by rw [e]; exact h.2), e]; rfl
theorem play_f : ∀ {sts : List Stp} {W : Wo} {p : Pl}, Sok W.z sts → Dm (zpl W.z sts).length p → (W.play sts).f p = W.f (gf W.z sts p)
  | [], _, _, _, _ => rfl
  | st :: sts, W, p, h, hp => by
    have e := step_z h.1
    show ((W.step st).play sts).f p = _
    rw [play_f (W := W.step st) (by rw [e]; exact h.2) (by rw [e]; exact hp), step_f h.1 (by
      have := (gf_good h.2).to p hp
      rw [e]; exact this), e]; rfl
/-- the beginning -/
def wo0 (z : List Nat) : Wo := ⟨z.zipIdx.map fun p => (.obj p.2, p.1), fun _ => ([], 0)⟩
theorem wo0_z {z : List Nat} : (wo0 z).z = z := by
  unfold Wo.z wo0
  rw [List.map_map]
  show z.zipIdx.map Prod.fst = z
  rw [List.zipIdx_map_fst]
theorem wo0_at {z : List Nat} {i s : Nat} (h : z[i]? = some s) : (wo0 z).objs[i]? = some (.obj i, s) := by
  show (z.zipIdx.map _)[i]? = _
  rw [List.getElem?_map, List.getElem?_zipIdx, h]
  simp
theorem wo0_f {z : List Nat} {p : Pl} (h : Dm z.length p) : (wo0 z).f p = p := by
  cases p with
  | obj i => exact wo_obj (wo0_at (List.getElem?_eq_getElem (dm_obj.mp h)))
  | pool s c => show rowOf s ([], 0) c = _; rw [rowOf_nil, Nat.zero_add]
theorem wo0_good {z : List Nat} : MGood z z (wo0 z).f := MGood.id.congr fun p h => wo0_f h
theorem play_good {z0 : List Nat} {W : Wo} {sts : List Stp} (g : MGood z0 W.z W.f) (h : Sok W.z sts) : MGood z0 (W.play sts).z (W.play sts).f := by
  rw [play_z h]
  exact (g.comp (gf_good h)).congr fun p hp => play_f h hp
theorem play0_f {z : List Nat} {sts : List Stp} {p : Pl} (h : Sok z sts) (hp : Dm (zpl z sts).length p) : ((wo0 z).play sts).f p = gf z sts p := by
  rw [play_f (W := wo0 z) (by rw [wo0_z]; exact h) (by rw [wo0_z]; exact hp), wo0_z]
  exact wo0_f ((gf_good h).to p hp)
/-- a world's move -/
def Wo.mv (W : Wo) : Mvd := W.m.canon
theorem mv_can {W : Wo} : Can W.mv := canon_can
theorem mv_orig {W : Wo} {p : Pl} : W.mv.orig p = W.f p := canon_orig
theorem mv_len {W : Wo} : W.mv.things.length = W.z.length := by show (W.objs.map _).length = (W.objs.map _).length; rw [List.length_map, List.length_map]
/-- played on: the move of both stretches -/
theorem then_play {W : Wo} {sts : List Stp} (h : Sok W.z sts) : thenM W.mv ((wo0 W.z).play sts).mv = (W.play sts).mv := by
  have e0 : ((wo0 W.z).play sts).z = zpl W.z sts := by rw [play_z (by rw [wo0_z]; exact h), wo0_z]
  have l2 : ((wo0 W.z).play sts).mv.things.length = (zpl W.z sts).length := by rw [mv_len, e0]
  refine mvd_ext thenM_can mv_can ?_ fun p hp => ?_
  · show (((wo0 W.z).play sts).mv.things.map _).length = _
    rw [List.length_map, l2, mv_len, play_z h]
  · have hp : Dm (zpl W.z sts).length p := by
      have : (thenM W.mv ((wo0 W.z).play sts).mv).things.length = (zpl W.z sts).length := by
        show (((wo0 W.z).play sts).mv.things.map _).length = _
        rw [List.length_map, l2]
      rw [this] at hp; exact hp
    rw [thenM_orig (by rw [l2]; exact hp), mv_orig, mv_orig, mv_orig, play0_f h hp, play_f h hp]
theorem mv0 {z : List Nat} : (wo0 z).mv = ⟨(List.range z.length).map Pl.obj, fun _ => ([], 0)⟩ := by
  refine mvd_ext mv_can (fun s => least_nil) ?_ fun p hp => ?_
  · rw [mv_len, wo0_z, List.length_map, List.length_range]
  · rw [mv_len, wo0_z] at hp
    rw [mv_orig, wo0_f hp]
    cases p with
    | obj i => exact (orig_obj (by show ((List.range z.length).map Pl.obj)[i]? = _; rw [List.getElem?_map, List.getElem?_range (dm_obj.mp hp)]; rfl)).symm
    | pool s c => rw [orig_pool, rowOf_nil, Nat.zero_add]
theorem then_id_left {z0 : List Nat} {W : Wo} (g : MGood z0 W.z W.f) : thenM (wo0 z0).mv W.mv = W.mv := by
  refine mvd_ext thenM_can mv_can ?_ fun p hp => ?_
  · show (W.mv.things.map _).length = _; rw [List.length_map]
  · have hp : Dm W.mv.things.length p := by
      have : (thenM (wo0 z0).mv W.mv).things.length = W.mv.things.length := by show (W.mv.things.map _).length = _; rw [List.length_map]
      rw [this] at hp; exact hp
    rw [thenM_orig hp, mv_orig, mv_orig]
    rw [mv_len] at hp
    exact wo0_f (g.to p hp)
theorem then_id_right {W : Wo} : thenM W.mv (wo0 W.z).mv = W.mv := then_play (sts := []) trivial
end Wd
set_option Elab.async false
set_option linter.all false
set_option maxRecDepth 100000
set_option maxHeartbeats 4000000
/-! Move.__init__ -/
namespace Wd
open PySem L2 Mv
theorem sorted_few {ks : List Nat} (nd : ks.Nodup) (h9 : ∀ s ∈ ks, s < 9) {ys : List Int} (hp : ys.Perm (ks.map fun s => ((s : Nat) : Int))) (hs : ys.Pairwise (· ≤ ·)) :
    ys = ((List.range 9).filter fun s => decide (s ∈ ks)).map fun s => ((s : Nat) : Int) := by
  have ndm : ∀ l : List Nat, l.Nodup → (l.map fun s => ((s : Nat) : Int)).Nodup := fun l h => List.pairwise_map.mpr (h.imp fun h e => h (Int.ofNat.inj e))
  have nf : ((List.range 9).filter fun s => decide (s ∈ ks)).Nodup := List.nodup_range.filter _
  refine List.Perm.eq_of_pairwise (le := (· ≤ ·)) (fun a b _ _ h g => Int.le_antisymm h g) hs ?_ (hp.trans ((List.perm_ext_iff_of_nodup (ndm _ nd) (ndm _ nf)).mpr fun a => ?_))
  · exact List.pairwise_map.mpr ((List.pairwise_le_range.filter _).imp fun h => Int.ofNat_le.mpr h)
  · rw [List.mem_map, List.mem_map]
    refine ⟨fun ⟨s, hs, e⟩ => ⟨s, List.mem_filter.mpr ⟨List.mem_range.mpr (h9 s hs), decide_eq_true hs⟩, e⟩, fun ⟨s, hs, e⟩ => ⟨s, of_decide_eq_true (List.mem_filter.mp hs).2, e⟩⟩
theorem flat_filter {A : Type} (f : Nat → List A) (q : Nat → Bool) : ∀ l : List Nat, ((l.filter q).flatMap f).length ≤ (l.flatMap f).length
  | [] => Nat.le_refl _
  | a :: l => by
    have ih := flat_filter f q l
    rw [List.filter_cons, List.flatMap_cons, List.length_append]
    split
    · rw [List.flatMap_cons, List.length_append]; omega
    · omega
theorem Same.lock {H H' : Hp} {d : Addr} {u : HO} {od : Obj} (s : Same (upd H d (.frz od u)) H') (h : H d = some u) : Same H (upd H' d u) := fun b o e => by
  by_cases z : b = d
  · subst z; rw [upd_same]; rw [h] at e; exact e
  · rw [upd_ne z]; exact s _ _ (by rw [upd_ne z]; exact e)
/-- tuples stay, and lists that are not of F -/
structure Bl (F : Addr → Prop) (H H' : Hp) : Prop where
  tup : ∀ b xs, H b = some (.tup xs) → H' b = some (.tup xs)
  lst : ∀ b xs, ¬ F b → H b = some (.lst xs) → H' b = some (.lst xs)
theorem Bl.pl {F : Addr → Prop} {H H' : Hp} (s : Bl F H H') {v : V} {p : Pl} (h : PlAt H v p) : PlAt H' v p := PlAt.but (fun b xs e => s.tup b xs e) h
theorem Bl.ps {F : Addr → Prop} {H H' : Hp} (s : Bl F H H') {v : V} {ps : List Pl} (h : PsAt F H v ps) : PsAt F H' v ps := by
  obtain ⟨l, xs, rfl, h1, h2, h3⟩ := h
  exact ⟨l, xs, rfl, h1, s.lst _ _ h1 h2, Paired.mono (fun _ _ => s.pl) h3⟩
theorem Bl.tl {F : Addr → Prop} {H H' : Hp} (s : Bl F H H') {v : V} {t : List Pl × Nat} (h : TlAt F H v t) : TlAt F H' v t := by
  obtain ⟨a, u, rfl, h1, h2⟩ := h
  exact ⟨a, u, rfl, s.tup _ _ h1, s.ps h2⟩
theorem Bl.dc {F : Addr → Prop} {H H' : Hp} (s : Bl F H H') {kvs : List (Key × V)} {ks : List Nat} {tl : Nat → List Pl × Nat} (h : DcAt F H kvs ks tl) : DcAt F H' kvs ks tl := Paired.mono (fun _ _ z => ⟨z.1, s.tl z.2⟩) h
theorem Bl.put {F : Addr → Prop} {H : Hp} {a : Addr} {o u : HO} (h : H a = some o) (ht : ∀ xs, o ≠ .tup xs) (hl : ∀ xs, o = .lst xs → F a) : Bl F H (upd H a u) :=
  ⟨fun b xs e => by rw [upd_ne (fun z => by rw [z, h] at e; cases e; exact ht _ rfl)]; exact e, fun b xs f e => by rw [upd_ne (fun z => by rw [z, h] at e; cases e; exact f (z ▸ hl _ rfl))]; exact e⟩
theorem Bl.same {F : Addr → Prop} {H H' : Hp} (s : Same H H') : Bl F H H' := ⟨fun b xs e => s _ _ e, fun b xs _ e => s _ _ e⟩
/-- [.. for k, v in d.items()] that gives True throughout, the dict locked -/
theorem lc_truesI {d : Addr} {od : Obj} {kvs : List (Key × V)} {i j : Nat} {te : TE} {vs : List Nat} {σ : L2.St} {H : Hp} {D : Addr} {Qd : Hp → Prop} {K : PySem.W.Frag} (hD : H D = none) (hd : H d = some (.frz od (.dK kvs))) (hn : kvs.length ≤ 1000)
    (hw : ∀ x y, wipe (((wipe σ vs).set i (some x)).set j (some y)) vs = wipe σ vs)
    (hs : ∀ k v, (k, v) ∈ kvs → ∀ H', Same H H' → ∀ Q' : VK, (∀ H'', Same H' H'' → Q' (.bl true) H'') → te (((wipe σ vs).set i (some (kV k))).set j (some v)) H' Q') (he : ∀ H', Same H H' → H' D = some (.lst (List.replicate kvs.length (.bl true))) → Qd H') :
    ∃ W : Nat → Nat → Hp → Prop, (∃ m, W 0 m (upd H D (.lst []))) ∧ ∀ t m H, W t m H →
      ((Iti d od kvs).stop t H ∧ Qd H) ∨ ((Iti d od kvs).go t H ∧ ∃ Nx : Hp → Prop, (∀ H', Nx H' → ∃ m', m' < m ∧ W (t + 1) m' H') ∧ ∀ x H', (Iti d od kvs).yld t H x H' → gTup K 2 (gCons (gName i) (gCons (gName j) gNil)) x (wipe σ vs) H' fun σ2 H2 => wipe σ2 vs = wipe σ vs ∧ tYes σ2 H2 fun b H3 =>
        if b = true then te σ2 H3 fun y H4 => ∃ acc, H4 D = some (.lst acc) ∧ acc.length < sizeLine ∧ Nx (upd H4 D (.lst (acc ++ [y]))) else Nx H3) := by
  have z := szM
  refine lc_it walk_items (fun t H' => Same H H' ∧ H' D = some (.lst (List.replicate t (.bl true)))) ⟨Same.new hD, upd_same⟩ (fun t H' _ h => h.1 _ _ hd) ?_ fun H' h => he H' h.1 h.2
  rintro t x H' H2 ht ⟨s1, hD'⟩ ⟨T, k, v, rfl, hT, rfl, ek, ev⟩
  obtain ⟨⟨ky, vv⟩, hk⟩ : ∃ p, kvs[t]? = some p := ⟨_, List.getElem?_eq_getElem ht⟩
  have ek : kvs[t]?.map (fun kv => kV kv.1) = some k := ek
  have ev : kvs[t]?.map Prod.snd = some v := ev
  rw [hk] at ek ev
  cases ek; cases ev
  have s2 := s1.trans (Same.new (o := .tup [kV ky, vv]) hT)
  refine ⟨T, _, rfl, SqT.of upd_same, rfl, _, _, rfl, _, _, rfl, rfl, ?_⟩
  dsimp only
  unfold tYes
  refine ⟨hw _ _, iteT (hs _ _ (List.mem_of_getElem? hk) _ s2 _ fun H3 s3 => ⟨_, s3 _ _ (Same.new hT _ _ hD'), by rw [List.length_replicate]; omega, fun b o e => ?_, ?_⟩)⟩
  · rw [upd_ne (fun z => by rw [z, hD] at e; cases e)]; exact s3 _ _ (s2 _ _ e)
  · rw [upd_same, ← List.replicate_succ']
theorem Same.over {H0 H : Hp} {x : Addr} {o : HO} (s : Same H0 H) (h : H0 x = none) : Same H0 (upd H x o) := fun b u e => by rw [upd_ne (ne_of_none e h)]; exact s _ _ e
def mf (lt td : Addr) : List (Str × V) := [("things", .ref lt), ("tails", .ref td)]
theorem mf_put {lt td : Addr} : putF "tails" (.ref td) (putF "things" (.ref lt) []) = mf lt td := by kernel_rfl
theorem mf_tails {lt td : Addr} : (mf lt td).lookup ("tails" : Str) = some (.ref td) := by kernel_rfl
theorem mf_taken {lt td : Addr} : (mf lt td).lookup ("is_taken" : Str) = none := by kernel_rfl
def dTl (t : List Pl × Nat) : PyData := .tuple [.list (t.1.map Pl.d), .int (t.2 : Nat)]
theorem dps {K : PySem.W.Frag} {H : Hp} : ∀ {xs : List V} {ps : List Pl}, Paired (PlAt H) xs ps → DpAll K H xs (ps.map Pl.d)
  | _, _, .nil => .nil
  | _, _, .cons a b => .cons (Pl.dp a) (dps b)
theorem dTl_at {K : PySem.W.Frag} {F : Addr → Prop} {H : Hp} {v : V} {t : List Pl × Nat} (h : TlAt F H v t) : Dp K H v (dTl t) := by
  obtain ⟨a, u, rfl, h1, l, xs, rfl, _, h2, h3⟩ := h
  exact .tup (SqT.of h1) (.cons (.lst (SqL.of h2) (dps h3)) (.cons (.int _) .nil))
theorem d_lay (p : Pl) : PyData.canLay0 (Pl.d p) = true := by
  cases p <;> simp only [Pl.d, PyData.canLay0, PyData.canLayAll0, Bool.and_true] <;> decide +kernel
theorem d_deep (p : Pl) : PyData.depth (Pl.d p) ≤ 1 := by
  cases p <;> simp only [Pl.d, PyData.depth, PyData.depthAll] <;> decide +kernel
theorem ds_lay : ∀ ps : List Pl, PyData.canLayAll0 (ps.map Pl.d) = true
  | [] => by simp only [List.map_nil, PyData.canLayAll0]
  | p :: ps => by simp only [List.map_cons, PyData.canLayAll0, d_lay, ds_lay ps, Bool.and_true]
theorem ds_deep : ∀ ps : List Pl, PyData.depthAll (ps.map Pl.d) ≤ 1
  | [] => by simp only [List.map_nil, PyData.depthAll]; decide
  | p :: ps => by
    have a := d_deep p
    have b := ds_deep ps
    simp only [List.map_cons, PyData.depthAll]
    omega
theorem dTl_shaped (t : List Pl × Nat) : SeqAt.shaped (dTl t) = true := by
  unfold SeqAt.shaped
  have a := ds_deep t.1
  simp only [dTl, PyData.canLay0, PyData.canLayAll0, ds_lay, Bool.and_true, Bool.true_and, decide_eq_true_eq, PyData.depth, PyData.depthAll]
  omega
theorem eqv_nil (t : List Pl × Nat) : PyData.eqv (dTl t) (dTl ([], 0)) = decide (t = ([], 0)) := by
  obtain ⟨f, n⟩ := t
  cases f with
  | nil =>
    simp only [dTl, List.map_nil, PyData.eqv, PyData.eqvAll, Bool.and_true, Bool.true_and]
    exact decide_eq_decide.mpr ⟨fun h => by rw [Int.ofNat.inj h], fun h => by cases h; rfl⟩
  | cons p f =>
    simp only [dTl, List.map_nil, List.map_cons, PyData.eqv, PyData.eqvAll, Bool.false_and]
    exact (decide_eq_false fun h => List.cons_ne_nil _ _ (Prod.ext_iff.mp h).1).symm
section
variable {P : Program} {w : World} {K : PySem.W.Frag} {mg : Str → Option Value} {base : Heap} {f C CM fMI : Addr} {fd fdMI : FuncData} {H : Hp}
theorem dc_keys {F : Addr → Prop} {H : Hp} {tl : Nat → List Pl × Nat} : ∀ {kvs : List (Key × V)} {ks : List Nat}, DcAt F H kvs ks tl → kvs.map (·.1) = (ks.map fun s => ((s : Nat) : Int)).map Sum.inl
  | _, _, .nil => rfl
  | _, _, .cons a b => by rw [List.map_cons, List.map_cons, List.map_cons, dc_keys b, a.1]
theorem dc_snoc {F : Addr → Prop} {H : Hp} {tl : Nat → List Pl × Nat} {kvs : List (Key × V)} {ks : List Nat} {s : Nat} {v : V} (h : DcAt F H kvs ks tl) (q : TlAt F H v (tl s)) : DcAt F H (kvs ++ [(Sum.inl ((s : Nat) : Int), v)]) (ks ++ [s]) tl := Paired.app h (.cons ⟨rfl, q⟩ .nil)
/-- ahead of a turn of the loop over the pools -/
structure LI (CM : Addr) (H0 H1 : Hp) (x dx lt td kn sp : Addr) (xs : List V) (ns : List Nat) (m : Mvd) (i : Nat) (H : Hp) : Prop where
  s0 : Same H0 H
  old : ∀ b, H1 b ≠ none → H b ≠ none
  hx : H x = some (.ins CM dx (mf lt td))
  hlt : H lt = some (.lst xs)
  hsp : H sp = some (.lst (ns.map fun s => .int (s : Nat)))
  hkn : ∃ kxs, H kn = some (.lst kxs) ∧ Paired (PlAt H) kxs (m.things ++ (ns.take i).flatMap fun s => (m.tail s).1)
  htd : ∃ kvs, H td = some (.dK kvs) ∧ DcAt (Old H1) H kvs ((ns.take i).filter fun s => decide (m.canon.tail s ≠ ([], 0))) m.canon.tail
def spMoveInit (CM : Addr) : Sp := fun vs H Q _ => ∃ (H0 : Hp) (x dx : Addr) (v : V) (d : Addr) (kvs : List (Key × V)) (ks : List Nat) (m : Mvd) (z0 z1 : List Nat), H = upd (upd H0 dx (.own x)) x (.ins CM dx []) ∧ H0 x = none ∧ H0 dx = none ∧ dx ≠ x ∧
  vs = [.ref x, v, .ref d] ∧ PsAt NoF H0 v m.things ∧ H0 d = some (.dK kvs) ∧ DcAt NoF H0 kvs ks m.tail ∧ ks.Nodup ∧ (∀ s ∈ ks, 1 ≤ s ∧ s ≤ 8) ∧ (∀ s, s ∉ ks → m.tail s = ([], 0)) ∧ MGood z0 z1 m.orig ∧ z1.length = m.things.length ∧ (∀ s ∈ z1, 1 ≤ s ∧ s ≤ 8) ∧
  m.things.length + ((List.range 9).flatMap fun s => (m.tail s).1).length ≤ 70 ∧ ∀ H', Same H0 H' → MvAt CM (Old H0) H' (.ref x) m.canon → Q .non H'
theorem sc_MoveInit : FnScope ["self", "objects", "pools", "place", "size", "thing", "known", "front", "fresh", "short"] ["self", "objects", "pools"] (defScope sMoveInit) := ⟨rfl, rfl, rfl, by decide +kernel, rfl, by decide +kernel, by decide +kernel⟩
theorem ok_MoveInit (D : DefM K CM "__init__" "Move.__init__" sMoveInit ["self", "objects", "pools"] f fd) (B : Blt mg) (TM : MCl K mg CM fMI fdMI) {t8 : Tok} (m8 : mg "MOST_SIZE" = some (.int 8 t8))
    {fP fQ fS fT : Addr} {fdP fdQ fdS fdT : FuncData} (DIsPlace : DefF K mg "is_place" sIsPlace ["thing"] fP fdP) (GIsPlace : FnOk P w K mg base CX0 2 fP fdP ["thing"] spIsPlace)
    (DIsPool : DefF K mg "is_pool" sIsPool ["size", "thing"] fQ fdQ) (GIsPool : FnOk P w K mg base CX0 3 fQ fdQ ["size", "thing"] spIsPool)
    (DShortened : DefF K mg "shortened" sShortened ["size", "front", "fresh"] fS fdS) (GShortened : FnOk P w K mg base CX0 1 fS fdS ["size", "front", "fresh"] spShortened)
    (DIsTaken : DefM K CM "is_taken" "Move.is_taken" sMoveIsTaken ["self", "pools", "place"] fT fdT) (GIsTaken : FnOk P w K mg base CX0 1 fT fdT ["self", "pools", "place"] spIsTaken) : FnOk P w K mg base CX0 4 f fd ["self", "objects", "pools"] (spMoveInit CM) := by
  refine D.fn.ok sc_MoveInit (fun vs H Q E h => ?_) (fun cdv A outer s H vs Q E hr h => ?_)
  · obtain ⟨H0, x, dx, v, d, kvs, ks, m, z0, z1, _, _, _, _, rfl, _⟩ := h; rfl
  · obtain ⟨H0, x, dx, v, d, kvs, ks, m, z0, z1, rfl, hx0, hdx0, hxd, rfl, ⟨l, xs, rfl, _, hl, px⟩, hd, hk, nd, h8, hn, g, hz, hz8, h70, k⟩ := h
    refine ⟨_, (pss_cons (ps_if (PW.pt (pw_or (pt_not (pt_val (pe_callB call_isi (by rfl) B.isi PyProof.Rows.boot_isinstance (pa_cons (pv 1) (pa_cons (pe_bltn (v := .ty "list") (by rfl) B.list PyProof.Rows.boot_list rfl) pa_nil))))) (pw_or1 (pt_not (pt_val (pe_callB (cr_all rfl) (by rfl) B.all PyProof.Rows.boot_all (pa_cons (pe_lc (own := [("place", 3)]) (g := gName 3) (tt := tYes) rfl sc_MoveInit.nd (pi_list (pv 1)) (blkOk_by (N := ["self", "objects", "pools", "place", "size", "thing", "known", "front", "fresh", "short"]) (sc := defScope sMoveInit) (by decide +kernel)) (fun _ _ _ _ _ => pg_name (i := 3) sc_MoveInit.nd rfl (Or.inl rfl)) (fun _ _ _ _ _ => pts_nil) (fun _ _ _ _ _ => (pe_call GIsPlace (hr.mono (by first | decide | omega)) rfl DIsPlace.gl DIsPlace.fn.kp DIsPlace.bd .nil pass0 (pa_cons (pv 3) pa_nil)))) pa_nil))))))) (pss_one ps_never) pss_nil) (pss_cons (ps_if (PW.pt (pw_or (pt_not (pt_val (pe_callB call_isi (by rfl) B.isi PyProof.Rows.boot_isinstance (pa_cons (pv 2) (pa_cons (pe_bltn (v := .ty "dict") (by rfl) B.dict PyProof.Rows.boot_dict rfl) pa_nil))))) (pw_or1 (pt_not (pt_val (pe_callB (cr_all rfl) (by rfl) B.all PyProof.Rows.boot_all (pa_cons (pe_lock (pe_lc (own := [("size", 4), ("thing", 5)]) (tt := tYes) (g := (gTup K 2 (gCons (gName 4) (gCons (gName 5) gNil)))) rfl sc_MoveInit.nd (pi_items (pv 2)) (blkOk_by (N := ["self", "objects", "pools", "place", "size", "thing", "known", "front", "fresh", "short"]) (sc := defScope sMoveInit) (by decide +kernel)) (fun _ _ _ _ _ => (pg_tup rfl (pgs_cons (pg_name (i := 4) sc_MoveInit.nd rfl (.inl rfl) (.inr rfl)) (pgs_cons (pg_name (i := 5) sc_MoveInit.nd rfl (.inl rfl) (.inr rfl)) pgs_nil)))) (fun _ _ _ _ _ => pts_nil) (fun _ _ _ _ _ => (pe_call GIsPool (hr.mono (by first | decide | omega)) rfl DIsPool.gl DIsPool.fn.kp DIsPool.bd .nil pass0 (pa_cons (pv 4) (pa_cons (pv 5) pa_nil)))))) pa_nil))))))) (pss_one ps_never) pss_nil) (pss_cons (ps_fld (pv 0) (pe_callTy call_list_of (by rfl) B.list PyProof.Rows.boot_list (pa_cons (pv 1) pa_nil)) rfl) (pss_cons (ps_fld (pv 0) pe_dnewK rfl) (pss_cons (ps_set (i := 6) sc_MoveInit.nd rfl (.inl rfl) (pe_callTy call_list_of (by rfl) B.list PyProof.Rows.boot_list (pa_cons (pv 1) pa_nil))) (pss_cons (ps_for PassesOwn.never rfl (pi_list (pe_callB (call_sortedDI rfl) (by rfl) B.sorted PyProof.Rows.boot_sorted (pa_cons (pv 2) pa_nil))) (pg_name (i := 4) sc_MoveInit.nd rfl (.inl rfl)) (pss_cons (ps_asg (pe_dget (hu_of hr) (pv 2) (pv 4) (fun _ _ => rfl)) (pg_tup rfl (pgs_cons (pg_name (i := 7) sc_MoveInit.nd rfl (.inl rfl)) (pgs_cons (pg_name (i := 8) sc_MoveInit.nd rfl (.inl rfl)) pgs_nil)))) (pss_cons (ps_aug (i := 6) sc_MoveInit.nd rfl (.inl rfl) (pv 7) iop_ext) (pss_cons (ps_set (i := 9) sc_MoveInit.nd rfl (.inl rfl) (pe_call GShortened (hr.mono (by first | decide | omega)) rfl DShortened.gl DShortened.fn.kp DShortened.bd .nil pass0 (pa_cons (pv 4) (pa_cons (pv 7) (pa_cons (pv 8) pa_nil))))) (pss_one (ps_if (pt_cmpR (op_neD hr.units) (pv 9) (pe_tup (pa_cons (pe_lst pa_nil) (pa_cons pe_int pa_nil))) (nomark _)) (pss_one (ps_dput (hu_of hr) (pe_fld (pv 0) rfl) (pv 4) (pv 9) rfl)) pss_nil)))))) (pss_one (ps_if (PW.pt (pw_or (pt_cmpR op_lt (pe_lenSetP (Nat.lt_of_le_of_lt (Nat.add_le_add_left (by decide : 11 ≤ 64) _) hr.units) rfl rfl B.len rfl B.set (pv 6)) (pe_callB call_len_seq (by rfl) B.len PySem.boot_len (pa_cons (pv 6) pa_nil)) (nomark _)) (pw_or1 (pt_not (pt_val (pe_callB (cr_all rfl) (by rfl) B.all PyProof.Rows.boot_all (pa_cons (pe_lc (own := [("place", 3)]) (g := gName 3) (tt := tYes) rfl sc_MoveInit.nd (pi_list (pv 6)) (blkOk_by (N := ["self", "objects", "pools", "place", "size", "thing", "known", "front", "fresh", "short"]) (sc := defScope sMoveInit) (by decide +kernel)) (fun _ _ _ _ _ => pg_name (i := 3) sc_MoveInit.nd rfl (Or.inl rfl)) (fun _ _ _ _ _ => pts_nil) (fun _ _ _ _ _ => (pe_meth (pv 0) TM.cl DIsTaken.mt GIsTaken (hr.mono (by first | decide | omega)) DIsTaken.bd .nil pass0 (pa_cons (pv 2) (pa_cons (pv 3) pa_nil))))) pa_nil))))))) (pss_one ps_never) pss_nil)))))))), ?_⟩
    have s00 : Same H0 (upd (upd H0 dx (.own x)) x (.ins CM dx [])) := (Same.new hdx0).trans (Same.new (by rw [upd_ne (Ne.symm hxd)]; exact hx0))
    have hx : upd (upd H0 dx (.own x)) x (.ins CM dx []) x = some (.ins CM dx []) := upd_same
    generalize upd (upd H0 dx (.own x)) x (.ins CM dx []) = H at s00 hx ⊢
    have lx := Paired.len px
    have fit : ∀ p ∈ m.things, Pl.fit p := fun p hp => known_fit (ks := ks) g hz hz8 h8 (List.mem_append_left _ hp)
    refine ⟨_, rfl, _, _, _, _, true, rfl, ClsV.ty _, .base (.lst (s00 _ _ hl)), kit_ty (by decide +kernel), _, rfl, iteF ?_⟩
    refine ⟨_, rfl, l, rfl, ⟨_, SqL.of (s00 _ _ hl)⟩, fun D1 hD1 => lc_trues (xs := xs) hD1 (s00 _ _ hl) (by omega) (fun _ => rfl) ?_ ?_⟩
    · rintro y hy H' s' Q' k'
      obtain ⟨j, hj⟩ := List.getElem?_of_mem hy
      obtain ⟨p, hp, q⟩ := Paired.at_ px hj
      exact ⟨_, rfl, y, p, rfl, q.mono (s00.trans s'), fit p (List.mem_of_getElem? hp), fun H'' s'' => k' _ s''⟩
    rintro H2 s2 hD2
    refine ⟨D1, _, rfl, SqL.reps hD2, _, rfl, ?_⟩
    rw [all_rep]
    refine iteF ?_
    have t2 := s00.trans s2
    have hx2 := s2 _ _ hx
    clear hx hD1 hD2 s2 s00
    have hd2 := t2 _ _ hd
    refine ⟨_, rfl, _, _, _, _, true, rfl, ClsV.ty _, .base (.dK hd2), kit_ty (by decide +kernel), _, rfl, iteF ?_⟩
    refine ⟨d, .dK kvs, hd2, trivial, fun od => ?_⟩
    have hdk := fun s hs => (DcAt.get (s := s) hk).1 hs
    have kl : kvs.length ≤ 9 := by
      rw [Paired.len hk]
      have : (ks.map fun s => ((s : Nat) : Int)) = ks.map fun s => ((s : Nat) : Int) := rfl
      have sub : ks.length ≤ (List.range 9).length := by
        have e : ks.Perm ((List.range 9).filter fun s => decide (s ∈ ks)) := (List.perm_ext_iff_of_nodup nd (List.nodup_range.filter _)).mpr fun a => by
          rw [List.mem_filter, List.mem_range, decide_eq_true_eq]
          exact ⟨fun h => ⟨by have := h8 a h; omega, h⟩, fun h => h.2⟩
        rw [e.length_eq]
        exact List.length_filter_le _ _
      rw [List.length_range] at sub
      exact sub
    refine ⟨_, rfl, d, od, kvs, rfl, upd_same, fun D2 hD2 => lc_truesI (i := 4) (j := 5) hD2 upd_same (by omega) (fun _ _ => rfl) ?_ ?_⟩
    · intro ky v hm H' s' Q' k'
      obtain ⟨j, hj⟩ := List.getElem?_of_mem hm
      obtain ⟨s, hs, e1, e2⟩ := Paired.at_ hk hj
      have e1 : ky = Sum.inl ((s : Nat) : Int) := e1
      subst e1
      have hs8 := h8 s (List.mem_of_getElem? hs)
      have b1 : Bl NoF H0 H' := ⟨fun b xs e => s' _ _ (by rw [upd_ne (ne_of (t2 _ _ e) hd2 fun z => nomatch z)]; exact t2 _ _ e), fun b xs _ e => s' _ _ (by rw [upd_ne (ne_of (t2 _ _ e) hd2 fun z => nomatch z)]; exact t2 _ _ e)⟩
      refine ⟨_, rfl, _, rfl, s, v, NoF, m.tail s, rfl, hs8.1, hs8.2, b1.tl e2, ?_, fun p hp => ⟨?_, front_own g hp⟩, fun H'' s'' => k' _ s''⟩
      · have : ((List.range 9).flatMap fun s => (m.tail s).1).length ≤ 70 := by omega
        refine Nat.le_trans ?_ (Nat.le_trans this (by decide))
        have := flat_filter (fun s => (m.tail s).1) (fun t => decide (t = s)) (List.range 9)
        refine Nat.le_trans (Nat.le_of_eq ?_) this
        have e : (List.range 9).filter (fun t => decide (t = s)) = [s] := by
          have : s = 1 ∨ s = 2 ∨ s = 3 ∨ s = 4 ∨ s = 5 ∨ s = 6 ∨ s = 7 ∨ s = 8 := by omega
          rcases this with rfl | rfl | rfl | rfl | rfl | rfl | rfl | rfl <;> decide
        rw [e, List.flatMap_cons, List.flatMap_nil, List.append_nil]
      · exact known_fit (ks := ks) g hz hz8 h8 (List.mem_append_right _ (List.mem_flatMap.mpr ⟨s, List.mem_of_getElem? hs, hp⟩))
    rintro H3 s3 hD3
    have nD : D2 ≠ d := fun z => by rw [z, upd_same] at hD2; cases hD2
    refine ⟨s3 _ _ upd_same, D2, _, rfl, SqL.reps (by rw [upd_ne nD]; exact hD3), _, rfl, ?_⟩
    rw [all_rep]
    have t3 := t2.trans (Same.lock s3 hd2)
    have hx3 := Same.lock s3 hd2 _ _ hx2
    generalize upd H3 d (.dK kvs) = H4 at t3 hx3 ⊢
    clear hx2 hD3 s3 hd2 t2 hD2 nD
    refine iteF ?_
    refine ⟨_, rfl, l, xs, rfl, .inl (SqL.of (t3 _ _ hl)), fun lt hlt => ⟨_, rfl, x, CM, dx, [], rfl, Same.new hlt _ _ hx3, TM.cl, TM.nTh, (by decide), ?_⟩⟩
    have nxl : x ≠ lt := ne_of_none hx3 hlt
    refine fun td htd => ⟨_, rfl, x, CM, dx, _, rfl, (by rw [upd_ne (ne_of_none upd_same htd)]; exact upd_same), TM.cl, TM.nTa, (by show 1 < 1000; decide), ?_⟩
    have nxt : x ≠ td := ne_of_none upd_same htd
    have nlt : lt ≠ td := ne_of_none (by rw [upd_ne (Ne.symm nxl)]; exact upd_same) htd
    rw [mf_put]
    have t4 : Same H0 (upd (upd (upd (upd H4 lt (.lst xs)) x (.ins CM dx (putF "things" (.ref lt) []))) td (.dK [])) x (.ins CM dx (mf lt td))) :=
      Same.over ((Same.over (t3.trans (Same.new hlt)) hx0).trans (Same.new htd)) hx0
    have f1 : upd (upd (upd (upd H4 lt (.lst xs)) x (.ins CM dx (putF "things" (.ref lt) []))) td (.dK [])) x (.ins CM dx (mf lt td)) x = some (.ins CM dx (mf lt td)) := upd_same
    have f2 : upd (upd (upd (upd H4 lt (.lst xs)) x (.ins CM dx (putF "things" (.ref lt) []))) td (.dK [])) x (.ins CM dx (mf lt td)) lt = some (.lst xs) := by
      rw [upd_ne (Ne.symm nxl), upd_ne nlt, upd_ne (Ne.symm nxl)]; exact upd_same
    have f3 : upd (upd (upd (upd H4 lt (.lst xs)) x (.ins CM dx (putF "things" (.ref lt) []))) td (.dK [])) x (.ins CM dx (mf lt td)) td = some (.dK []) := by
      rw [upd_ne (Ne.symm nxt)]; exact upd_same
    have o1 : H0 lt = none := by
      cases z : H0 lt with
      | none => rfl
      | some o => rw [t3 _ _ z] at hlt; cases hlt
    have o2 : H0 td = none := by
      cases z : H0 td with
      | none => rfl
      | some o => rw [Same.over (t3.trans (Same.new hlt)) hx0 _ _ z] at htd; cases htd
    generalize upd (upd (upd (upd H4 lt (.lst xs)) x (.ins CM dx (putF "things" (.ref lt) []))) td (.dK [])) x (.ins CM dx (mf lt td)) = H5 at t4 f1 f2 f3 ⊢
    clear htd hlt nlt nxt nxl hx3 t3
    refine ⟨_, rfl, l, xs, rfl, .inl (SqL.of (t4 _ _ hl)), fun kn hkn => ?_⟩
    have o3 : H0 kn = none := by
      cases z : H0 kn with
      | none => rfl
      | some o => rw [t4 _ _ z] at hkn; cases hkn
    have t5 := t4.trans (Same.new (o := .lst xs) hkn)
    have g1 := Same.new (o := .lst xs) hkn _ _ f1
    have g2 := Same.new (o := .lst xs) hkn _ _ f2
    have g3 := Same.new (o := .lst xs) hkn _ _ f3
    have g4 : upd H5 kn (.lst xs) kn = some (.lst xs) := upd_same
    have nkl : kn ≠ lt := Ne.symm (ne_of_none f2 hkn)
    generalize upd H5 kn (.lst xs) = H6 at t5 g1 g2 g3 g4 ⊢
    clear hkn t4 f1 f2 f3
    refine ⟨_, rfl, d, kvs, ks.map (fun s => ((s : Nat) : Int)), rfl, .inl (t5 _ _ hd), dc_keys hk, by rw [List.length_map, ← Paired.len hk]; omega, fun ys sp hperm hsort hsp => ?_⟩
    rw [sorted_few nd (fun s hs => by have := h8 s hs; omega) hperm hsort, List.map_map]
    generalize ens : ((List.range 9).filter fun s => decide (s ∈ ks)) = ns
    refine ⟨sp, rfl, ⟨_, SqL.of upd_same⟩, ?_⟩
    have nk : ∀ s ∈ ns, s ∈ ks := fun s hs => by rw [← ens] at hs; exact of_decide_eq_true (List.mem_filter.mp hs).2
    have kn1 : ∀ s ∈ ks, s ∈ ns := fun s hs => by rw [← ens]; exact List.mem_filter.mpr ⟨List.mem_range.mpr (by have := h8 s hs; omega), decide_eq_true hs⟩
    have nnd : ns.Nodup := by rw [← ens]; exact List.nodup_range.filter _
    have n8 : ∀ s ∈ ns, 1 ≤ s ∧ s ≤ 8 := fun s hs => h8 s (nk s hs)
    have kln : (known m ns).length ≤ 70 := by
      unfold known
      rw [List.length_append, ← ens]
      have := flat_filter (fun s => (m.tail s).1) (fun s => decide (s ∈ ks)) (List.range 9)
      omega
    have o4 : H0 sp = none := by
      cases z : H0 sp with
      | none => rfl
      | some o => rw [t5 _ _ z] at hsp; cases hsp
    have L0 : LI CM H0 (upd H6 sp (.lst (ns.map fun s => .int (s : Nat)))) x dx lt td kn sp xs ns m 0 (upd H6 sp (.lst (ns.map fun s => .int (s : Nat)))) := by
      have q := Same.new (o := .lst (ns.map fun s => .int (s : Nat))) hsp
      refine ⟨t5.trans q, fun _ h => h, q _ _ g1, q _ _ g2, upd_same, ⟨xs, q _ _ g4, ?_⟩, ⟨[], q _ _ g3, ?_⟩⟩
      · rw [List.take_zero, List.flatMap_nil, List.append_nil]
        exact Paired.mono (fun _ _ => PlAt.mono (t5.trans q)) px
      · rw [List.take_zero, List.filter_nil]; exact .nil
    have fold : ∀ b, Old (upd H6 sp (.lst (ns.map fun s => .int (s : Nat)))) b ↔ upd H6 sp (.lst (ns.map fun s => .int (s : Nat))) b ≠ none := fun _ => Iff.rfl
    have ok1 : upd H6 sp (.lst (ns.map fun s => .int (s : Nat))) kn ≠ none := by rw [upd_ne (ne_of_none g4 hsp), g4]; exact fun z => nomatch z
    have nks : kn ≠ sp := ne_of_none g4 hsp
    have old0 : ∀ b, H0 b ≠ none → upd H6 sp (.lst (ns.map fun s => .int (s : Nat))) b ≠ none := fun b hb z => by
      cases e : H0 b with
      | none => exact hb e
      | some o => rw [(t5.trans (Same.new hsp)) _ _ e] at z; cases z
    have e1 : (ns.map (V.int ∘ fun s => ((s : Nat) : Int))) = ns.map fun s => V.int (s : Nat) := rfl
    rw [e1]
    generalize upd H6 sp (.lst (ns.map fun s => .int (s : Nat))) = H7 at L0 fold ok1 old0 ⊢
    refine for_list (xs := ns.map fun s => V.int (s : Nat)) (fun i σ H => (∃ p4 p7 p8 p9, σ = [some (.ref x), some (.ref l), some (.ref d), none, p4, none, some (.ref kn), p7, p8, p9]) ∧ LI CM H0 H7 x dx lt td kn sp xs ns m i H)
      ⟨⟨none, none, none, none, rfl⟩, L0⟩ (fun i σ H _ h => SqL.of h.2.hsp) ?_ ?_
    · rintro i v σ H' hv ⟨⟨p4, p7, p8, p9, rfl⟩, L⟩
      rw [List.getElem?_map] at hv
      obtain ⟨s, hs, rfl⟩ : ∃ s, ns[i]? = some s ∧ V.int ((s : Nat) : Int) = v := by
        cases z : ns[i]? with
        | none => rw [z] at hv; cases hv
        | some s => rw [z] at hv; exact ⟨s, rfl, Option.some.inj hv⟩
      have hsn := List.mem_of_getElem? hs
      obtain ⟨tv, hget, tla⟩ := hdk s (nk s hsn)
      obtain ⟨a, u, rfl, ha, fl, fx, rfl, _, hfl, pfx⟩ := tla
      have lfx := Paired.len pfx
      refine ⟨_, rfl, _, rfl, d, _, rfl, hget ▸ DGet.k (k := Sum.inl ((s : Nat) : Int)) (L.s0 _ _ hd), a, _, rfl, SqT.of (L.s0 _ _ ha), rfl, _, _, rfl, _, _, rfl, rfl, ?_⟩
      obtain ⟨kxs, hkn, pk⟩ := L.hkn
      have ets : ns.take (i + 1) = ns.take i ++ [s] := by rw [List.take_add_one, hs]; rfl
      have hfm : ((m.tail s).1).length ≤ 70 ∧ kxs.length ≤ 70 := by
        have e2 : ns = ns.take (i + 1) ++ ns.drop (i + 1) := (List.take_append_drop _ _).symm
        unfold known at kln
        rw [e2, ets, List.flatMap_append, List.flatMap_append, List.flatMap_cons, List.flatMap_nil] at kln
        simp only [List.length_append, List.length_nil] at kln
        have e3 := Paired.len pk
        rw [List.length_append] at e3
        omega
      have z9 := szM
      refine ⟨_, rfl, _, rfl, kn, fl, kxs, fx, rfl, rfl, hkn, L.s0 _ _ hfl, by omega, ?_⟩
      have bkn : ∀ b o, H0 b = some o → upd H' kn (.lst (kxs ++ fx)) b = some o := fun b o e => Same.over L.s0 o3 _ _ e
      refine ⟨_, rfl, _, rfl, _, rfl, s, _, NoF, (m.tail s).1, (m.tail s).2, rfl, ⟨fl, fx, rfl, fun z => z, bkn _ _ hfl, Paired.mono (fun _ _ => PlAt.mono bkn) pfx⟩, fun sv H2 s2 htl => ?_⟩
      have st : LI CM H0 H7 x dx lt td kn sp xs ns m i H' → True := fun _ => trivial
      have old2 : ∀ b, H7 b ≠ none → upd H' kn (.lst (kxs ++ fx)) b ≠ none := fun b hb => by
        by_cases z : b = kn
        · rw [z, upd_same]; exact fun z => nomatch z
        · rw [upd_ne z]; exact L.old b hb
      have htl : TlAt (Old H7) H2 sv (m.canon.tail s) := htl.sub old2
      have bl1 : Bl (Old H7) H' (upd H' kn (.lst (kxs ++ fx))) := Bl.put hkn (fun _ z => nomatch z) fun _ _ => ok1
      have b2 : ∀ b o, b ≠ kn → H' b = some o → H2 b = some o := fun b o n e => s2 _ _ (by rw [upd_ne n]; exact e)
      have nkx : x ≠ kn := fun z => by have := L.hx; rw [z, hkn] at this; cases this
      have nkt : td ≠ kn := fun z => by obtain ⟨kv, e, _⟩ := L.htd; rw [z, hkn] at e; cases e
      have hkn2 : H2 kn = some (.lst (kxs ++ fx)) := s2 _ _ upd_same
      have pk2 : Paired (PlAt H2) (kxs ++ fx) (m.things ++ (ns.take (i + 1)).flatMap fun s => (m.tail s).1) := by
        rw [ets, List.flatMap_append, List.flatMap_cons, List.flatMap_nil, List.append_nil, ← List.append_assoc]
        refine Paired.app (Paired.mono (fun _ _ q => PlAt.mono s2 (bl1.pl q)) pk) (Paired.mono (fun _ _ q => PlAt.mono s2 (PlAt.mono bkn q)) pfx)
      obtain ⟨kv, htd, dct⟩ := L.htd
      have htd2 := b2 _ _ nkt htd
      have dct2 : DcAt (Old H7) H2 kv ((ns.take i).filter fun s => decide (m.canon.tail s ≠ ([], 0))) m.canon.tail := (Bl.same s2).dc (bl1.dc dct)
      have hx2 := b2 _ _ nkx L.hx
      have hlt2 := b2 _ _ (Ne.symm nkl) L.hlt
      have hsp2 := b2 _ _ (Ne.symm nks) L.hsp
      have fin : ∀ (H3 : Hp) kv', (∀ b o, b ≠ td → H2 b = some o → H3 b = some o) → H3 td = some (.dK kv') → DcAt (Old H7) H3 kv' ((ns.take (i + 1)).filter fun s => decide (m.canon.tail s ≠ ([], 0))) m.canon.tail → LI CM H0 H7 x dx lt td kn sp xs ns m (i + 1) H3 := fun H3 kv' b3 e3 d3 => by
        have ntx : x ≠ td := ne_of hx2 htd2 fun z => nomatch z
        have ntl : lt ≠ td := ne_of hlt2 htd2 fun z => nomatch z
        have nts : sp ≠ td := ne_of hsp2 htd2 fun z => nomatch z
        have ntk : kn ≠ td := Ne.symm nkt
        refine ⟨fun b o e => b3 _ _ (ne_of_none e o2) (s2 _ _ (bkn _ _ e)), fun b hb z => ?_, b3 _ _ ntx hx2, b3 _ _ ntl hlt2, b3 _ _ nts hsp2, ⟨_, b3 _ _ ntk hkn2, ?_⟩, ⟨_, e3, d3⟩⟩
        · by_cases zt : b = td
          · rw [zt, e3] at z; cases z
          · cases e : upd H' kn (.lst (kxs ++ fx)) b with
            | none => exact old2 b hb e
            | some o => rw [b3 _ _ zt (s2 _ _ e)] at z; cases z
        · exact Paired.mono (fun _ _ q => PlAt.but (fun b xs e => b3 _ _ (ne_of e htd2 fun z => nomatch z) e) q) pk2
      have efl : ∀ b : Bool, decide (m.canon.tail s ≠ ([], 0)) = b → (ns.take (i + 1)).filter (fun s => decide (m.canon.tail s ≠ ([], 0))) = (ns.take i).filter (fun s => decide (m.canon.tail s ≠ ([], 0))) ++ (if b = true then [s] else []) := fun b e => by
        rw [ets, List.filter_append, List.filter_cons, e, List.filter_nil]
      refine ⟨_, rfl, Nat.zero_le _, fun p1 hp1 => ⟨sz2, fun p2 hp2 => ?_⟩⟩
      have s3 := (Same.new (o := .lst []) hp1).trans (Same.new (o := .tup [.ref p1, .int 0]) hp2)
      have q1 : upd (upd H2 p1 (.lst [])) p2 (.tup [.ref p1, .int 0]) p1 = some (.lst []) := by rw [upd_ne (ne_of_none upd_same hp2)]; exact upd_same
      have q2 : upd (upd H2 p1 (.lst [])) p2 (.tup [.ref p1, .int 0]) p2 = some (.tup [.ref p1, .int 0]) := upd_same
      generalize upd (upd H2 p1 (.lst [])) p2 (.tup [.ref p1, .int 0]) = H3 at s3 q1 q2 ⊢
      have htl3 : TlAt (Old H7) H3 sv (m.canon.tail s) := (Bl.same s3).tl htl
      have dct3 := (Bl.same s3).dc dct2
      refine ⟨dTl (m.canon.tail s), dTl ([], 0), dTl_at htl3, .tup (SqT.of q2) (.cons (.lst (SqL.of q1) .nil) (.cons (.int _) .nil)), dTl_shaped _, dTl_shaped _, _, rfl, ?_⟩
      rw [eqv_nil]
      by_cases hc : m.canon.tail s = ([], 0)
      · rw [decide_eq_true hc]
        refine iteN ⟨⟨_, _, _, _, rfl⟩, fin H3 kv (fun b o _ e => s3 _ _ e) (s3 _ _ htd2) ?_⟩
        rw [efl false (decide_eq_false fun z => z hc), if_neg (by decide), List.append_nil]
        exact dct3
      · rw [decide_eq_false hc]
        have hnew : s ∉ (ns.take i).filter fun s => decide (m.canon.tail s ≠ ([], 0)) := fun z => by
          have z := (List.mem_filter.mp z).1
          have e2 : ns = ns.take (i + 1) ++ ns.drop (i + 1) := (List.take_append_drop _ _).symm
          rw [e2, ets] at nnd
          have := (List.nodup_append.mp (List.nodup_append.mp nnd).1).2.2 s z s (List.mem_singleton.mpr rfl)
          exact this rfl
        have kvl : kv.length < sizeLine := by
          have e1 := Paired.len dct
          have e2 := List.length_filter_le (fun s => decide (m.canon.tail s ≠ ([], 0))) (ns.take i)
          have e3 : (ns.take i).length ≤ ns.length := by rw [List.length_take]; omega
          have e4 : ns.length ≤ 9 := by rw [← ens]; exact Nat.le_trans (List.length_filter_le _ _) (by rw [List.length_range]; exact Nat.le_refl _)
          omega
        refine iteM ⟨_, rfl, _, rfl, x, CM, dx, _, _, rfl, s3 _ _ hx2, TM.cl, TM.nTa, mf_tails, _, rfl, td, _, rfl, DPut.k (k := Sum.inl ((s : Nat) : Int)) (s3 _ _ htd2) kvl, ⟨⟨_, _, _, _, rfl⟩, ?_⟩⟩
        rw [putK_new sv ((DcAt.get (s := s) dct).2 hnew)]
        refine fin _ _ (fun b o n e => by rw [upd_ne n]; exact s3 _ _ e) upd_same ?_
        rw [efl true (decide_eq_true hc), if_pos rfl]
        have bl2 : Bl (Old H7) H3 (upd H3 td (.dK (kv ++ [(Sum.inl ((s : Nat) : Int), sv)]))) := Bl.put (s3 _ _ htd2) (fun _ z => nomatch z) fun _ z => nomatch z
        exact dc_snoc (bl2.dc dct3) (bl2.tl htl3)
    · rintro σ H' ⟨⟨p4, p7, p8, p9, rfl⟩, L⟩
      have elen : ns.take (ns.map fun s => V.int (s : Nat)).length = ns := List.take_of_length_le (by rw [List.length_map]; exact Nat.le_refl _)
      obtain ⟨kxs, hkn, pk⟩ := L.hkn
      obtain ⟨kv, htd, dct⟩ := L.htd
      rw [elen] at pk dct
      have pk : Paired (PlAt H') kxs (known m ns) := pk
      have lk := Paired.len pk
      have z9 := szM
      have kill : ∀ ta, ta = tLenSetP K (tVar 6) → True := fun _ _ => trivial
      refine ⟨_, rfl, kn, kxs, known m ns, rfl, SqL.of hkn, pk, known_nodup g hz nnd, kln, ?_⟩
      refine ⟨_, rfl, kn, _, rfl, .inl (SqL.of hkn), _, _, rfl, rfl, _, rfl, ?_⟩
      rw [decide_eq_false (show ¬ ((known m ns).length : Int) < (kxs.length : Int) by omega)]
      refine iteF ⟨_, rfl, kn, rfl, ⟨_, SqL.of hkn⟩, fun D3 hD3 => lc_trues (xs := kxs) hD3 hkn (by omega) (fun _ => rfl) ?_ ?_⟩
      · rintro y hy H3 s' Q' k'
        obtain ⟨j, hj⟩ := List.getElem?_of_mem hy
        obtain ⟨p, hp, q⟩ := Paired.at_ pk hj
        have t3 := L.s0.trans s'
        refine ⟨_, rfl, x, dx, _, rfl, s' _ _ L.hx, mf_taken, _, rfl, _, rfl, _, d, _, p, kvs, ks, m.tail, rfl, q.mono s', t3 _ _ hd, (Bl.same t3).dc hk, known_taken g hz hn ?_, fun H4 s4 => k' _ s4⟩
        have hp := List.mem_of_getElem? hp
        unfold known at hp ⊢
        rcases List.mem_append.mp hp with h | h
        · exact List.mem_append_left _ h
        · obtain ⟨s, h1, h2⟩ := List.mem_flatMap.mp h
          exact List.mem_append_right _ (List.mem_flatMap.mpr ⟨s, nk s h1, h2⟩)
      rintro H8 s8 hD8
      refine ⟨D3, _, rfl, SqL.reps hD8, _, rfl, ?_⟩
      rw [all_rep]
      refine iteF ?_
      have t8 := L.s0.trans s8
      have etouch : ns.filter (fun s => decide (m.canon.tail s ≠ ([], 0))) = touched m.canon.tail := by
        unfold touched
        rw [← ens, List.filter_filter]
        refine List.filter_congr fun s _ => ?_
        by_cases hs : s ∈ ks
        · rw [decide_eq_true hs, Bool.and_true]
        · have : m.canon.tail s = ([], 0) := by show short s (m.tail s).1 (m.tail s).2 = _; rw [hn s hs]; rfl
          rw [this]; rfl
      rw [etouch] at dct
      have sub0 : ∀ b, Old H0 b → Old H7 b := old0
      exact k _ t8 ⟨x, dx, lt, td, xs, kv, rfl, s8 _ _ L.hx, fun z => z o1, s8 _ _ L.hlt, Paired.mono (fun _ _ => PlAt.mono t8) px, s8 _ _ htd, ((Bl.same s8).dc dct).sub sub0⟩
end
end Wd
set_option Elab.async false
set_option linter.all false
set_option maxRecDepth 100000
set_option maxHeartbeats 4000000
/-! operators that a class of the text defines: ==, !=, +, *, in, [], bool() -/
namespace Wd
open PySem L2 PySem.Spec PyProof.Rows
/-- the class's own nm -/
structure OwnM (K : PySem.W.Frag) (C : Addr) (nm : Str) (f : Addr) : Prop where
  fi : PySem.W.findIn K (.ref C) nm = some (some (.ref f))
  fn : PySem.W.isFn K (.ref f) = true
section
variable {X : Cx} {pins : List (Addr × Obj)} {σ : L2.St} {H : Hp} {s : Shared} {CX : CXT} {k : Nat} {C f : Addr} {fd : FuncData} {ps : List Str} {sp : Sp} {E : XK}
theorem inst_of {a dx : Addr} {fs : List (Str × V)} (I : Inv X pins σ H s) (ha : H a = some (.ins C dx fs)) : ∃ od, PySem.W.InstAt s.heap a (PySem.W.instObj C dx) C (some od) := by
  obtain ⟨mA, J, _⟩ := ins_get I.hok ha
  obtain ⟨od, J, _⟩ := J.look
  exact ⟨od, J⟩
theorem run_at {A : Around} {Q : VK} {us : List Value} {vs : List V} (F : FnOk X.prog X.w X.K X.mg X.base CX k f fd ps sp) (hr : Room k A) (e0 : Env0 X.prog X.w X.K X.mg X.base A X.stack s H) (hb : Binds X.K fd ps []) (hx : Passes CX X E)
    (I : Inv X pins σ H s) (r : Vals vs us) (h : sp vs H Q E) : wpAny (model X.prog X.w) A (call (.ref f) us) (EP X pins σ Q) X.xe s := by
  have hl : us.length = ps.length := by rw [← r.length]; exact F.len _ _ _ _ h
  have hb' := hb s us I.kIn (by simpa using hl)
  rw [List.append_nil] at hb'
  refine wpAny_call (codeAny_mono (F.run A X.stack s H ⟨us, []⟩ us vs Q E hr e0 hb' r h) fun r s' hq => ?_)
  cases r with
  | error e => exact hx pins σ H s e s' I hq
  | ok fl =>
    cases fl with
    | ret u => exact I.after hq
    | next => exact False.elim hq
    | brk => exact False.elim hq
    | cont => exact False.elim hq
/-- two instances of the class -/
def rOwnB (C : Addr) (sp : Sp) (E : XK) : R2 := fun x y H Q => ∃ a b dx dy fs gs, x = .ref a ∧ y = .ref b ∧ H a = some (.ins C dx fs) ∧ H b = some (.ins C dy gs) ∧ sp [x, y] H (fun v H' => ∃ c, v = .bl c ∧ Q v H') E
theorem op_eqOwn (F : FnOk X.prog X.w X.K X.mg X.base CX k f fd ps sp) (hr : Room k X.A) (hb : Binds X.K fd ps []) (hx : Passes CX X E) (O : OwnM X.K C "__eq__" f) : OpR X (compareOp .Eq) (rOwnB C sp E) := by
  intro pins s σ H x y v u Q I rx ry h
  obtain ⟨a, b, dx, dy, fs, gs, rfl, rfl, ha, hb', q⟩ := h
  cases rx
  cases ry
  obtain ⟨od, J⟩ := inst_of I ha
  obtain ⟨od', J'⟩ := inst_of I hb'
  obtain ⟨m, hF⟩ := I.fr
  refine PySem.W.cmp_K (op := .Eq) (tb := .ref C) hr.units0 hF I.ok.mod.kin J J'.type (by simp [PySem.W.notFirst]) O.fi O.fn ?_
  refine wpAny_mono (run_at F hr I.env0 hb hx I (.cons rfl (.cons rfl .nil) : Vals [.ref a, .ref b] [.ref a, .ref b]) q) (fun r s' z => ?_) fun _ _ e => e
  obtain ⟨v, H', I', rv, c, rfl, q'⟩ := z
  cases rv
  exact ⟨.bl c, H', I', rfl, q'⟩
/-- an instance of the class, and a list -/
def rOwnL (K : PySem.W.Frag) (C : Addr) (sp : Sp) (E : XK) : R2 := fun x y H Q => ∃ a b dx fs xs, x = .ref a ∧ y = .ref b ∧ H a = some (.ins C dx fs) ∧ SqL K H b xs ∧ sp [x, y] H (fun v H' => ∃ c, v = .bl c ∧ Q v H') E
theorem op_eqOwnL (F : FnOk X.prog X.w X.K X.mg X.base CX k f fd ps sp) (hr : Room k X.A) (hb : Binds X.K fd ps []) (hx : Passes CX X E) (O : OwnM X.K C "__eq__" f) (hn : PySem.W.notFirst X.K C (.type "list") = true) : OpR X (compareOp .Eq) (rOwnL X.K C sp E) := by
  intro pins s σ H x y v u Q I rx ry h
  obtain ⟨a, b, dx, fs, xs, rfl, rfl, ha, hb', q⟩ := h
  cases rx
  cases ry
  obtain ⟨od, J⟩ := inst_of I ha
  obtain ⟨its, rv', pl, hz⟩ := I.list hb'
  obtain ⟨m, hF⟩ := I.fr
  refine PySem.W.cmp_K (op := .Eq) (tb := .type "list") hr.units0 hF I.ok.mod.kin J ?_ hn O.fi O.fn ?_
  · obtain ⟨o, ho, hc, _⟩ := pl.isList
    exact (PySem.W.Looks.ld ho).andThen (by rw [hc]; exact .now)
  refine wpAny_mono (run_at F hr I.env0 hb hx I (.cons rfl (.cons rfl .nil) : Vals [.ref a, .ref b] [.ref a, .ref b]) q) (fun r s' z => ?_) fun _ _ e => e
  obtain ⟨v, H', I', rv, c, rfl, q'⟩ := z
  cases rv
  exact ⟨.bl c, H', I', rfl, q'⟩
/-- the value of an operation is an object -/
def rOwnS (C : Addr) (sp : Sp) (E : XK) : R2 := fun x y H Q => ∃ a b dx dy fs gs, x = .ref a ∧ y = .ref b ∧ H a = some (.ins C dx fs) ∧ H b = some (.ins C dy gs) ∧ sp [x, y] H (fun v H' => ∃ c, v = .ref c ∧ Q v H') E
theorem op_addOwn (F : FnOk X.prog X.w X.K X.mg X.base CX k f fd ps sp) (hr : Room k X.A) (hb : Binds X.K fd ps []) (hx : Passes CX X E) (O : OwnM X.K C "__add__" f) (hc : PySem.W.selfFirst X.K C = true) : OpR X (binaryOp .Add) (rOwnS C sp E) := by
  intro pins s σ H x y v u Q I rx ry h
  obtain ⟨a, b, dx, dy, fs, gs, rfl, rfl, ha, hb', q⟩ := h
  cases rx
  cases ry
  obtain ⟨od, J⟩ := inst_of I ha
  obtain ⟨od', J'⟩ := inst_of I hb'
  obtain ⟨m, hF⟩ := I.fr
  refine PySem.W.binop_K hF I.ok.mod.kin J J'.type hc O.fi O.fn ?_
  refine wpAny_mono (run_at F hr I.env0 hb hx I (.cons rfl (.cons rfl .nil) : Vals [.ref a, .ref b] [.ref a, .ref b]) q) (fun r s' z => ?_) fun _ _ e => e
  obtain ⟨v, H', I', rv, c, rfl, q'⟩ := z
  cases rv
  exact ⟨.ref c, H', I', rfl, q'⟩
def rOwnN (C : Addr) (sp : Sp) (E : XK) : R2 := fun x y H Q => ∃ a dx fs i, x = .ref a ∧ y = .int i ∧ H a = some (.ins C dx fs) ∧ sp [x, y] H (fun v H' => ∃ c, v = .ref c ∧ Q v H') E
theorem op_mulOwn (F : FnOk X.prog X.w X.K X.mg X.base CX k f fd ps sp) (hr : Room k X.A) (hb : Binds X.K fd ps []) (hx : Passes CX X E) (O : OwnM X.K C "__mul__" f) (hc : PySem.W.selfFirst X.K C = true)
    (hrm : PySem.W.findIn X.K (.ref C) "__rmul__" = some none) {fo ro : Option Value} (h1 : PySem.W.findIn X.K (.type "int") "__mul__" = some fo) (h2 : PySem.W.findIn X.K (.type "int") "__rmul__" = some ro) (hsub : PySem.W.subIn X.K (.type "int") (.ref C) = some false) :
    OpR X (binaryOp .Mult) (rOwnN C sp E) := by
  intro pins s σ H x y v u Q I rx ry h
  obtain ⟨a, dx, fs, i, rfl, rfl, ha, q⟩ := h
  cases rx
  obtain ⟨t, rfl⟩ := ry
  obtain ⟨od, J⟩ := inst_of I ha
  obtain ⟨m, hF⟩ := I.fr
  refine PySem.W.ksp_binT (T := "int") (op := .Mult) hF I.ok.mod.kin J rfl hc O.fi O.fn hrm (.inl rfl) h1 h2 hsub ?_
  refine wpAny_mono (run_at F hr I.env0 hb hx I (.cons rfl (.cons ⟨t, rfl⟩ .nil) : Vals [.ref a, .int i] [.ref a, .int i t]) q) (fun r s' z => ?_) fun _ _ e => e
  obtain ⟨v, H', I', rv, c, rfl, q'⟩ := z
  cases rv
  exact ⟨.ref c, H', I', rfl, q'⟩
/-- v in an instance -/
def rOwnIn (C : Addr) (sp : Sp) (E : XK) : R2 := fun x y H Q => ∃ a dx fs, y = .ref a ∧ H a = some (.ins C dx fs) ∧ sp [y, x] H (fun v H' => ∃ c, v = .bl c ∧ Q v H') E
theorem op_inOwn (F : FnOk X.prog X.w X.K X.mg X.base CX k f fd ps sp) (hr : Room k X.A) (hb : Binds X.K fd ps []) (hx : Passes CX X E) (O : OwnM X.K C "__contains__" f) : OpR X (compareOp .In) (rOwnIn C sp E) := by
  intro pins s σ H x y v u Q I rx ry h
  obtain ⟨a, dx, fs, rfl, ha, q⟩ := h
  cases ry
  obtain ⟨od, J⟩ := inst_of I ha
  obtain ⟨m, hF⟩ := I.fr
  refine PySem.W.in_K hF I.ok.mod.kin J O.fi O.fn ?_
  refine wpAny_mono (run_at F hr I.env0 hb hx I (.cons rfl (.cons rx .nil) : Vals [.ref a, x] [.ref a, v]) q) (fun r s' z => ?_) fun _ _ e => e
  obtain ⟨v, H', I', rv, c, rfl, q'⟩ := z
  cases rv
  exact wpAny_truthy_bool ⟨.bl c, H', I', rfl, q'⟩
/-- x[i] of an instance -/
def rOwnIx (C : Addr) (sp : Sp) (E : XK) : R2 := fun x y H Q => ∃ a dx fs, x = .ref a ∧ H a = some (.ins C dx fs) ∧ sp [x, y] H Q E
theorem pe_ixOwn {a b : Expr} {ta tb : TE} {pos : Pos} (F : FnOk X.prog X.w X.K X.mg X.base CX k f fd ps sp) (hr : Room (k + 1) X.A) (hb : Binds X.K fd ps []) (hx : Passes CX X E) (O : OwnM X.K C "__getitem__" f) (hfn : PySem.W.fnIn X.K f = true)
    (ha : PE X a ta) (hb' : PE X b tb) (hs : ∀ o i, subscripted b true o i = runValue (.builtin "lifetime.subscript" ⟨[o, i], []⟩)) : PE X (.Subscript a b pos) (tOp (rOwnIx C sp E) ta tb) := by
  refine ⟨fun pins s σ H Q I h => ?_⟩
  refine Subscript_ (binT ha hb' I h fun v u s2 x y H2 I2 rx ry q => ?_)
  obtain ⟨a, dx, fs, rfl, ha, q⟩ := q
  cases rx
  obtain ⟨od, J⟩ := inst_of I2 ha
  obtain ⟨m, hF⟩ := I2.fr
  exact PySem.W.sub_K hF I2.ok.mod.kin J O.fi hfn O.fn (run_at F hr.in1 I2.env0.in1 hb hx I2 (.cons rfl (.cons ry .nil) : Vals [.ref a, y] [.ref a, u]) q) (hs _ _)
/-! ### != through object.__ne__ -/
theorem ifBound_ne {M : Model} {A : Around} {E : Value → Shared → Prop} {K : PySem.W.Frag} {x : Addr} {ox : Obj} {od : Option Obj} {args : List Value} {Q : Option Value → Shared → Prop} (X : K.In s.heap) (I : PySem.W.InstAt s.heap x ox C od) (hs : PySem.W.findIn K (.ref C) "__ne__" = some (some (.builtin "object.__ne__")))
    (h : wpAny M A (call (.builtin "object.__ne__") (.ref x :: args)) (fun v => Q (some v)) E s) : wpAny M A (callSpecialIfBound? (.ref x) "__ne__" args) Q E s := by
  simp only [callSpecialIfBound?, bindSpecialIfBound?]
  refine wpAny_holding (wpAny_bind (wpAny_bind (wpAny_bind (I.type.here ((PySem.W.looks_findIn X hs).here ?_)))))
  refine wpAny_bind (wpAny_askSetting (wpAny_ite ?_))
  have fin : wpAny M A (call (.builtin "object.__ne__") ([.ref x] ++ args) >>= fun v => pure (some v)) Q E s := wpAny_bind (wpAny_mono h (fun v s' h' => wpAny_pure h') fun _ _ h' => h')
  split
  · exact wpAny_bind (wpAny_of_eq (F.cmp_object.ne.bind _) (wpAny_pure (by exact fin)))
  · exact wpAny_tryCatch (wpAny_bind (wpAny_of_eq (F.cmp_object.ne.bind _) (wpAny_pure (by exact fin))))
theorem entry_ne {prog : Program} {w : World} {A : Around} {E : Value → Shared → Prop} {K : PySem.W.Frag} {x : Addr} {b : Value} {ox : Obj} {od : Option Obj} {Q : Fin → Shared → Prop} (hu : A.units < cLine) (X : K.In s.heap) (I : PySem.W.InstAt s.heap x ox C od) (O : OwnM K C "__eq__" f)
    (h : wpAny (model prog w) A (call (.ref f) [.ref x, b]) (fun v s' => ∃ c, v = .bool c ∧ Q (.done (.ret (.bool (!c)))) s') E s) : wpAny (model prog w) A (Builtin.«object.__ne__» ⟨[.ref x, b], []⟩) Q E s := by
  unfold Builtin.«object.__ne__»
  repeat (first
    | with_reducible refine wpAny_cRoomFor hu ?_
    | (refine wpAny_bind (m := callSpecialIfBound? (.ref x) (Str.ofString "__eq__") [b])
        (PySem.W.ifBound_K X I O.fi O.fn (wpAny_mono h (fun r s' hr => by
          obtain ⟨c, rfl, hq⟩ := hr
          repeat (first | exact hq | exact wpAny_pure hq | exact wpAny_truthy_bool hq | (refine wpAny_bind (m := truthy (.bool _)) (wpAny_truthy_bool ?_)) | wp_step)) fun _ _ e => e)))
    | wp_step)
theorem op_neOwn (G : FnOk X.prog X.w X.K X.mg X.base CX k f fd ps sp) (hr : Room (k + 1) X.A) (hb : Binds X.K fd ps []) (hx : Passes CX X E) (O : OwnM X.K C "__eq__" f) (hn : PySem.W.findIn X.K (.ref C) "__ne__" = some (some (.builtin "object.__ne__"))) (hm : PySem.W.mroIn X.K C (.type "object") = some true) :
    OpR X (compareOp .NotEq) (fun x y H Q => rOwnB C sp E x y H (fun v H' => ∃ c, v = .bl c ∧ Q (.bl (!c)) H')) := by
  intro pins s σ H x y v u Q I rx ry h
  obtain ⟨a, b, dx, dy, fs, gs, rfl, rfl, ha, hb', q⟩ := h
  cases rx
  cases ry
  obtain ⟨od, J⟩ := inst_of I ha
  obtain ⟨od', J'⟩ := inst_of I hb'
  have one : wpAny (model X.prog X.w) X.A (tryCompare (.ref a) "__ne__" (.ref b)) (fun r s' => ∃ v, r = some v ∧ EP X pins σ Q v s') X.xe s := by
    unfold tryCompare
    refine wpAny_bind (ifBound_ne I.kIn J hn (wpAny_call (codeAny_call_builtin F.cmp_object.ne.plain F.cmpEntry_ne (PySem.W.check_slot F.cmpKind_ne F.cmpSplit_ne (J.type.andThen (PySem.W.looks_mroIn I.kIn hm)) (F.cmpArgs_ne _ _) (entry_ne hr.in1.units0 I.kIn J O ?_)))))
    refine wpAny_mono (run_at G hr.in1 I.env0.in1 hb hx I (.cons rfl (.cons rfl .nil) : Vals [.ref a, .ref b] [.ref a, .ref b]) q) (fun r s' z => ?_) fun _ _ e => e
    obtain ⟨v, H', I', rv, c, rfl, q'⟩ := z
    cases rv
    obtain ⟨c', e, q'⟩ := q'
    cases e
    exact ⟨c, rfl, wpAny_pure ⟨_, rfl, .bl (!c), H', I', rfl, q'⟩⟩
  show wpAny (model X.prog X.w) X.A (richCompare .NotEq (.ref a) (.ref b)) (EP X pins σ Q) X.xe s
  unfold richCompare
  simp only [oneThing_ref]
  refine wpAny_holding (wpAny_bind (wpAny_cRoomFor hr.units0 ?_))
  refine wpAny_bind (J.type.here (wpAny_bind (J'.type.here ?_)))
  rw [show (Value.ref C != Value.ref C) = false from by simp]
  simp only [Bool.false_eq_true, if_false]
  refine wpAny_bind (wpAny_pure ?_)
  simp only [Bool.false_eq_true, if_false]
  refine wpAny_bind (wpAny_mono one (fun r s' z => ?_) fun _ _ e => e)
  obtain ⟨v, rfl, hq⟩ := z
  exact wpAny_pure hq
/-! ### bool() -/
theorem meets_boolOwn {prog : Program} {w : World} {x : Value} : PySem.MeetsIn prog w (Builtin.«bool.__new__» ⟨[.type "bool", x], []⟩)
    (fun A R s => wpAny (model prog w) A.in1 (truthy x) (fun b s' => R (.ok (.ret (.bool b))) s') (fun e s' => R (.error e) s') s) :=
  PySem.MeetsIn.of_wp fun A R s hs => by
    obtain ⟨hp, g, d, tk, os⟩ := s
    have f1 := F.conv_sub_bool
    repeat (any_goals (first | assumption | (refine wpAny_bind (m := truthy x) (wpAny_mono hs (fun b s' hb => ?_) fun _ _ e => e)) | wp_step))
    all_goals first | exact ⟨_, rfl, hb⟩ | skip
theorem call_boolOwn (G : FnOk X.prog X.w X.K X.mg X.base CX k f fd ps sp) (hr : Room (k + 2) X.A) (hb : Binds X.K fd ps []) (hx : Passes CX X E) (O : OwnM X.K C "__bool__" f) :
    CallR X (.type "bool") (fun xs H Q => ∃ a dx fs, xs = [.ref a] ∧ H a = some (.ins C dx fs) ∧ sp [.ref a] H (fun v H' => ∃ c, v = .bl c ∧ Q v H') E) := by
  intro pins s σ H xs us Q I r h
  obtain ⟨a, dx, fs, rfl, ha, q⟩ := h
  obtain ⟨u, rfl, ru⟩ := vals1 r
  cases ru
  obtain ⟨od, J⟩ := inst_of I ha
  obtain ⟨m, hF⟩ := I.fr
  refine PySem.callType_newIn F.called_bool F.newNe_bool (F.typeCall_bool_1 _) (F.newCall_bool_1 _) (fun obj => F.args_object_init_2 obj _) F.entry_bool_new meets_boolOwn ?_
  refine PySem.W.truthy_K hF I.ok.mod.kin J O.fi O.fn ?_
  refine wpAny_mono (run_at G hr.in1.in1 I.env0.in1.in1 hb hx I (.cons rfl .nil : Vals [.ref a] [.ref a]) q) (fun r s' z => ?_) fun _ _ e => e
  obtain ⟨v, H', I', rv, c, rfl, q'⟩ := z
  cases rv
  exact ⟨rfl, .bl c, H', I', rfl, q'⟩
end
end Wd
set_option Elab.async false
set_option linter.all false
set_option maxRecDepth 100000
set_option maxHeartbeats 4000000
/-! most_object, then, identity, == -/
namespace Wd
open PySem L2 Mv
/-- [.. for x in xs], item by item of a told kind -/
theorem lc_map {A : Type} {R : Hp → V → A → Prop} (mono : ∀ {H H' : Hp} {v : V} {b : A}, (∀ c zs, H c = some (.tup zs) → H' c = some (.tup zs)) → R H v b → R H' v b) {K : PySem.W.Frag} {a : Addr} {xs : List V} (bs : List A) {i : Nat} {te : TE} {vs : List Nat} {σ : L2.St} {H1 : Hp} {D : Addr} {Qd : Hp → Prop} (hD : H1 D = none) (hl : H1 a = some (.lst xs)) (hb : xs.length = bs.length) (hn : xs.length ≤ 1000)
    (hw : ∀ x, wipe ((wipe σ vs).set i (some x)) vs = wipe σ vs)
    (hs : ∀ (j : Nat) (x : V) (b : A), xs[j]? = some x → bs[j]? = some b → ∀ H', Same H1 H' → ∀ Q' : VK, (∀ y H'', Same H' H'' → R H'' y b → Q' y H'') → te ((wipe σ vs).set i (some x)) H' Q')
    (hd : ∀ H' ys, Same H1 H' → H' D = some (.lst ys) → Paired (R H') ys bs → Qd H') :
    ∃ W : Nat → Nat → Hp → Prop, (∃ m, W 0 m (upd H1 D (.lst []))) ∧ ∀ j m H, W j m H →
      ((Itl K a).stop j H ∧ Qd H) ∨ ((Itl K a).go j H ∧ ∃ Nx : Hp → Prop, (∀ H', Nx H' → ∃ m', m' < m ∧ W (j + 1) m' H') ∧ ∀ x H', (Itl K a).yld j H x H' → gName i x (wipe σ vs) H' fun σ2 H2 => wipe σ2 vs = wipe σ vs ∧ tYes σ2 H2 fun b H3 =>
        if b = true then te σ2 H3 fun y H4 => ∃ acc, H4 D = some (.lst acc) ∧ acc.length < sizeLine ∧ Nx (upd H4 D (.lst (acc ++ [y]))) else Nx H3) := by
  have z := szM
  refine lc_list (xs := xs) (fun j H' => Same H1 H' ∧ ∃ ys, H' D = some (.lst ys) ∧ ys.length = j ∧ Paired (R H') ys (bs.take j)) ⟨Same.new hD, [], upd_same, rfl, by rw [List.take_zero]; exact .nil⟩ (fun j H' _ h => SqL.of (h.1 _ _ hl)) ?_ ?_
  · rintro j x H' hx ⟨s1, ys, hD', hy, py⟩
    have hj := (List.getElem?_eq_some_iff.mp hx).1
    have hbj := List.getElem?_eq_getElem (show j < bs.length by omega)
    refine ⟨hw x, ?_⟩
    unfold tYes
    refine iteT (hs j x _ hx hbj H' s1 _ fun y H'' s2 r => ?_)
    have k2 : ∀ c zs, H'' c = some (.tup zs) → upd H'' D (.lst (ys ++ [y])) c = some (.tup zs) := fun c zs e => by
      rw [upd_ne (fun z => by rw [z, s2 _ _ hD'] at e; cases e)]; exact e
    refine ⟨_, s2 _ _ hD', by omega, fun b o e => ?_, _, upd_same, by rw [List.length_append, hy]; rfl, ?_⟩
    · rw [upd_ne (fun z => by rw [z, hD] at e; cases e)]; exact s2 _ _ (s1 _ _ e)
    · rw [List.take_add_one, hbj]
      exact Paired.app (Paired.mono (fun _ _ q => mono k2 (mono (fun c zs e => s2 _ _ e) q)) py) (.cons (mono k2 r) .nil)
  · rintro H' ⟨s1, ys, hD', hy, py⟩
    rw [hb, List.take_of_length_le (Nat.le_refl _)] at py
    exact hd H' ys s1 hD' py
/-- .. with a test, the items kept of a told kind -/
theorem lc_mapIf {A B : Type} {R : Hp → V → B → Prop} (mono : ∀ {H H' : Hp} {v : V} {b : B}, (∀ c zs, H c = some (.tup zs) → H' c = some (.tup zs)) → R H v b → R H' v b) {K : PySem.W.Frag} {a : Addr} {xs : List V} (as : List A) (f : A → Option B) {i : Nat} {tt : TT} {te : TE} {vs : List Nat} {σ : L2.St} {H1 : Hp} {D : Addr} {Qd : Hp → Prop} (hD : H1 D = none) (hl : H1 a = some (.lst xs)) (hb : xs.length = as.length) (hn : xs.length ≤ 1000)
    (hw : ∀ x, wipe ((wipe σ vs).set i (some x)) vs = wipe σ vs)
    (hs : ∀ (j : Nat) (x : V) (c : A), xs[j]? = some x → as[j]? = some c → ∀ H', Same H1 H' → ∀ (Q' : VK) (N : Hp → Prop), (f c = none → ∀ H'', Same H' H'' → N H'') → (∀ b, f c = some b → ∀ y H'', Same H' H'' → R H'' y b → Q' y H'') → tt ((wipe σ vs).set i (some x)) H' fun b H3 => if b = true then te ((wipe σ vs).set i (some x)) H3 Q' else N H3)
    (hd : ∀ H' ys, Same H1 H' → H' D = some (.lst ys) → Paired (R H') ys (as.filterMap f) → Qd H') :
    ∃ W : Nat → Nat → Hp → Prop, (∃ m, W 0 m (upd H1 D (.lst []))) ∧ ∀ j m H, W j m H →
      ((Itl K a).stop j H ∧ Qd H) ∨ ((Itl K a).go j H ∧ ∃ Nx : Hp → Prop, (∀ H', Nx H' → ∃ m', m' < m ∧ W (j + 1) m' H') ∧ ∀ x H', (Itl K a).yld j H x H' → gName i x (wipe σ vs) H' fun σ2 H2 => wipe σ2 vs = wipe σ vs ∧ tt σ2 H2 fun b H3 =>
        if b = true then te σ2 H3 fun y H4 => ∃ acc, H4 D = some (.lst acc) ∧ acc.length < sizeLine ∧ Nx (upd H4 D (.lst (acc ++ [y]))) else Nx H3) := by
  have z := szM
  refine lc_list (xs := xs) (fun j H' => Same H1 H' ∧ ∃ ys, H' D = some (.lst ys) ∧ ys.length ≤ j ∧ Paired (R H') ys ((as.take j).filterMap f)) ⟨Same.new hD, [], upd_same, Nat.le_refl _, by rw [List.take_zero]; exact .nil⟩ (fun j H' _ h => SqL.of (h.1 _ _ hl)) ?_ ?_
  · rintro j x H' hx ⟨s1, ys, hD', hy, py⟩
    have hj := (List.getElem?_eq_some_iff.mp hx).1
    have hbj := List.getElem?_eq_getElem (show j < as.length by omega)
    refine ⟨hw x, hs j x _ hx hbj H' s1 _ _ (fun e H'' s2 => ⟨s1.trans s2, ys, s2 _ _ hD', by omega, ?_⟩) fun b e y H'' s2 r => ?_⟩
    · rw [List.take_add_one, hbj, List.filterMap_append, show ((some as[j]).toList.filterMap f) = [] by show [as[j]].filterMap f = []; rw [List.filterMap_cons, e, List.filterMap_nil], List.append_nil]
      exact Paired.mono (fun _ _ q => mono (fun c zs e => s2 _ _ e) q) py
    have k2 : ∀ c zs, H'' c = some (.tup zs) → upd H'' D (.lst (ys ++ [y])) c = some (.tup zs) := fun c zs e => by
      rw [upd_ne (fun z => by rw [z, s2 _ _ hD'] at e; cases e)]; exact e
    refine ⟨_, s2 _ _ hD', by omega, fun b o e => ?_, _, upd_same, by rw [List.length_append]; show ys.length + 1 ≤ _; omega, ?_⟩
    · rw [upd_ne (fun z => by rw [z, hD] at e; cases e)]; exact s2 _ _ (s1 _ _ e)
    · rw [List.take_add_one, hbj, List.filterMap_append, show ((some as[j]).toList.filterMap f) = [b] by show [as[j]].filterMap f = [b]; rw [List.filterMap_cons, e, List.filterMap_nil]]
      exact Paired.app (Paired.mono (fun _ _ q => mono k2 (mono (fun c zs e => s2 _ _ e) q)) py) (.cons (mono k2 r) .nil)
  · rintro H' ⟨s1, ys, hD', hy, py⟩
    rw [hb, List.take_of_length_le (Nat.le_refl _)] at py
    exact hd H' ys s1 hD' py
def wt (m : Mvd) : Nat := m.things.length + ((List.range 9).flatMap fun s => (m.tail s).1).length
def ofObj : Pl → Option Nat
  | .obj i => some i
  | .pool _ _ => none
theorem mf_things {lt td : Addr} : (mf lt td).lookup ("things" : Str) = some (.ref lt) := by kernel_rfl
theorem touched_wt (m : Mvd) : m.things.length + ((touched m.tail).flatMap fun s => (m.tail s).1).length ≤ wt m := by
  have := flat_filter (fun s => (m.tail s).1) (fun s => decide (m.tail s ≠ ([], 0))) (List.range 9)
  unfold wt touched
  omega
section
variable {P : Program} {w : World} {K : PySem.W.Frag} {mg : Str → Option Value} {base : Heap} {f C CM fMI : Addr} {fd fdMI : FuncData} {H : Hp}
def spMostObject (CM : Addr) : Sp := fun vs H Q _ => ∃ (v : V) (m : Mvd), vs = [v] ∧ MvAt CM NoF H v m ∧ wt m ≤ 900 ∧ ∀ (r : Int) H', Same H H' → (∀ i : Nat, Pl.obj i ∈ known m (touched m.tail) → (i : Int) ≤ r) → (r = -1 ∨ ∃ i : Nat, Pl.obj i ∈ known m (touched m.tail) ∧ r = (i : Int)) → Q (.int r) H'
theorem sc_MoveMostObject : FnScope ["self", "known", "front", "fresh", "place"] ["self"] (defScope sMoveMostObject) := ⟨rfl, rfl, rfl, by decide +kernel, rfl, by decide +kernel, by decide +kernel⟩
theorem ok_MostObject (D : DefM K CM "most_object" "Move.most_object" sMoveMostObject ["self"] f fd) (B : Blt mg) (TM : MCl K mg CM fMI fdMI) : FnOk P w K mg base CX0 1 f fd ["self"] (spMostObject CM) := by
  refine D.fn.ok sc_MoveMostObject (fun vs H Q E h => ?_) (fun cdv A outer s H vs Q E hr h => ?_)
  · obtain ⟨v, m, rfl, _⟩ := h; rfl
  · obtain ⟨v, m, rfl, ⟨a, dx, lt, d, xs, kvs, rfl, ha, _, hlt, px, hd, hk⟩, hw, k⟩ := h
    refine ⟨_, (pss_cons (ps_set (i := 1) sc_MoveMostObject.nd rfl (.inl rfl) (pe_callTy call_list_of (by rfl) B.list PyProof.Rows.boot_list (pa_cons (pe_fld (pv 0) rfl) pa_nil))) (pss_cons (ps_lock (ps_for PassesOwn.never rfl (pi_values (pe_fld (pv 0) rfl)) (pg_tup rfl (pgs_cons (pg_name (i := 2) sc_MoveMostObject.nd rfl (.inl rfl)) (pgs_cons (pg_name (i := 3) sc_MoveMostObject.nd rfl (.inl rfl)) pgs_nil))) (pss_one (ps_aug (i := 1) sc_MoveMostObject.nd rfl (.inl rfl) (pv 2) iop_ext)))) (pss_one (ps_ret (pe_callB (cr_max rfl) (by rfl) B.max PyProof.Rows.boot_max (pa_cons (pe_op op_cat (pe_lst (pa_cons (pe_un un_neg pe_int) pa_nil)) (pe_lc (own := [("place", 4)]) (g := gName 4)  rfl sc_MoveMostObject.nd (pi_list (pv 1)) (blkOk_by (N := ["self", "known", "front", "fresh", "place"]) (sc := defScope sMoveMostObject) (by decide +kernel)) (fun _ _ _ _ _ => pg_name (i := 4) sc_MoveMostObject.nd rfl (Or.inl rfl)) (fun _ _ _ _ _ => (pts_one (pt_cmpR op_eq (pe_ix (show IxR _ (rIxT K) from ix_tup) (pv 4) pe_int (fun _ _ => rfl)) pe_str (nomark _)))) (fun _ _ _ _ _ => (pe_ix (show IxR _ (rIxT K) from ix_tup) (pv 4) pe_int (fun _ _ => rfl))))) pa_nil)))))), ?_⟩
    have hw2 := touched_wt m
    have lx := Paired.len px
    refine ⟨_, rfl, a, CM, dx, _, _, rfl, ha, TM.cl, TM.nTh, mf_things, lt, xs, rfl, .inl (SqL.of hlt), fun kn hkn => ?_⟩
    have s1 := Same.new (o := .lst xs) hkn
    refine ⟨d, .dK kvs, s1 _ _ hd, trivial, fun od => ?_⟩
    have nkd : kn ≠ d := Ne.symm (ne_of_none hd hkn)
    refine ⟨_, rfl, a, CM, dx, _, _, rfl, (by rw [upd_ne (ne_of ha hd fun z => nomatch z)]; exact s1 _ _ ha), TM.cl, TM.nTa, mf_tails, d, od, kvs, rfl, upd_same, ?_⟩
    have lk := Paired.len hk
    have z9 := szM
    refine for_it walk_values (fun i σ H' => (∃ p2 p3, σ = [some (.ref a), some (.ref kn), p2, p3, none]) ∧ (∀ b o, b ≠ d → H b = some o → H' b = some o) ∧ H' d = some (.frz od (.dK kvs)) ∧ ∃ kxs, H' kn = some (.lst kxs) ∧ Paired (PlAt H) kxs (m.things ++ ((touched m.tail).take i).flatMap fun s => (m.tail s).1))
      ⟨⟨none, none, rfl⟩, fun b o n e => by rw [upd_ne n]; exact s1 _ _ e, upd_same, xs, by rw [upd_ne nkd]; exact upd_same, by rw [List.take_zero, List.flatMap_nil, List.append_nil]; exact px⟩ (fun i σ H' _ h => h.2.2.1) ?_ ?_
    · rintro i x σ H' H2 hi ⟨⟨p2, p3, rfl⟩, b1, hd1, kxs, hkn1, pk⟩ ⟨rfl, ky, hkv⟩
      obtain ⟨s, hs, e1, e2⟩ := Paired.at_ hk hkv
      obtain ⟨t, u, rfl, ht, fl, fx, rfl, _, hfl, pfx⟩ := e2
      have lp := Paired.len pk
      have lf := Paired.len pfx
      have ets : (touched m.tail).take (i + 1) = (touched m.tail).take i ++ [s] := by rw [List.take_add_one, hs]; rfl
      have hsz : kxs.length + fx.length ≤ 1000 := by
        have e3 : touched m.tail = (touched m.tail).take (i + 1) ++ (touched m.tail).drop (i + 1) := (List.take_append_drop _ _).symm
        rw [e3, ets, List.flatMap_append, List.flatMap_append, List.flatMap_cons, List.flatMap_nil] at hw2
        simp only [List.length_append, List.length_nil] at hw2 lp
        omega
      refine ⟨t, _, rfl, SqT.of (b1 _ _ (ne_of ht hd fun z => nomatch z) ht), rfl, _, _, rfl, _, _, rfl, rfl, ?_⟩
      have hfl1 := b1 _ _ (ne_of hfl hd fun z => nomatch z) hfl
      refine ⟨_, rfl, _, rfl, kn, fl, kxs, fx, rfl, rfl, hkn1, hfl1, by omega, ⟨_, _, rfl⟩, fun b o n e => ?_, by rw [upd_ne (Ne.symm nkd)]; exact hd1, _, upd_same, ?_⟩
      · rw [upd_ne (ne_of_none e hkn)]; exact b1 _ _ n e
      · rw [ets, List.flatMap_append, List.flatMap_cons, List.flatMap_nil, List.append_nil, ← List.append_assoc]
        exact Paired.app pk pfx
    · rintro σ H' ⟨⟨p2, p3, rfl⟩, b1, hd1, kxs, hkn1, pk⟩
      rw [lk, List.take_of_length_le (Nat.le_refl _)] at pk
      have pk : Paired (PlAt H) kxs (known m (touched m.tail)) := pk
      have lp := Paired.len pk
      have lk2 : (known m (touched m.tail)).length ≤ 900 := by unfold known; rw [List.length_append]; omega
      refine ⟨hd1, ?_⟩
      have s2 : Same H (upd H' d (.dK kvs)) := fun b o e => by
        by_cases z : b = d
        · rw [z, upd_same]; rw [z, hd] at e; exact e
        · rw [upd_ne z]; exact b1 _ _ z e
      have hkn2 : upd H' d (.dK kvs) kn = some (.lst kxs) := by rw [upd_ne nkd]; exact hkn1
      generalize upd H' d (.dK kvs) = H2 at s2 hkn2 ⊢
      refine ⟨_, rfl, sz1, fun p1 hp1 => ?_⟩
      have s3 := Same.new (o := .lst [.int (-1)]) hp1
      have hp1' : upd H2 p1 (.lst [.int (-1)]) p1 = some (.lst [.int (-1)]) := upd_same
      have hkn3 := s3 _ _ hkn2
      have s4 := s2.trans s3
      generalize upd H2 p1 (.lst [.int (-1)]) = H3 at s4 hp1' hkn3 ⊢
      refine ⟨_, rfl, kn, rfl, ⟨_, SqL.of hkn3⟩, fun D1 hD1 => lc_mapIf (R := fun _ v i => v = V.int ((i : Nat) : Int)) (fun _ q => q) (known m (touched m.tail)) ofObj hD1 hkn3 lp (by omega) (fun _ => rfl) ?_ ?_⟩
      · intro j y c hj hc H4 s5 Q' N hN hQ
        obtain ⟨c', hc', q⟩ := Paired.at_ pk hj
        rw [hc] at hc'
        cases hc'
        obtain ⟨b, rfl, hb⟩ := q.mono (s4.trans s5)
        cases c with
        | obj n =>
          refine ⟨_, rfl, b, _, 0, _, rfl, rfl, SqT.of hb, rfl, rfl, _, rfl, ?_⟩
          rw [show decide (V.str "object" = V.str (Str.ofString "object")) = true from decide_eq_true rfl]
          exact iteT ⟨_, rfl, b, _, 1, _, rfl, rfl, SqT.of hb, rfl, hQ n rfl _ _ (Same.refl _) rfl⟩
        | pool s c =>
          refine ⟨_, rfl, b, _, 0, _, rfl, rfl, SqT.of hb, rfl, rfl, _, rfl, ?_⟩
          rw [show decide (V.str "pool" = V.str (Str.ofString "object")) = false from by decide +kernel]
          exact iteF (hN rfl _ (Same.refl _))
      · intro H4 ys s5 hD4 py
        have ey : ys = ((known m (touched m.tail)).filterMap ofObj).map fun i => V.int ((i : Nat) : Int) := by
          clear hD4
          generalize (known m (touched m.tail)).filterMap ofObj = l at py
          induction py with
          | nil => rfl
          | cons a _ ih => rw [List.map_cons, a, ih]
        have ly : ys.length ≤ 900 := by rw [ey, List.length_map]; exact Nat.le_trans (List.length_filterMap_le _ _) lk2
        refine ⟨p1, D1, _, _, rfl, rfl, s5 _ _ hp1', hD4, (by show 1 + ys.length ≤ sizeLine; omega), fun p2 hp2 => ?_⟩
        have s6 := s5.trans (Same.new (o := .lst ([.int (-1)] ++ ys)) hp2)
        refine ⟨p2, -1 :: ((known m (touched m.tail)).filterMap ofObj).map fun i => ((i : Nat) : Int), rfl, SqL.of (by rw [upd_same, ey, List.map_cons, List.map_map]; rfl), by rw [List.length_cons]; omega, fun r hr hmax => ?_⟩
        refine k r _ (s4.trans s6) (fun i hi => ?_) ?_
        · exact hmax _ (List.mem_cons_of_mem _ (List.mem_map.mpr ⟨i, List.mem_filterMap.mpr ⟨_, hi, rfl⟩, rfl⟩))
        · rcases List.mem_cons.mp hr with h | h
          · exact .inl h
          · obtain ⟨i, hi, rfl⟩ := List.mem_map.mp h
            obtain ⟨p, hp, e⟩ := List.mem_filterMap.mp hi
            cases p with
            | obj j => cases e; exact .inr ⟨i, hp, rfl⟩
            | pool s c => exact nomatch e
end
end Wd
set_option Elab.async false
set_option linter.all false
set_option maxRecDepth 100000
set_option maxHeartbeats 4000000
/-! then -/
namespace Wd
open PySem L2 Mv
theorem flat_two (f : Pl → Pl) (a b : Nat → List Pl) (c : Nat → Nat) : ∀ l : List Nat, (l.flatMap fun s => (a s).map f ++ (b s).drop (c s)).length ≤ (l.flatMap a).length + (l.flatMap b).length
  | [] => Nat.le_refl _
  | s :: l => by
    have ih := flat_two f a b c l
    simp only [List.flatMap_cons, List.length_append, List.length_map, List.length_drop]
    omega
theorem thenA_wt {one two : Mvd} : wt (thenA one two) ≤ wt one + wt two := by
  have := flat_two one.orig (fun s => (two.tail s).1) (fun s => (one.tail s).1) (fun s => (two.tail s).2) (List.range 9)
  unfold wt
  show (two.things.map one.orig).length + _ ≤ _
  rw [List.length_map]
  show two.things.length + ((List.range 9).flatMap fun s => (two.tail s).1.map one.orig ++ (one.tail s).1.drop (two.tail s).2).length ≤ _
  omega
theorem then_objs {z0 z1 z2 : List Nat} {one two : Mvd} (h2 : MGood z1 z2 two.orig) (e1 : z1.length = one.things.length) (e2 : z2.length = two.things.length) {ks : List Nat} {i : Nat} (hi : Pl.obj i ∈ known two ks) : i < one.things.length := by
  rw [known_pos] at hi
  obtain ⟨q, hq, e⟩ := List.mem_map.mp hi
  have := h2.to q (by rw [e2]; exact pos_dm hq)
  rw [e] at this
  rw [← e1]
  exact dm_obj.mp this
def in128 (m : Mvd) : Prop := ∀ s, m.tail s ≠ ([], 0) → s = 1 ∨ s = 2 ∨ s = 8
theorem touched_in {m : Mvd} (h : in128 m) {s : Nat} (hs : s ∈ touched m.tail) : s = 1 ∨ s = 2 ∨ s = 8 := h s (of_decide_eq_true (List.mem_filter.mp hs).2)
theorem touched_few {m : Mvd} (h : in128 m) : ∀ k ∈ (touched m.tail).map (fun s => ((s : Nat) : Int)), k ∈ few := fun k hk => by
  obtain ⟨s, hs, rfl⟩ := List.mem_map.mp hk
  rcases touched_in h hs with rfl | rfl | rfl <;> decide
theorem touched_nd (m : Mvd) : ((touched m.tail).map (fun s => ((s : Nat) : Int))).Nodup := List.pairwise_map.mpr ((List.nodup_range.filter _).imp fun h e => h (Int.ofNat.inj e))
theorem ins_three {m : Mvd} (h : in128 m) : (insAll ((touched m.tail).map fun s => ((s : Nat) : Int))).length ≤ 3 := by
  obtain ⟨a, b⟩ := insAll_subs _ _ rfl (touched_few h) (touched_nd m)
  generalize insAll ((touched m.tail).map fun s => ((s : Nat) : Int)) = l at a b
  have h4 : l.contains 4 = false := by
    rw [b 4 (by decide)]
    cases z : ((touched m.tail).map fun s => ((s : Nat) : Int)).contains 4 with
    | false => rfl
    | true =>
      obtain ⟨s, hs, e⟩ := List.mem_map.mp (List.contains_iff_mem.mp z)
      rcases touched_in h hs with rfl | rfl | rfl <;> exact absurd e (by decide)
  have key : ∀ l ∈ subs, l.contains 4 = false → l.length ≤ 3 := by decide +kernel
  exact key l a h4
theorem ins_has {m : Mvd} (h : in128 m) {s : Nat} : (insAll ((touched m.tail).map fun s => ((s : Nat) : Int))).contains ((s : Nat) : Int) = decide (s ∈ touched m.tail) := by
  obtain ⟨a, b⟩ := insAll_subs _ _ rfl (touched_few h) (touched_nd m)
  by_cases hf : ((s : Nat) : Int) ∈ few
  · rw [b _ hf]
    by_cases z : s ∈ touched m.tail
    · rw [decide_eq_true z]; exact List.contains_iff_mem.mpr (List.mem_map.mpr ⟨s, z, rfl⟩)
    · rw [decide_eq_false z]
      cases q : ((touched m.tail).map fun s => ((s : Nat) : Int)).contains ((s : Nat) : Int) with
      | false => rfl
      | true =>
        obtain ⟨t, ht, e⟩ := List.mem_map.mp (List.contains_iff_mem.mp q)
        rw [Int.ofNat.inj e] at ht
        exact absurd ht z
  · rw [decide_eq_false fun z => hf (touched_few h _ (List.mem_map.mpr ⟨s, z, rfl⟩))]
    cases q : (insAll ((touched m.tail).map fun s => ((s : Nat) : Int))).contains ((s : Nat) : Int) with
    | false => rfl
    | true => exact absurd (subs_few a (List.contains_iff_mem.mp q)) hf
theorem ins_iff {m : Mvd} (h : in128 m) {k : Int} : (insAll ((touched m.tail).map fun s => ((s : Nat) : Int))).contains k = true ↔ ∃ s, s ∈ touched m.tail ∧ ((s : Nat) : Int) = k := by
  constructor
  · intro q
    have a := (insAll_subs _ _ rfl (touched_few h) (touched_nd m)).1
    have hf := subs_few a (List.contains_iff_mem.mp q)
    have : 0 ≤ k := by
      unfold few at hf
      simp only [List.mem_cons, List.not_mem_nil, or_false] at hf
      omega
    obtain ⟨s, rfl⟩ := nat_int this
    rw [ins_has h] at q
    exact ⟨s, of_decide_eq_true q, rfl⟩
  · rintro ⟨s, hs, rfl⟩
    rw [ins_has h]
    exact decide_eq_true hs
def both (one two : Mvd) : List Nat := (List.range 9).filter fun s => decide (s ∈ touched one.tail) || decide (s ∈ touched two.tail)
theorem both_mem {one two : Mvd} {s : Nat} : s ∈ both one two ↔ s ∈ touched one.tail ∨ s ∈ touched two.tail := by
  unfold both
  rw [List.mem_filter, Bool.or_eq_true_iff, decide_eq_true_eq, decide_eq_true_eq]
  refine ⟨fun h => h.2, fun h => ⟨?_, h⟩⟩
  rcases h with h | h <;> exact (List.mem_filter.mp h).1
theorem both_nd {one two : Mvd} : (both one two).Nodup := List.nodup_range.filter _
theorem sorted_both {one two : Mvd} (h1 : in128 one) (h2 : in128 two) {ns : List Int} (hs : ns.Pairwise (· < ·)) (hm : ∀ k : Int, k ∈ ns ↔ ((insAll ((touched one.tail).map fun s => ((s : Nat) : Int))).contains k || (insAll ((touched two.tail).map fun s => ((s : Nat) : Int))).contains k) = true) :
    ns = (both one two).map fun s => ((s : Nat) : Int) := by
  have ndm : ((both one two).map fun s => ((s : Nat) : Int)).Nodup := List.pairwise_map.mpr (both_nd.imp fun h e => h (Int.ofNat.inj e))
  refine List.Perm.eq_of_pairwise (le := (· ≤ ·)) (fun a b _ _ h g => Int.le_antisymm h g) (hs.imp fun h => Int.le_of_lt h) (List.pairwise_map.mpr ((List.pairwise_le_range.filter _).imp fun h => Int.ofNat_le.mpr h)) ((List.perm_ext_iff_of_nodup (hs.imp fun h => Int.ne_of_lt h) ndm).mpr fun k => ?_)
  rw [hm, Bool.or_eq_true_iff, ins_iff h1, ins_iff h2, List.mem_map]
  constructor
  · rintro (⟨s, a, b⟩ | ⟨s, a, b⟩)
    · exact ⟨s, both_mem.mpr (.inl a), b⟩
    · exact ⟨s, both_mem.mpr (.inr a), b⟩
  · rintro ⟨s, a, b⟩
    rcases both_mem.mp a with a | a
    · exact .inl ⟨s, a, b⟩
    · exact .inr ⟨s, a, b⟩
theorem not_touched {m : Mvd} {s : Nat} (h8 : s < 9) (h : s ∉ touched m.tail) : m.tail s = ([], 0) := by
  unfold touched at h
  rw [List.mem_filter, List.mem_range] at h
  by_cases z : m.tail s = ([], 0)
  · exact z
  · exact absurd ⟨h8, decide_eq_true z⟩ h
theorem not_touched' {m : Mvd} (h : in128 m) {s : Nat} (hs : s ∉ touched m.tail) : m.tail s = ([], 0) := by
  by_cases z : m.tail s = ([], 0)
  · exact z
  · exact not_touched (by rcases h s z with rfl | rfl | rfl <;> decide) hs
theorem thenA_off {one two : Mvd} (h1 : in128 one) (h2 : in128 two) {s : Nat} (hs : s ∉ both one two) : (thenA one two).tail s = ([], 0) := by
  have a := not_touched' h1 fun z => hs (both_mem.mpr (.inl z))
  have b := not_touched' h2 fun z => hs (both_mem.mpr (.inr z))
  show ((two.tail s).1.map one.orig ++ (one.tail s).1.drop (two.tail s).2, (one.tail s).2 + ((two.tail s).2 - (one.tail s).1.length)) = _
  rw [a, b]; rfl
theorem max_nat (a b : Nat) : (if ((a : Nat) : Int) - ((b : Nat) : Int) > 0 then ((a : Nat) : Int) - ((b : Nat) : Int) else 0) = ((a - b : Nat) : Int) := by split <;> omega
/-- a move that can be handed on -/
structure Mok (z0 z1 : List Nat) (m : Mvd) : Prop where
  g : MGood z0 z1 m.orig
  len : z1.length = m.things.length
  sz : ∀ s ∈ z1, 1 ≤ s ∧ s ≤ 8
  few : in128 m
section
variable {P : Program} {w : World} {K : PySem.W.Frag} {mg : Str → Option Value} {base : Heap} {f C CM fMI : Addr} {fd fdMI : FuncData} {H : Hp}
def spThen (CM : Addr) : Sp := fun vs H Q _ => ∃ (v u : V) (one two : Mvd) (z0 z1 z2 : List Nat), vs = [v, u] ∧ MvAt CM NoF H v one ∧ MvAt CM NoF H u two ∧ Mok z0 z1 one ∧ Mok z1 z2 two ∧ wt one + wt two ≤ 70 ∧
  ∀ r H', Same H H' → MvAt CM (Old H) H' r (thenM one two) → Q r H'
theorem sc_MoveThen : FnScope ["self", "later", "pools", "size", "front", "fresh", "mine", "behind", "found", "place"] ["self", "later"] (defScope sMoveThen) := ⟨rfl, rfl, rfl, by decide +kernel, rfl, by decide +kernel, by decide +kernel⟩
theorem ok_Then (D : DefM K CM "then" "Move.then" sMoveThen ["self", "later"] f fd) (B : Blt mg) (TM : MCl K mg CM fMI fdMI)
    {fO fT fG : Addr} {fdO fdT fdG : FuncData} (DMostObject : DefM K CM "most_object" "Move.most_object" sMoveMostObject ["self"] fO fdO) (GMostObject : FnOk P w K mg base CX0 1 fO fdO ["self"] (spMostObject CM))
    (DTail : DefM K CM "tail" "Move.tail" sMoveTail ["self", "size"] fT fdT) (GTail : FnOk P w K mg base CX0 1 fT fdT ["self", "size"] (spTail CM))
    (DOrigin : DefM K CM "origin" "Move.origin" sMoveOrigin ["self", "place"] fG fdG) (GOrigin : FnOk P w K mg base CX0 4 fG fdG ["self", "place"] (spOrigin CM))
    (GMoveInit : FnOk P w K mg base CX0 4 fMI fdMI ["self", "objects", "pools"] (spMoveInit CM)) : FnOk P w K mg base CX0 6 f fd ["self", "later"] (spThen CM) := by
  refine D.fn.ok sc_MoveThen (fun vs H Q E h => ?_) (fun cdv A outer s H vs Q E hr h => ?_)
  · obtain ⟨v, u, one, two, z0, z1, z2, rfl, _⟩ := h; rfl
  · obtain ⟨v, u, one, two, z0, z1, z2, rfl, hv, hu, o1, o2, hw, k⟩ := h
    refine ⟨_, (pss_cons (ps_if (PW.pt (pw_or (pt_not (pt_val (pe_callB call_isi (by rfl) B.isi PyProof.Rows.boot_isinstance (pa_cons (pv 1) (pa_cons (pe_glob (v := .ref CM) rfl TM.gl rfl) pa_nil))))) (pw_or1 (pt_cmpR op_ge (pe_meth0 (pv 1) TM.cl DMostObject.mt GMostObject (hr.mono (by first | decide | omega)) DMostObject.bd .nil pass0) (pe_callB call_len_seq (by rfl) B.len PySem.boot_len (pa_cons (pe_fld (pv 0) rfl) pa_nil)) (nomark _))))) (pss_one ps_never) pss_nil) (pss_cons (ps_set (i := 2) sc_MoveThen.nd rfl (.inl rfl) pe_dnewK) (pss_cons (ps_for PassesOwn.never rfl (pi_list (pe_callB (cr_sortedSet rfl) (by rfl) B.sorted PyProof.Rows.boot_sorted (pa_cons (pe_op op_orSet (pe_callTy (cr_setD rfl) (by rfl) B.set PyProof.Rows.boot_set (pa_cons (pe_fld (pv 0) rfl) pa_nil)) (pe_callTy (cr_setD rfl) (by rfl) B.set PyProof.Rows.boot_set (pa_cons (pe_fld (pv 1) rfl) pa_nil))) pa_nil))) (pg_name (i := 3) sc_MoveThen.nd rfl (.inl rfl)) (pss_cons (ps_asg (pe_meth (pv 1) TM.cl DTail.mt GTail (hr.mono (by first | decide | omega)) DTail.bd .nil pass0 (pa_cons (pv 3) pa_nil)) (pg_tup rfl (pgs_cons (pg_name (i := 4) sc_MoveThen.nd rfl (.inl rfl)) (pgs_cons (pg_name (i := 5) sc_MoveThen.nd rfl (.inl rfl)) pgs_nil)))) (pss_cons (ps_asg (pe_meth (pv 0) TM.cl DTail.mt GTail (hr.mono (by first | decide | omega)) DTail.bd .nil pass0 (pa_cons (pv 3) pa_nil)) (pg_tup rfl (pgs_cons (pg_name (i := 6) sc_MoveThen.nd rfl (.inl rfl)) (pgs_cons (pg_name (i := 7) sc_MoveThen.nd rfl (.inl rfl)) pgs_nil)))) (pss_cons (ps_setLc (i := 8) (own := [("place", 9)]) (g := gName 9) (tt := tYes) rfl sc_MoveThen.nd rfl rfl (sw_true rfl rfl rfl (by decide +kernel)) (pi_list (pv 4)) (blkOk_by (N := ["self", "later", "pools", "size", "front", "fresh", "mine", "behind", "found", "place"]) (sc := defScope sMoveThen) (by decide +kernel)) (fun _ _ _ _ _ => pg_name (i := 9) sc_MoveThen.nd rfl (Or.inl rfl)) (fun _ _ _ _ _ => pts_nil) (fun _ _ _ _ _ => (pe_meth (pv 0) TM.cl DOrigin.mt GOrigin (hr.mono (by first | decide | omega)) DOrigin.bd .nil pass0 (pa_cons (pv 9) pa_nil)))) (pss_one (ps_dput (hu_of hr) (pv 2) (pv 3) (pe_tup (pa_cons (pe_op op_cat (pv 8) (pe_slice sl_list (pv 6) (po_some (pv 5)) po_none)) (pa_cons (pe_op op_add (pv 7) (pe_callB (call_max2 rfl) (by rfl) B.max PyProof.Rows.boot_max (pa_cons pe_int (pa_cons (pe_op op_sub (pv 5) (pe_callB call_len_seq (by rfl) B.len PySem.boot_len (pa_cons (pv 6) pa_nil))) pa_nil)))) pa_nil))) rfl)))))) (pss_one (ps_ret (pe_make TM.mkr GMoveInit (hr.mono (by first | decide | omega)) rfl TM.gl TM.b .nil pass0 (pa_cons (pe_lc (own := [("place", 9)]) (g := gName 9) (tt := tYes) rfl sc_MoveThen.nd (pi_list (pe_fld (pv 1) rfl)) (blkOk_by (N := ["self", "later", "pools", "size", "front", "fresh", "mine", "behind", "found", "place"]) (sc := defScope sMoveThen) (by decide +kernel)) (fun _ _ _ _ _ => pg_name (i := 9) sc_MoveThen.nd rfl (Or.inl rfl)) (fun _ _ _ _ _ => pts_nil) (fun _ _ _ _ _ => (pe_meth (pv 0) TM.cl DOrigin.mt GOrigin (hr.mono (by first | decide | omega)) DOrigin.bd .nil pass0 (pa_cons (pv 9) pa_nil)))) (pa_cons (pv 2) pa_nil)))))))), ?_⟩
    obtain ⟨a, dx, lt, d, xs, kvs, rfl, ha, _, hlt, px, hd, hk⟩ := id hv
    obtain ⟨b, dy, lu, e, ys, ls, rfl, hb, _, hlu, py, he, hl⟩ := id hu
    have lx := Paired.len px
    have ly := Paired.len py
    refine ⟨_, rfl, _, _, _, _, true, rfl, ClsV.own _, .base (.ins hb TM.cl TM.ha TM.hn TM.ht TM.hm), TM.self, _, rfl, ?_⟩
    refine iteF ?_
    refine ⟨_, rfl, b, dy, _, rfl, hb, rfl, _, two, rfl, hu, by omega, fun r H1 s1 hr1 hr2 => ?_⟩
    refine ⟨_, rfl, a, CM, dx, _, _, rfl, s1 _ _ ha, TM.cl, TM.nTh, mf_things, lt, _, rfl, .inl (SqL.of (s1 _ _ hlt)), _, _, rfl, rfl, _, rfl, ?_⟩
    rw [decide_eq_false (show ¬ ((xs.length : Nat) : Int) ≤ r by
      rcases hr2 with rfl | ⟨i, hi, rfl⟩
      · omega
      · have := then_objs (z0 := z0) o2.g o1.len o2.len hi
        omega)]
    refine iteF ?_
    refine fun dp hdp => ?_
    have s2 := s1.trans (Same.new (o := .dK []) hdp)
    have hdp1 : upd H1 dp (.dK []) dp = some (.dK []) := upd_same
    have odp : H dp = none := by
      cases z : H dp with
      | none => rfl
      | some o => rw [s1 _ _ z] at hdp; cases hdp
    generalize upd H1 dp (.dK []) = H2 at s2 hdp1 ⊢
    refine ⟨_, rfl, a, CM, dx, _, _, rfl, s2 _ _ ha, TM.cl, TM.nTa, mf_tails, d, kvs, _, rfl, s2 _ _ hd, dc_keys hk, touched_few o1.few, touched_nd one, fun q1 hq1 => ?_⟩
    have s3 := s2.trans (Same.new (o := SetCO w q1 (insAll ((touched one.tail).map fun s => ((s : Nat) : Int)))) hq1)
    refine ⟨_, rfl, b, CM, dy, _, _, rfl, s3 _ _ hb, TM.cl, TM.nTa, mf_tails, e, ls, _, rfl, s3 _ _ he, dc_keys hl, touched_few o2.few, touched_nd two, fun q2 hq2 => ?_⟩
    have s4 := s3.trans (Same.new (o := SetCO w q2 (insAll ((touched two.tail).map fun s => ((s : Nat) : Int)))) hq2)
    have nq : q1 ≠ q2 := ne_of_none upd_same hq2
    refine ⟨q1, q2, _, _, rfl, rfl, by rw [upd_ne nq]; exact upd_same, upd_same, nq, by have := ins_three o1.few; have := ins_three o2.few; omega, fun q3 n hq3 hn => ?_⟩
    have s5 := s4.trans (Same.new (o := SetO w q3 (fun k => (insAll ((touched one.tail).map fun s => ((s : Nat) : Int))).contains k || (insAll ((touched two.tail).map fun s => ((s : Nat) : Int))).contains k) n) hq3)
    refine ⟨q3, _, n, rfl, upd_same, by omega, fun ns sp hsort hmem hlen hsp => ?_⟩
    rw [sorted_both o1.few o2.few hsort hmem, List.map_map]
    have s6 := s5.trans (Same.new (o := .lst ((both one two).map fun s => V.int ((s : Nat) : Int))) hsp)
    have hdp2 : upd (upd (upd (upd H2 q1 (SetCO w q1 (insAll ((touched one.tail).map fun s => ((s : Nat) : Int))))) q2 (SetCO w q2 (insAll ((touched two.tail).map fun s => ((s : Nat) : Int))))) q3 (SetO w q3 (fun k => (insAll ((touched one.tail).map fun s => ((s : Nat) : Int))).contains k || (insAll ((touched two.tail).map fun s => ((s : Nat) : Int))).contains k) n)) sp (.lst ((both one two).map fun s => V.int ((s : Nat) : Int))) dp = some (.dK []) :=
      Same.new hsp _ _ (Same.new hq3 _ _ (Same.new hq2 _ _ (Same.new hq1 _ _ hdp1)))
    refine ⟨sp, rfl, ⟨_, SqL.of upd_same⟩, ?_⟩
    have e1 : ((both one two).map (V.int ∘ fun s => ((s : Nat) : Int))) = (both one two).map fun s => V.int (s : Nat) := rfl
    rw [e1]
    have hspL : upd (upd (upd (upd H2 q1 (SetCO w q1 (insAll ((touched one.tail).map fun s => ((s : Nat) : Int))))) q2 (SetCO w q2 (insAll ((touched two.tail).map fun s => ((s : Nat) : Int))))) q3 (SetO w q3 (fun k => (insAll ((touched one.tail).map fun s => ((s : Nat) : Int))).contains k || (insAll ((touched two.tail).map fun s => ((s : Nat) : Int))).contains k) n)) sp (.lst ((both one two).map fun s => V.int ((s : Nat) : Int))) sp = some (.lst ((both one two).map fun s => V.int (s : Nat))) := upd_same
    have z9 := szM
    refine for_list (xs := (both one two).map fun s => V.int (s : Nat)) (fun i σ H' => (∃ p3 p4 p5 p6 p7 p8, σ = [some (.ref a), some (.ref b), some (.ref dp), p3, p4, p5, p6, p7, p8, none]) ∧ Same H H' ∧ H' sp = some (.lst ((both one two).map fun s => V.int (s : Nat))) ∧ ∃ kv, H' dp = some (.dK kv) ∧ DcAt (Old H) H' kv ((both one two).take i) (thenA one two).tail)
      ⟨⟨none, none, none, none, none, none, rfl⟩, s6, hspL, [], hdp2, by rw [List.take_zero]; exact .nil⟩ (fun i σ H _ h => SqL.of h.2.2.1) ?_ ?_
    · rintro i v σ H' hvv ⟨⟨p3, p4, p5, p6, p7, p8, rfl⟩, t1, hsp1, kv, hdpk, dct⟩
      rw [List.getElem?_map] at hvv
      obtain ⟨s, hs, rfl⟩ : ∃ s, (both one two)[i]? = some s ∧ V.int ((s : Nat) : Int) = v := by
        cases z : (both one two)[i]? with
        | none => rw [z] at hvv; cases hvv
        | some s => rw [z] at hvv; exact ⟨s, rfl, Option.some.inj hvv⟩
      have hsb := List.mem_of_getElem? hs
      have hs9 : s < 9 := List.mem_range.mp (List.mem_filter.mp hsb).1
      refine ⟨_, rfl, b, dy, _, rfl, t1 _ _ hb, rfl, _, rfl, _, s, two, NoF, rfl, by omega, hu.bt (Same.bt t1), fun _ z => z.elim, fun u2 H4 t2 htl => ?_⟩
      obtain ⟨c2, w2, rfl, hc2, fl, fx, rfl, _, hfl, pfx⟩ := htl
      refine ⟨c2, _, rfl, SqT.of hc2, rfl, _, _, rfl, _, _, rfl, rfl, ?_⟩
      have t12 := t1.trans t2
      refine ⟨_, rfl, a, dx, _, rfl, t12 _ _ ha, rfl, _, rfl, _, s, one, NoF, rfl, by omega, (hv.bt (Same.bt t12)), fun _ z => z.elim, fun u3 H5 t3 htl => ?_⟩
      obtain ⟨c3, w3, rfl, hc3, ml, mx, rfl, _, hml, pmx⟩ := htl
      refine ⟨c3, _, rfl, SqT.of hc3, rfl, _, _, rfl, _, _, rfl, rfl, ?_⟩
      have t13 := t12.trans t3
      have hfl5 := t3 _ _ hfl
      have pfx5 := Paired.mono (fun _ _ => PlAt.mono t3) pfx
      have lfx := Paired.len pfx
      have lmx := Paired.len pmx
      have s8 : 1 ≤ s ∧ s ≤ 8 := by
        rcases both_mem.mp hsb with h | h
        · rcases touched_in o1.few h with rfl | rfl | rfl <;> decide
        · rcases touched_in o2.few h with rfl | rfl | rfl <;> decide
      have fle : ∀ m : Mvd, (m.tail s).1.length ≤ wt m := fun m => by
        have := flat_filter (fun s => (m.tail s).1) (fun t => decide (t = s)) (List.range 9)
        have e : (List.range 9).filter (fun t => decide (t = s)) = [s] := by
          have : s = 1 ∨ s = 2 ∨ s = 3 ∨ s = 4 ∨ s = 5 ∨ s = 6 ∨ s = 7 ∨ s = 8 := by omega
          rcases this with rfl | rfl | rfl | rfl | rfl | rfl | rfl | rfl <;> decide
        rw [e, List.flatMap_cons, List.flatMap_nil, List.append_nil] at this
        unfold wt
        omega
      have w1 := fle one
      have w2 := fle two
      refine ⟨_, rfl, fl, rfl, ⟨_, SqL.of hfl5⟩, fun D1 hD1 => lc_map (R := PlAt) (fun k2 q => PlAt.but k2 q) ((two.tail s).1.map one.orig) hD1 hfl5 (by rw [List.length_map]; exact lfx) (by omega) (fun _ => rfl) ?_ ?_⟩
      · intro j y c hj hc H6 t6 Q' k'
        obtain ⟨p, hp, q⟩ := Paired.at_ pfx5 hj
        rw [List.getElem?_map, hp] at hc
        cases hc
        have hpm := List.mem_of_getElem? hp
        have hpk : p ∈ known two [s] := List.mem_append_right _ (List.mem_flatMap.mpr ⟨s, List.mem_singleton.mpr rfl, hpm⟩)
        refine ⟨_, rfl, a, dx, _, rfl, t6 _ _ (t13 _ _ ha), rfl, _, rfl, _, _, one, NoF, p, rfl, hv.bt (Same.bt (t13.trans t6)), q.mono t6, known_fit o2.g o2.len o2.sz (fun t ht => by rw [List.mem_singleton.mp ht]; exact s8) hpk, fun n e => ?_, fun u' H7 t7 r => k' _ _ t7 r⟩
        subst e
        exact then_objs (z0 := z0) o2.g o1.len o2.len hpk
      · intro H6 gs t6 hD6 pg
        have t16 := t13.trans t6
        have lgs := Paired.len pg
        rw [List.length_map] at lgs
        refine ⟨_, rfl, _, rfl, _, rfl, _, rfl, ml, _, rfl, SqL.of (t6 _ _ hml), fun p1 hp1 => ?_⟩
        rw [cut_lo]
        have t17 := Same.new (o := .lst (mx.drop (two.tail s).2)) hp1
        have hD7 := t17 _ _ hD6
        have hp17 : upd H6 p1 (.lst (mx.drop (two.tail s).2)) p1 = some (.lst (mx.drop (two.tail s).2)) := upd_same
        have hml7 := t17 _ _ (t6 _ _ hml)
        generalize upd H6 p1 (.lst (mx.drop (two.tail s).2)) = H7 at t17 hD7 hp17 hml7 ⊢
        refine ⟨D1, p1, gs, _, rfl, rfl, hD7, hp17, by rw [List.length_drop]; omega, fun p2 hp2 => ?_⟩
        have t18 := Same.new (o := .lst (gs ++ mx.drop (two.tail s).2)) hp2
        have hp28 : upd H7 p2 (.lst (gs ++ mx.drop (two.tail s).2)) p2 = some (.lst (gs ++ mx.drop (two.tail s).2)) := upd_same
        have hml8 := t18 _ _ hml7
        have op2 : H p2 = none := by
          cases z : H p2 with
          | none => rfl
          | some o => rw [t17 _ _ (t16 _ _ z)] at hp2; cases hp2
        generalize upd H7 p2 (.lst (gs ++ mx.drop (two.tail s).2)) = H8 at t18 hp28 hml8 ⊢
        refine ⟨_, rfl, _, rfl, _, rfl, ml, _, rfl, .inl (SqL.of hml8), _, _, rfl, rfl, _, _, rfl, _, _, rfl, rfl, ?_⟩
        rw [lmx, max_nat]
        refine ⟨sz2, fun p3 hp3 => ?_⟩
        have t19 := Same.new (o := .tup [.ref p2, .int (((one.tail s).2 : Nat) + (((two.tail s).2 - (one.tail s).1.length : Nat) : Int))]) hp3
        have hp39 : upd H8 p3 (.tup [.ref p2, .int (((one.tail s).2 : Nat) + (((two.tail s).2 - (one.tail s).1.length : Nat) : Int))]) p3 = some (.tup [.ref p2, .int (((one.tail s).2 : Nat) + (((two.tail s).2 - (one.tail s).1.length : Nat) : Int))]) := upd_same
        have hp29 := t19 _ _ hp28
        generalize upd H8 p3 (.tup [.ref p2, .int (((one.tail s).2 : Nat) + (((two.tail s).2 - (one.tail s).1.length : Nat) : Int))]) = H9 at t19 hp39 hp29 ⊢
        have t69 := (t17.trans t18).trans t19
        have t39 := ((t2.trans t3).trans t6).trans t69
        have hdp9 := t39 _ _ hdpk
        have kvl : kv.length < sizeLine := by
          have e1 := Paired.len dct
          have e3 : ((both one two).take i).length ≤ (both one two).length := by rw [List.length_take]; omega
          have e4 : (both one two).length ≤ 9 := Nat.le_trans (List.length_filter_le _ _) (by rw [List.length_range]; exact Nat.le_refl _)
          omega
        have hnew : s ∉ (both one two).take i := fun z => by
          have nnd := both_nd (one := one) (two := two)
          have e2 : both one two = (both one two).take (i + 1) ++ (both one two).drop (i + 1) := (List.take_append_drop _ _).symm
          have ets : (both one two).take (i + 1) = (both one two).take i ++ [s] := by rw [List.take_add_one, hs]; rfl
          rw [e2, ets] at nnd
          exact (List.nodup_append.mp (List.nodup_append.mp nnd).1).2.2 s z s (List.mem_singleton.mpr rfl) rfl
        refine ⟨_, rfl, _, rfl, dp, _, rfl, DPut.k (k := Sum.inl ((s : Nat) : Int)) hdp9 kvl, ⟨_, _, _, _, _, _, rfl⟩, ?_⟩
        rw [putK_new _ ((DcAt.get (s := s) dct).2 hnew)]
        have t09 := t16.trans t69
        refine ⟨Same.over t09 odp, (by rw [upd_ne (ne_of (t39 _ _ hsp1) hdp9 fun z => nomatch z)]; exact t39 _ _ hsp1), _, upd_same, ?_⟩
        have bl2 : Bl (Old H) H9 (upd H9 dp (.dK (kv ++ [(Sum.inl ((s : Nat) : Int), .ref p3)]))) := Bl.put hdp9 (fun _ z => nomatch z) fun _ z => nomatch z
        rw [List.take_add_one, hs]
        refine dc_snoc (bl2.dc ((Bl.same t39).dc dct)) (bl2.tl ⟨p3, .ref p2, rfl, by rw [hp39]; rfl, p2, _, rfl, fun z => z op2, hp29, ?_⟩)
        refine Paired.app (Paired.mono (fun _ _ => PlAt.mono t69) pg) (Paired.drop _ (Paired.mono (fun _ _ => PlAt.mono (t6.trans t69)) pmx))
    · rintro σ H' ⟨⟨p3, p4, p5, p6, p7, p8, rfl⟩, t1, hsp1, kv, hdpk, dct⟩
      rw [List.length_map, List.take_of_length_le (Nat.le_refl _)] at dct
      have hlu1 := t1 _ _ hlu
      have w2 : two.things.length ≤ wt two := Nat.le_add_right _ _
      refine ⟨_, rfl, b, CM, dy, _, _, rfl, t1 _ _ hb, TM.cl, TM.nTh, mf_things, lu, rfl, ⟨_, SqL.of hlu1⟩, fun D1 hD1 => lc_map (R := PlAt) (fun k2 q => PlAt.but k2 q) (two.things.map one.orig) hD1 hlu1 (by rw [List.length_map]; exact ly) (by omega) (fun _ => rfl) ?_ ?_⟩
      · intro j y c hj hc H6 t6 Q' k'
        obtain ⟨p, hp, q⟩ := Paired.at_ py hj
        rw [List.getElem?_map, hp] at hc
        cases hc
        have hpk : p ∈ known two [] := List.mem_append_left _ (List.mem_of_getElem? hp)
        refine ⟨_, rfl, a, dx, _, rfl, t6 _ _ (t1 _ _ ha), rfl, _, rfl, _, _, one, NoF, p, rfl, hv.bt (Same.bt (t1.trans t6)), q.mono (t1.trans t6), known_fit o2.g o2.len o2.sz (fun t ht => absurd ht List.not_mem_nil) hpk, fun n e => ?_, fun u' H7 t7 r => k' _ _ t7 r⟩
        subst e
        exact then_objs (z0 := z0) o2.g o1.len o2.len hpk
      · intro H6 gs t6 hD6 pg
        refine ⟨_, rfl, fun x dx2 hx hdx ne => ?_⟩
        have t16 := t1.trans t6
        have hz : z2.length = (thenA one two).things.length := by show _ = (two.things.map one.orig).length; rw [List.length_map]; exact o2.len
        refine ⟨H6, x, dx2, _, dp, kv, both one two, thenA one two, z0, z2, rfl, hx, hdx, ne, rfl, ⟨D1, gs, rfl, fun z => z, hD6, pg⟩, t6 _ _ hdpk, (((Bl.same t6).dc dct).sub fun _ z => z.elim), both_nd, fun s hs => ?_, fun s hs => thenA_off o1.few o2.few hs, (o1.g.comp o2.g).congr fun p hp => thenA_orig (by rw [← o2.len]; exact hp), hz, o2.sz, Nat.le_trans thenA_wt hw, fun H7 t7 hm => ?_⟩
        · rcases both_mem.mp hs with h | h
          · rcases touched_in o1.few h with rfl | rfl | rfl <;> decide
          · rcases touched_in o2.few h with rfl | rfl | rfl <;> decide
        · refine ⟨rfl, k _ _ (t16.trans t7) (hm.sub fun b hb z => ?_)⟩
          cases e : H b with
          | none => exact hb e
          | some o => rw [t16 _ _ e] at z; cases z
end
end Wd
set_option Elab.async false
set_option linter.all false
set_option maxRecDepth 100000
set_option maxHeartbeats 4000000
/-! identity, ==, what then refuses -/
namespace Wd
open PySem L2 Mv Ax
/-- [.. for ..] over anything that walks, item by item of a told kind -/
theorem lc_mapW {A : Type} {J : It} {n : Nat} {G : Hp → Prop} {Y : Nat → Hp → V → Hp → Prop} (wk : Walk J n G Y) {R : Hp → V → A → Prop} (mono : ∀ {H H' : Hp} {v : V} {b : A}, (∀ c zs, H c = some (.tup zs) → H' c = some (.tup zs)) → R H v b → R H' v b) (bs : List A) {g : TG} {te : TE} {vs : List Nat} {σ : L2.St} {H1 : Hp} {D : Addr} {Qd : Hp → Prop}
    (hD : H1 D = none) (hG : ∀ H', Same H1 H' → G H') (hY : ∀ i H x H', i < n → G H → Y i H x H' → Same H H') (hb : n = bs.length) (hn : n ≤ 1000)
    (hs : ∀ (j : Nat) (b : A), bs[j]? = some b → ∀ x H' H2, Same H1 H' → Same H' H2 → Y j H' x H2 → ∀ Q' : VK, (∀ y H'', Same H2 H'' → R H'' y b → Q' y H'') → g x (wipe σ vs) H2 fun σ2 H3 => wipe σ2 vs = wipe σ vs ∧ te σ2 H3 Q')
    (gm : ∀ {x : V} {σ : L2.St} {H : Hp} {P Q : L2.St → Hp → Prop}, (∀ σ' H', P σ' H' → Q σ' H') → g x σ H P → g x σ H Q)
    (hd : ∀ H' ys, Same H1 H' → H' D = some (.lst ys) → Paired (R H') ys bs → Qd H') :
    ∃ W : Nat → Nat → Hp → Prop, (∃ m, W 0 m (upd H1 D (.lst []))) ∧ ∀ j m H, W j m H →
      (J.stop j H ∧ Qd H) ∨ (J.go j H ∧ ∃ Nx : Hp → Prop, (∀ H', Nx H' → ∃ m', m' < m ∧ W (j + 1) m' H') ∧ ∀ x H', J.yld j H x H' → g x (wipe σ vs) H' fun σ2 H2 => wipe σ2 vs = wipe σ vs ∧ tYes σ2 H2 fun b H3 =>
        if b = true then te σ2 H3 fun y H4 => ∃ acc, H4 D = some (.lst acc) ∧ acc.length < sizeLine ∧ Nx (upd H4 D (.lst (acc ++ [y]))) else Nx H3) := by
  have z := szM
  refine lc_it wk (fun j H' => Same H1 H' ∧ ∃ ys, H' D = some (.lst ys) ∧ ys.length = j ∧ Paired (R H') ys (bs.take j)) ⟨Same.new hD, [], upd_same, rfl, by rw [List.take_zero]; exact .nil⟩ (fun j H' _ h => hG H' h.1) ?_ ?_
  · rintro j x H' H2 hj ⟨s1, ys, hD', hy, py⟩ hyy
    have sY := hY j H' x H2 hj (hG H' s1) hyy
    have hbj := List.getElem?_eq_getElem (show j < bs.length by omega)
    refine gm (P := fun σ2 H3 => wipe σ2 vs = wipe σ vs ∧ te σ2 H3 fun y H4 => ∃ acc, H4 D = some (.lst acc) ∧ acc.length < sizeLine ∧ Same H1 (upd H4 D (.lst (acc ++ [y]))) ∧ ∃ ys, upd H4 D (.lst (acc ++ [y])) D = some (.lst ys) ∧ ys.length = j + 1 ∧ Paired (R (upd H4 D (.lst (acc ++ [y])))) ys (bs.take (j + 1))) (fun σ' H' h => ⟨h.1, by unfold tYes; exact iteT h.2⟩) (hs j _ hbj x H' H2 s1 sY hyy _ fun y H'' s2 r => ?_)
    have s12 := sY.trans s2
    have k2 : ∀ c zs, H'' c = some (.tup zs) → upd H'' D (.lst (ys ++ [y])) c = some (.tup zs) := fun c zs e => by
      rw [upd_ne (fun z => by rw [z, s12 _ _ hD'] at e; cases e)]; exact e
    refine ⟨_, s12 _ _ hD', by omega, fun b o e => ?_, _, upd_same, by rw [List.length_append, hy]; rfl, ?_⟩
    · rw [upd_ne (fun z => by rw [z, hD] at e; cases e)]; exact s12 _ _ (s1 _ _ e)
    · rw [List.take_add_one, hbj]
      exact Paired.app (Paired.mono (fun _ _ q => mono k2 (mono (fun c zs e => s12 _ _ e) q)) py) (.cons (mono k2 r) .nil)
  · rintro H' ⟨s1, ys, hD', hy, py⟩
    rw [hb, List.take_of_length_le (Nat.le_refl _)] at py
    exact hd H' ys s1 hD' py
theorem gName_mono {i : Nat} {x : V} {σ : L2.St} {H : Hp} {P Q : L2.St → Hp → Prop} (h : ∀ σ' H', P σ' H' → Q σ' H') (p : gName i x σ H P) : gName i x σ H Q := h _ _ p
def idM (n : Nat) : Mvd := ⟨(List.range n).map Pl.obj, fun _ => ([], 0)⟩
theorem idM_orig {n : Nat} {p : Pl} (h : Dm n p) : (idM n).orig p = p := by
  cases p with
  | obj i => exact orig_obj (by show ((List.range n).map Pl.obj)[i]? = _; rw [List.getElem?_map, List.getElem?_range (dm_obj.mp h)]; rfl)
  | pool s c => rw [orig_pool]; show rowOf s ([], 0) c = _; rw [rowOf_nil, Nat.zero_add]
theorem idM_ok {z : List Nat} (h8 : ∀ s ∈ z, 1 ≤ s ∧ s ≤ 8) : Mok z z (idM z.length) :=
  ⟨MGood.id.congr fun p h => idM_orig h, by show _ = ((List.range z.length).map Pl.obj).length; rw [List.length_map, List.length_range], h8, fun s h => absurd rfl h⟩
theorem idM_wt {n : Nat} : wt (idM n) = n := by
  unfold wt
  show ((List.range n).map Pl.obj).length + ((List.range 9).flatMap fun _ => ([] : List Pl)).length = n
  rw [List.length_map, List.length_range, show ((List.range 9).flatMap fun _ => ([] : List Pl)) = [] from by decide +kernel]; rfl
section
variable {P : Program} {w : World} {K : PySem.W.Frag} {mg : Str → Option Value} {base : Heap} {f C CM CA CB fMI : Addr} {fd fdMI : FuncData} {H : Hp}
def spIdentity (CM : Addr) : Sp := fun vs H Q _ => ∃ n : Nat, vs = [.int (n : Nat)] ∧ n ≤ 70 ∧ ∀ r H', Same H H' → MvAt CM (Old H) H' r (idM n) → Q r H'
theorem sc_Identity : FnScope ["count", "order"] ["count"] (defScope sIdentity) := ⟨rfl, rfl, rfl, by decide +kernel, rfl, by decide +kernel, by decide +kernel⟩
theorem ok_Identity (D : DefF K mg "identity" sIdentity ["count"] f fd) (B : Blt mg) (TM : MCl K mg CM fMI fdMI)
    {fI : Addr} {fdI : FuncData} (DIsInteger : DefF K mg "is_integer" sIsInteger ["thing"] fI fdI) (GIsInteger : FnOk P w K mg base CX0 1 fI fdI ["thing"] spIsInteger)
    (GMoveInit : FnOk P w K mg base CX0 4 fMI fdMI ["self", "objects", "pools"] (spMoveInit CM)) : FnOk P w K mg base CX0 6 f fd ["count"] (spIdentity CM) := by
  refine D.fn.ok sc_Identity (fun vs H Q E h => ?_) (fun cdv A outer s H vs Q E hr h => ?_)
  · obtain ⟨n, rfl, _⟩ := h; rfl
  · obtain ⟨n, rfl, hn, k⟩ := h
    refine ⟨_, (pss_cons (ps_if (PW.pt (pw_or (pt_not (pt_val (pe_call GIsInteger (hr.mono (by first | decide | omega)) rfl DIsInteger.gl DIsInteger.fn.kp DIsInteger.bd .nil pass0 (pa_cons (pv 0) pa_nil)))) (pw_or1 (pt_cmpR op_lt (pv 0) pe_int (nomark _))))) (pss_one ps_never) pss_nil) (pss_one (ps_ret (pe_make TM.mkr GMoveInit (hr.mono (by first | decide | omega)) rfl TM.gl TM.b .nil pass0 (pa_cons (pe_lc (own := [("order", 1)]) (g := gName 1) (tt := tYes) rfl sc_Identity.nd (pi_range1 rfl B.range (pa_cons (pv 0) pa_nil)) (blkOk_by (N := ["count", "order"]) (sc := defScope sIdentity) (by decide +kernel)) (fun _ _ _ _ _ => pg_name (i := 1) sc_Identity.nd rfl (Or.inl rfl)) (fun _ _ _ _ _ => pts_nil) (fun _ _ _ _ _ => (pe_tup (pa_cons pe_str (pa_cons (pv 1) pa_nil))))) (pa_cons pe_dnewK pa_nil)))))), ?_⟩
    refine ⟨_, rfl, _, rfl, _, rfl, iteF ?_⟩
    refine ⟨_, rfl, _, _, rfl, rfl, _, rfl, ?_⟩
    rw [decide_eq_false (show ¬ ((n : Nat) : Int) < 0 by omega)]
    refine iteF ⟨_, rfl, _, rfl, by omega, by omega, fun D1 hD1 => lc_mapW (n := ((n : Nat) : Int).toNat) walk_range (R := PlAt) (fun k2 q => PlAt.but k2 q) ((List.range n).map Pl.obj) hD1 (fun _ _ => trivial) (fun i H x H' _ _ y => by rw [y.1]; exact Same.refl _) (by rw [List.length_map, List.length_range, Int.toNat_natCast]) (by rw [Int.toNat_natCast]; omega) ?_ (fun h p => gName_mono h p) ?_⟩
    · rintro j b hb x H1 H2 s1 s2 ⟨rfl, rfl⟩ Q' k'
      refine ⟨rfl, _, rfl, sz2, fun p hp => k' _ _ (Same.new hp) ⟨p, rfl, ?_⟩⟩
      rw [List.getElem?_map] at hb
      cases z : (List.range n)[j]? with
      | none => rw [z] at hb; cases hb
      | some i =>
        rw [z] at hb
        cases hb
        have : i = j := by
          have hj := (List.getElem?_eq_some_iff.mp z).1
          rw [List.getElem?_range (by rw [List.length_range] at hj; exact hj)] at z
          exact (Option.some.inj z).symm
        subst this
        rw [upd_same]
        show some (HO.tup [V.str "object", .int (0 + ((i : Nat) : Int))]) = some (.tup [V.str "object", .int (i : Nat)])
        rw [Int.zero_add]
    · intro H1 ys s1 hD1 py
      refine fun d hd x dx hx hdx ne => ?_
      have s2 := Same.new (o := .dK []) hd
      have z8 : ∀ s ∈ List.replicate n 1, 1 ≤ s ∧ s ≤ 8 := fun s hs => by rw [(List.mem_replicate.mp hs).2]; decide
      have ok := idM_ok z8
      rw [List.length_replicate] at ok
      have wt0 := idM_wt (n := n)
      refine ⟨_, x, dx, _, d, [], [], idM n, List.replicate n 1, List.replicate n 1, rfl, hx, hdx, ne, rfl, ⟨D1, ys, rfl, fun z => z, s2 _ _ hD1, Paired.mono (fun _ _ => PlAt.mono s2) py⟩, upd_same, .nil, List.nodup_nil, (fun s hs => absurd hs List.not_mem_nil), (fun _ _ => rfl), ok.g, ok.len, z8, by unfold wt at wt0; omega, fun H7 t7 hm => ⟨rfl, k _ _ (s1.trans (s2.trans t7)) (hm.sub fun b hb z => ?_)⟩⟩
      cases e : H b with
      | none => exact hb e
      | some o => rw [s2 _ _ (s1 _ _ e)] at z; cases z
end
end Wd
set_option Elab.async false
set_option linter.all false
set_option maxRecDepth 100000
set_option maxHeartbeats 4000000
/-! ==, what then refuses -/
namespace Wd
open PySem L2 Mv Ax
theorem place_eqT {K : PySem.W.Frag} {H : Hp} {v u : V} {p : Pl} (h : PlAt H v p) (g : PlAt H u p) : EqT K H 2 v u := by
  obtain ⟨a, rfl, ha⟩ := h
  obtain ⟨b, rfl, hb⟩ := g
  refine .inr (.inr (.inr (.inl ⟨a, b, _, _, rfl, rfl, SqT.of ha, SqT.of hb, ?_⟩)))
  cases p with
  | obj n => exact .cons (.inl ⟨rfl, rfl⟩) (.cons (.inl ⟨rfl, rfl⟩) .nil)
  | pool s c => exact .cons (.inl ⟨rfl, rfl⟩) (.cons (.inl ⟨rfl, rfl⟩) (.cons (.inl ⟨rfl, rfl⟩) .nil))
theorem places_eqT {K : PySem.W.Frag} {H : Hp} : ∀ {xs ys : List V} {ps : List Pl}, Paired (PlAt H) xs ps → Paired (PlAt H) ys ps → Paired (EqT K H 2) xs ys
  | _, _, _, .nil, .nil => .nil
  | _, _, _, .cons a b, .cons c d => .cons (place_eqT a c) (places_eqT b d)
theorem ps_eqT {K : PySem.W.Frag} {F G : Addr → Prop} {H : Hp} {v u : V} {ps : List Pl} (h : PsAt F H v ps) (g : PsAt G H u ps) : EqT K H 3 v u := by
  obtain ⟨l, xs, rfl, _, hl, px⟩ := h
  obtain ⟨l', ys, rfl, _, hl', py⟩ := g
  exact .inr (.inr (.inl ⟨l, l', _, _, rfl, rfl, SqL.of hl, SqL.of hl', places_eqT px py⟩))
theorem tl_eqT {K : PySem.W.Frag} {F G : Addr → Prop} {H : Hp} {v u : V} {t : List Pl × Nat} (h : TlAt F H v t) (g : TlAt G H u t) : EqT K H 4 v u := by
  obtain ⟨a, x, rfl, ha, hx⟩ := h
  obtain ⟨b, y, rfl, hb, hy⟩ := g
  exact .inr (.inr (.inr (.inl ⟨a, b, _, _, rfl, rfl, SqT.of ha, SqT.of hb, .cons (ps_eqT hx hy) (.cons (.inl ⟨rfl, rfl⟩) .nil)⟩)))
theorem dc_eqT {K : PySem.W.Frag} {F G : Addr → Prop} {H : Hp} {d e : Addr} {kvs ls : List (Key × V)} {ks : List Nat} {tl : Nat → List Pl × Nat} (hd : H d = some (.dK kvs)) (he : H e = some (.dK ls)) (h : DcAt F H kvs ks tl) (g : DcAt G H ls ks tl) : EqT K H 5 (.ref d) (.ref e) := by
  refine .inr (.inr (.inr (.inr ⟨d, e, kvs, ls, rfl, rfl, hd, he, by rw [Paired.len h, Paired.len g], fun p hp => ?_⟩)))
  obtain ⟨i, hi⟩ := List.getElem?_of_mem hp
  obtain ⟨s, hs, e1, e2⟩ := Paired.at_ h hi
  obtain ⟨u, hu, q⟩ := (DcAt.get (s := s) g).1 (List.mem_of_getElem? hs)
  exact ⟨u, by rw [e1]; exact hu, tl_eqT e2 q⟩
theorem eqT_up {K : PySem.W.Frag} {H : Hp} : ∀ {n : Nat} {x y : V}, EqT K H n x y → EqT K H (n + 1) x y
  | 0, _, _, h => .inl h
  | n + 1, _, _, h => by
    have pm : ∀ {xs ys : List V}, Paired (EqT K H n) xs ys → Paired (EqT K H (n + 1)) xs ys := fun p => Paired.mapP p fun _ _ q => eqT_up q
    rcases h with h | h | ⟨a, b, xs, ys, h1, h2, h3, h4, p⟩ | ⟨a, b, xs, ys, h1, h2, h3, h4, p⟩ | ⟨a, b, ks, ls, h1, h2, h3, h4, h5, h6⟩
    · exact .inl h
    · exact .inr (.inl h)
    · exact .inr (.inr (.inl ⟨a, b, xs, ys, h1, h2, h3, h4, pm p⟩))
    · exact .inr (.inr (.inr (.inl ⟨a, b, xs, ys, h1, h2, h3, h4, pm p⟩)))
    · exact .inr (.inr (.inr (.inr ⟨a, b, ks, ls, h1, h2, h3, h4, h5, fun p hp => let ⟨u, hu, q⟩ := h6 p hp; ⟨u, hu, eqT_up q⟩⟩)))
section
variable {P : Program} {w : World} {K : PySem.W.Frag} {mg : Str → Option Value} {base : Heap} {f C CM CA CB fMI fIA : Addr} {fd fdMI fdIA : FuncData} {H : Hp}
def spMoveEq (CM : Addr) : Sp := fun vs H Q _ => ∃ (v u : V) (m : Mvd) (F G : Addr → Prop), vs = [v, u] ∧ MvAt CM F H v m ∧ MvAt CM G H u m ∧ ∀ H', Same H H' → Q (.bl true) H'
theorem sc_MoveEq : FnScope ["self", "other"] ["self", "other"] (defScope sMoveEq) := ⟨rfl, rfl, rfl, by decide +kernel, rfl, by decide +kernel, by decide +kernel⟩
theorem ok_Eq (D : DefM K CM "__eq__" "Move.__eq__" sMoveEq ["self", "other"] f fd) (B : Blt mg) (TM : MCl K mg CM fMI fdMI) : FnOk P w K mg base CX0 1 f fd ["self", "other"] (spMoveEq CM) := by
  refine D.fn.ok sc_MoveEq (fun vs H Q E h => ?_) (fun cdv A outer s H vs Q E hr h => ?_)
  · obtain ⟨v, u, m, F, G, rfl, _⟩ := h; rfl
  · obtain ⟨v, u, m, F, G, rfl, ⟨a, dx, lt, d, xs, kvs, rfl, ha, _, hlt, px, hd, hk⟩, ⟨b, dy, lu, e, ys, ls, rfl, hb, _, hlu, py, he, hl⟩, k⟩ := h
    refine ⟨_, (pss_one (ps_ret (pe_and (pe_callB call_isi (by rfl) B.isi PyProof.Rows.boot_isinstance (pa_cons (pv 1) (pa_cons (pe_glob (v := .ref CM) rfl TM.gl rfl) pa_nil))) (pe_one (pe_cmpR (op_eqT hr.units) (pe_tup (pa_cons (pe_fld (pv 0) rfl) (pa_cons (pe_fld (pv 0) rfl) pa_nil))) (pe_tup (pa_cons (pe_fld (pv 1) rfl) (pa_cons (pe_fld (pv 1) rfl) pa_nil))) (nomark _)))))), ?_⟩
    refine ⟨_, rfl, _, _, _, _, true, rfl, ClsV.own _, .base (.ins hb TM.cl TM.ha TM.hn TM.ht TM.hm), TM.self, _, rfl, iteT ?_⟩
    refine ⟨_, rfl, a, CM, dx, _, _, rfl, ha, TM.cl, TM.nTh, mf_things, _, rfl, a, CM, dx, _, _, rfl, ha, TM.cl, TM.nTa, mf_tails, sz2, fun p1 hp1 => ?_⟩
    have s1 := Same.new (o := .tup [.ref lt, .ref d]) hp1
    refine ⟨_, rfl, b, CM, dy, _, _, rfl, s1 _ _ hb, TM.cl, TM.nTh, mf_things, _, rfl, b, CM, dy, _, _, rfl, s1 _ _ hb, TM.cl, TM.nTa, mf_tails, sz2, fun p2 hp2 => ?_⟩
    have s2 := Same.new (o := .tup [.ref lu, .ref e]) hp2
    have s3 := s1.trans s2
    refine ⟨5, p1, p2, _, _, by decide, rfl, rfl, SqT.of (s2 _ _ upd_same), SqT.of upd_same, .cons ?_ (.cons ?_ .nil), k _ s3⟩
    · exact eqT_up (eqT_up (ps_eqT (F := NoF) (G := NoF) (ps := m.things) ⟨lt, xs, rfl, fun z => z, s3 _ _ hlt, Paired.mono (fun _ _ => PlAt.mono s3) px⟩ ⟨lu, ys, rfl, fun z => z, s3 _ _ hlu, Paired.mono (fun _ _ => PlAt.mono s3) py⟩))
    · exact dc_eqT (s3 _ _ hd) (s3 _ _ he) ((Bl.same s3).dc hk) ((Bl.same s3).dc hl)
/-! ### InvalidArgument -/
structure ICl (K : PySem.W.Frag) (mg : Str → Option Value) (CA CB fIA : Addr) (fdIA : FuncData) : Prop where
  ae : AeC K CA
  np : PySem.W.findIn K (.ref CA) "part" = some none
  ini : PySem.W.findIn K (.ref CA) "__init__" = some (some (.ref fIA))
  tyI : PySem.W.typeIn K (.ref fIA) = some (.type "function")
  fn : Fun K "__init__" "InvalidArgument.__init__" sInvalidArgumentInit fIA fdIA
  b : Binds K fdIA ["self", "part"] []
  gl : mg "InvalidArgument" = some (.ref CA)
  bc : BaseC K mg "RunError" CB
  xf : XfC K CA
  ex : PySem.W.exmOne K (.ref CA) (.ref CA) = some true
def spIA (CA : Addr) : Sp := fun vs H Q _ => ∃ (a : Addr) (y : V), vs = [.ref a, y] ∧ H a = some (exo a CA none) ∧ ∀ d, H d = none → d ≠ a → Q .non (upd (upd H d (exd d [("part", y)])) a (exo a CA (some d)))
theorem sc_InvalidArgumentInit : FnScope ["self", "part"] ["self", "part"] (defScope sInvalidArgumentInit) := ⟨rfl, rfl, rfl, by decide +kernel, rfl, by decide +kernel, by decide +kernel⟩
theorem ok_IA (IC : ICl K mg CA CB fIA fdIA) : FnOk P w K mg base CX0 1 fIA fdIA ["self", "part"] (spIA CA) := by
  refine IC.fn.ok sc_InvalidArgumentInit (fun vs H Q E h => ?_) (fun cdv A outer s H vs Q E hr h => ?_)
  · obtain ⟨a, y, rfl, _⟩ := h; rfl
  · obtain ⟨a, y, rfl, ha, k⟩ := h
    refine ⟨_, pss_cons (ps_expr (pe_baseInit IC.bc rfl (pa_cons (pv 0) (pa_cons pe_str pa_nil)))) (pss_one (ps_put (pv 0) (pv 1))), ?_⟩
    refine ⟨_, rfl, a, CA, _, rfl, (by decide), IC.ae, ha, ?_⟩
    exact ⟨_, rfl, _, rfl, a, CA, rfl, IC.ae, IC.np, .inl ⟨ha, fun dx hdx ne => k dx hdx ne⟩⟩
/-- what then refuses -/
def NotLater (K : PySem.W.Frag) (CM : Addr) (H : Hp) (one : Mvd) (u : V) : Prop := (∃ T : String, T ∈ ["NoneType", "int", "tuple", "list", "dict"] ∧ TyX K H u (.type T)) ∨
  ∃ two : Mvd, MvAt CM NoF H u two ∧ wt two ≤ 900 ∧ ∃ i : Nat, Pl.obj i ∈ known two (touched two.tail) ∧ one.things.length ≤ i
def spThenX (K : PySem.W.Frag) (CM CA : Addr) : Sp := fun vs H Q E => ∃ (v u : V) (one : Mvd), vs = [v, u] ∧ MvAt CM NoF H v one ∧ NotLater K CM H one u ∧ ∀ d H', Same H H' → H' d = some (.xd [("part", .str "later")]) → E (.ref CA) (some d) H'
theorem ok_ThenX (D : DefM K CM "then" "Move.then" sMoveThen ["self", "later"] f fd) (B : Blt mg) (TM : MCl K mg CM fMI fdMI) (IC : ICl K mg CA CB fIA fdIA) (GIA : FnOk P w K mg base CX0 1 fIA fdIA ["self", "part"] (spIA CA))
    {fO : Addr} {fdO : FuncData} (DMostObject : DefM K CM "most_object" "Move.most_object" sMoveMostObject ["self"] fO fdO) (GMostObject : FnOk P w K mg base CX0 1 fO fdO ["self"] (spMostObject CM)) : FnOk P w K mg base (L2.CX P w) 3 f fd ["self", "later"] (spThenX K CM CA) := by
  refine D.fn.okX sc_MoveThen (fun vs H Q E h => ?_) (fun cdv A outer s H vs Q E hr h => ?_)
  · obtain ⟨v, u, one, rfl, _⟩ := h; rfl
  · obtain ⟨v, u, one, rfl, hv, hn, k⟩ := h
    refine ⟨_, (pss_cons (ps_if (PW.pt (pw_or (pt_not (pt_val (pe_callB call_isi (by rfl) B.isi PyProof.Rows.boot_isinstance (pa_cons (pv 1) (pa_cons (pe_glob (v := .ref CM) rfl TM.gl rfl) pa_nil))))) (pw_or1 (pt_cmpR op_ge (pe_meth0 (pv 1) TM.cl DMostObject.mt GMostObject (hr.mono (by first | decide | omega)) DMostObject.bd .nil pass0) (pe_callB call_len_seq (by rfl) B.len PySem.boot_len (pa_cons (pe_fld (pv 0) rfl) pa_nil)) (nomark _))))) (pss_one (ps_raise rfl (takes_of rfl rfl rfl rfl) (pmk_ae IC.ae IC.ini IC.tyI GIA (hr.mono (by first | decide | omega)) IC.b .nil pass0 rfl IC.gl (pa_cons pe_str pa_nil)))) pss_nil) pss_never), ?_⟩
    have go : ∀ H1, Same H H1 → (fun σ H2 => ∀ (vs : List V), vs = [V.str "later"] → vs.length ≤ 1000 ∧ ∀ a, H2 a = none → spIA CA (.ref a :: (vs ++ [])) (upd H2 a (exo a CA none)) (fun v H3 => v = .non ∧ ∃ (d : Addr) (fs : List (Str × V)), H3 a = some (exo a CA (some d)) ∧ H3 d = some (exd d fs) ∧ H2 d = none ∧ E (.ref CA) (some d) (upd (del H3 a) d (.xd fs))) (fun _ _ _ => False)) (start ["self", "later"] [v, u]) H1 := fun H1 s1 vs e => by
      subst e
      refine ⟨by decide, fun a ha => ⟨a, _, rfl, upd_same, fun d hd ne => ⟨rfl, d, _, upd_same, by rw [upd_ne ne]; exact upd_same, by rw [upd_ne ne] at hd; exact hd, k d _ (fun b o e => ?_) upd_same⟩⟩⟩
      rw [upd_ne ne] at hd
      have e1 := s1 _ _ e
      rw [upd_ne (ne_of_none e1 hd)]
      unfold del
      rw [if_neg (ne_of_none e1 ha), upd_ne (ne_of_none e1 ha), upd_ne (ne_of_none e1 hd), upd_ne (ne_of_none e1 ha)]
      exact e1
    rcases hn with ⟨T, hT, hty⟩ | ⟨two, hu, hw, i, hi, hlen⟩
    · refine ⟨_, rfl, _, _, _, _, false, rfl, ClsV.own _, hty, TM.noT T hT, _, rfl, iteT (iteT ?_)⟩
      exact go _ (Same.refl _) _ rfl
    · obtain ⟨b, dy, lu, e, ys, ls, rfl, hb, _, hlu, py, he, hl⟩ := id hu
      obtain ⟨a, dx, lt, d, xs, kvs, rfl, ha, _, hlt, px, hd, hk⟩ := id hv
      have lx := Paired.len px
      refine ⟨_, rfl, _, _, _, _, true, rfl, ClsV.own _, .base (.ins hb TM.cl TM.ha TM.hn TM.ht TM.hm), TM.self, _, rfl, ?_⟩
      refine iteF ?_
      refine ⟨_, rfl, b, dy, _, rfl, hb, rfl, _, two, rfl, hu, hw, fun r H1 s1 hr1 hr2 => ?_⟩
      refine ⟨_, rfl, a, CM, dx, _, _, rfl, s1 _ _ ha, TM.cl, TM.nTh, mf_things, lt, _, rfl, .inl (SqL.of (s1 _ _ hlt)), _, _, rfl, rfl, _, rfl, ?_⟩
      rw [decide_eq_true (show ((xs.length : Nat) : Int) ≤ r by have := hr1 i hi; omega)]
      refine iteT ?_
      exact go _ s1 _ rfl
def spIsRefused (K : PySem.W.Frag) (CM : Addr) : Sp := fun vs H Q _ => ∃ (v u : V) (one : Mvd), vs = [v, u] ∧ MvAt CM NoF H v one ∧ NotLater K CM H one u ∧ ∀ H', Same H H' → Q (.bl true) H'
theorem sc_LawIsRefused : FnScope ["one", "later", "e"] ["one", "later"] (defScope sLawIsRefused) := ⟨rfl, rfl, rfl, by decide +kernel, rfl, by decide +kernel, by decide +kernel⟩
theorem ok_IsRefused (D : DefF K mg "_law_is_refused" sLawIsRefused ["one", "later"] f fd) (TM : MCl K mg CM fMI fdMI) (IC : ICl K mg CA CB fIA fdIA)
    {fT : Addr} {fdT : FuncData} (DThen : DefM K CM "then" "Move.then" sMoveThen ["self", "later"] fT fdT) (GThenX : FnOk P w K mg base (L2.CX P w) 3 fT fdT ["self", "later"] (spThenX K CM CA)) : FnOk P w K mg base CX0 4 f fd ["one", "later"] (spIsRefused K CM) := by
  refine D.fn.ok sc_LawIsRefused (fun vs H Q E h => ?_) (fun cdv A outer s H vs Q E hr h => ?_)
  · obtain ⟨v, u, one, rfl, _⟩ := h; rfl
  · obtain ⟨v, u, one, rfl, hv, hn, k⟩ := h
    refine ⟨_, pss_one (ps_try_as (i := 2) rfl rfl sc_LawIsRefused.nd rfl rfl ⟨rfl, by decide, .inl IC.gl⟩ takes0
      (fun W pn xe tk _ => pss_cons (ps_expr (pe_methW (pv 0) TM.cl DThen.mt GThenX hr DThen.bd (fun σ => passAt tk σ) (pa_cons (pv 1) pa_nil))) (pss_one (ps_ret pe_bl)))
      (fun a oe cls d pn hz hf => pss_one (ps_ret (pe_cmpR op_eq (pe_xf IC.xf IC.np hz hf (pv 2)) pe_str (nomark _))))), ?_⟩
    obtain ⟨a, dx, lt, d, xs, kvs, rfl, ha, _⟩ := id hv
    refine ⟨_, rfl, a, dx, _, rfl, ha, rfl, _, rfl, _, u, one, rfl, hv, hn, fun dd H1 s1 hdd => ?_⟩
    refine ⟨true, IC.ex, fun _ b hb => ?_, fun z => nomatch z⟩
    refine ⟨_, rfl, rfl, rfl, dd, _, _, rfl, hdd, rfl, rfl, ?_⟩
    rw [show decide (V.str "later" = V.str (Str.ofString "later")) = true from decide_eq_true rfl]
    exact k _ s1
end
end Wd
set_option Elab.async false
set_option linter.all false
set_option maxRecDepth 100000
set_option maxHeartbeats 4000000
/-! the law's draws -/
namespace Wd
open PySem L2 Mv
/-- all but L stay -/
def Ch (L : List Addr) (H H' : Hp) : Prop := ∀ b o, H b = some o → b ∉ L → H' b = some o
theorem Ch.refl {L : List Addr} {H : Hp} : Ch L H H := fun _ _ e _ => e
theorem Ch.trans {L : List Addr} {H H1 H2 : Hp} (h : Ch L H H1) (k : Ch L H1 H2) : Ch L H H2 := fun b o e n => k b o (h b o e n) n
theorem Ch.up {L M : List Addr} {H H1 : Hp} (h : Ch L H H1) (s : ∀ a ∈ L, a ∈ M) : Ch M H H1 := fun b o e n => h b o e fun z => n (s b z)
theorem Ch.put {L : List Addr} {H : Hp} {a : Addr} {o : HO} (h : a ∈ L) : Ch L H (upd H a o) := fun b o' e n => by rw [upd_ne (fun z => n (by rw [z]; exact h))]; exact e
theorem Same.ch {L : List Addr} {H H1 : Hp} (s : Same H H1) : Ch L H H1 := fun b o e _ => s b o e
/-- the list that numbers are drawn from, at most n drawn so far -/
def SrcAt (sl : Addr) (n : Nat) (H : Hp) : Prop := ∃ a b c : Int, H sl = some (.lst [.int a, .int b, .int c]) ∧ 0 ≤ a ∧ 0 ≤ b ∧ b < 2147483647 ∧ 0 ≤ c ∧ c ≤ (n : Int)
theorem SrcAt.same {sl : Addr} {n : Nat} {H H' : Hp} (h : SrcAt sl n H) (s : Same H H') : SrcAt sl n H' := let ⟨a, b, c, e, r⟩ := h; ⟨a, b, c, s _ _ e, r⟩
theorem SrcAt.ch {sl : Addr} {n : Nat} {H H' : Hp} {L : List Addr} (h : SrcAt sl n H) (s : Ch L H H') (hn : sl ∉ L) : SrcAt sl n H' := let ⟨a, b, c, e, r⟩ := h; ⟨a, b, c, s _ _ e hn, r⟩
theorem SrcAt.le {sl : Addr} {n m : Nat} {H : Hp} (h : SrcAt sl n H) (l : n ≤ m) : SrcAt sl m H := let ⟨a, b, c, e, r1, r2, r3, r4, r5⟩ := h; ⟨a, b, c, e, r1, r2, r3, r4, by omega⟩
theorem p64 : (2 : Int) ^ 64 = 18446744073709551616 := by decide
theorem cdiv30 {u b : Int} (h : 1 ≤ b) (hb : b ≤ 1000000) : CDivW u b := wide_div (b := 30) (by omega) (by
  have : (2 : Nat) ^ 30 = 1073741824 := by decide
  omega) (by decide) (by decide)
theorem mod_lt {a b : Int} (h : 0 < b) : 0 ≤ a % b ∧ a % b < b := ⟨Int.emod_nonneg _ (by omega), Int.emod_lt_of_pos _ h⟩
section
variable {P : Program} {w : World} {K : PySem.W.Frag} {mg : Str → Option Value} {base : Heap} {f C CM : Addr} {fd : FuncData} {H : Hp}
def spLawCellAt (K : PySem.W.Frag) : Sp := fun vs H Q _ => ∃ (a : Addr) (ns : List Int) (j : Nat), vs = [.ref a, .int (j : Nat)] ∧ SqL K H a (ns.map V.int) ∧ ∀ i : Int, Q (.int i) H
theorem sc_LawCellAt : FnScope ["script", "k"] ["script", "k"] (defScope sLawCellAt) := ⟨rfl, rfl, rfl, by decide +kernel, rfl, by decide +kernel, by decide +kernel⟩
theorem ok_LawCellAt (D : DefF K mg "_law_cell_at" sLawCellAt ["script", "k"] f fd) (B : Blt mg) : FnOk P w K mg base CX0 1 f fd ["script", "k"] (spLawCellAt K) := by
  refine D.fn.ok sc_LawCellAt (fun vs H Q E h => ?_) (fun cdv A outer s H vs Q E hr h => ?_)
  · obtain ⟨a, ns, j, rfl, _⟩ := h; rfl
  · obtain ⟨a, ns, j, rfl, hl, k⟩ := h
    refine ⟨_, (pss_cons (ps_if (pt_cmpR op_lt (pv 1) (pe_callB call_len_seq (by rfl) B.len PySem.boot_len (pa_cons (pv 0) pa_nil)) (nomark _)) (pss_one (ps_ret (pe_ix ix_list (pv 0) (pv 1) (fun _ _ => rfl)))) pss_nil) (pss_one (ps_ret pe_int))), ?_⟩
    refine ⟨_, rfl, _, rfl, a, _, rfl, .inl hl, _, _, rfl, rfl, _, rfl, ?_⟩
    refine ite2 (fun h => ?_) (fun h => ?_)
    · have hj : j < ns.length := by
        have := of_decide_eq_true h
        rw [List.length_map] at this; omega
      exact ⟨_, rfl, _, rfl, a, _, _, _, rfl, rfl, hl, atI_cell hj, k _⟩
    · exact k _
def spLawSource : Sp := fun vs H Q _ => ∃ cell : Int, vs = [.int cell] ∧ ∀ (l : Addr) H', Same H H' → H l = none → SrcAt l 0 H' → Q (.ref l) H'
theorem sc_LawSource : FnScope ["cell"] ["cell"] (defScope sLawSource) := ⟨rfl, rfl, rfl, by decide +kernel, rfl, by decide +kernel, by decide +kernel⟩
theorem ok_LawSource (D : DefF K mg "_law_source" sLawSource ["cell"] f fd) (B : Blt mg) : FnOk P w K mg base CX0 1 f fd ["cell"] spLawSource := by
  refine D.fn.ok sc_LawSource (fun vs H Q E h => ?_) (fun cdv A outer s H vs Q E hr h => ?_)
  · obtain ⟨c, rfl, _⟩ := h; rfl
  · obtain ⟨cell, rfl, k⟩ := h
    refine ⟨_, (pss_one (ps_ret (pe_lst (pa_cons (pe_op op_mul (pv 0) (pe_callTy call_int1 (by rfl) B.int PyProof.Rows.boot_int (pa_cons (pe_cmpR op_ge (pv 0) (pe_op op_pow pe_int pe_int) (nomark _)) pa_nil))) (pa_cons (pe_op op_mod (pe_callTy call_int1 (by rfl) B.int PyProof.Rows.boot_int (pa_cons (pv 0) pa_nil)) pe_int) (pa_cons pe_int pa_nil)))))), ?_⟩
    refine ⟨_, rfl, _, rfl, _, _, rfl, rfl, ⟨by decide, by decide, by decide⟩, _, _, rfl, rfl, .inr ⟨_, rfl, _, _, rfl, rfl, .inr ?_, ?_⟩⟩
    · split <;> decide
    refine ⟨_, rfl, .inl ⟨_, rfl, _, _, rfl, rfl, (by show (0 : Int) < 2147483647; decide), three_line, fun l hl => ?_⟩⟩
    obtain ⟨r0, r1⟩ := mod_lt (a := cell) (b := 2147483647) (by decide)
    refine k l _ (Same.new hl) hl ⟨_, _, _, upd_same, ?_, r0, r1, by decide, by decide⟩
    by_cases h : (10 : Int) ^ (18 : Int).toNat ≤ cell
    · rw [if_pos (decide_eq_true h), Int.mul_one]
      have : (0 : Int) ≤ 10 ^ (18 : Int).toNat := by decide
      omega
    · rw [if_neg (fun z => h (of_decide_eq_true z)), Int.mul_zero]
      decide
def spLawDraw : Sp := fun vs H Q _ => ∃ (sl : Addr) (b : Int) (n : Nat), vs = [.ref sl, .int b] ∧ 1 ≤ b ∧ b ≤ 1000000 ∧ n ≤ 100000 ∧ SrcAt sl n H ∧ ∀ (r : Nat) H', ((r : Nat) : Int) < b → Ch [sl] H H' → SrcAt sl (n + 1) H' → Q (.int (r : Nat)) H'
theorem sc_LawDraw : FnScope ["source", "bound", "digit", "number"] ["source", "bound"] (defScope sLawDraw) := ⟨rfl, rfl, rfl, by decide +kernel, rfl, by decide +kernel, by decide +kernel⟩
theorem ok_LawDraw (D : DefF K mg "_law_draw" sLawDraw ["source", "bound"] f fd) (B : Blt mg) : FnOk P w K mg base CX0 1 f fd ["source", "bound"] spLawDraw := by
  refine D.fn.ok sc_LawDraw (fun vs H Q E h => ?_) (fun cdv A outer s H vs Q E hr h => ?_)
  · obtain ⟨sl, b, n, rfl, _⟩ := h; rfl
  · obtain ⟨sl, b, n, rfl, h1, hb, hn, ⟨u, v, c, hs, u0, v0, v1, c0, c1⟩, k⟩ := h
    refine ⟨_, (pss_cons (ps_if (pt_cmpR op_gt (pe_ix ix_list (pv 0) pe_int (fun _ _ => rfl)) pe_int (nomark _)) (pss_cons (ps_set (i := 2) sc_LawDraw.nd rfl (.inl rfl) (pe_op op_mod (pe_callTy call_int1 (by rfl) B.int PyProof.Rows.boot_int (pa_cons (pe_ix ix_list (pv 0) pe_int (fun _ _ => rfl)) pa_nil)) (pv 1))) (pss_cons (ps_asg (pe_op op_fdivW (pe_ix ix_list (pv 0) pe_int (fun _ _ => rfl)) (pv 1)) (pg_sub (pv 0) pe_int set_list)) (pss_one (ps_ret (pv 2))))) pss_nil) (pss_cons (ps_asg (pe_op op_add (pe_ix ix_list (pv 0) pe_int (fun _ _ => rfl)) pe_int) (pg_sub (pv 0) pe_int set_list)) (pss_cons (ps_set (i := 3) sc_LawDraw.nd rfl (.inl rfl) (pe_op op_mod (pe_callTy call_int1 (by rfl) B.int PyProof.Rows.boot_int (pa_cons (pe_op op_pow (pe_op op_add (pe_op op_add (pe_ix ix_list (pv 0) pe_int (fun _ _ => rfl)) (pe_op op_mulW pe_int (pe_ix ix_list (pv 0) pe_int (fun _ _ => rfl)))) pe_int) pe_int) pa_nil)) pe_int)) (pss_cons (ps_set (i := 3) sc_LawDraw.nd rfl (.inl rfl) (pe_op op_mod (pe_callTy call_int1 (by rfl) B.int PyProof.Rows.boot_int (pa_cons (pe_op op_mulW (pv 3) (pe_op op_add (pe_op op_add (pe_op op_fdivW (pv 3) pe_int) pe_int) (pe_ix ix_list (pv 0) pe_int (fun _ _ => rfl)))) pa_nil)) pe_int)) (pss_one (ps_ret (pe_op op_mod (pe_callTy call_int1 (by rfl) B.int PyProof.Rows.boot_int (pa_cons (pe_op op_fdivW (pe_op op_mod (pe_callTy call_int1 (by rfl) B.int PyProof.Rows.boot_int (pa_cons (pe_op op_mulW (pv 3) (pe_op op_add (pe_op op_fdivW (pv 3) pe_int) pe_int)) pa_nil)) pe_int) pe_int) pa_nil)) (pv 1)))))))), ?_⟩
    refine ⟨_, rfl, sl, _, 0, _, rfl, rfl, SqL.of hs, rfl, _, _, rfl, rfl, _, rfl, ?_⟩
    refine ite2 (fun h => ?_) (fun h => ?_)
    · have hu : 0 < u := of_decide_eq_true h
      refine ⟨_, rfl, sl, _, 0, _, rfl, rfl, SqL.of hs, rfl, .inl ⟨_, rfl, _, rfl, _, _, rfl, rfl, (by show 0 < b; omega), ?_⟩⟩
      refine ⟨_, rfl, sl, _, 0, _, rfl, rfl, SqL.of hs, rfl, _, rfl, _, _, rfl, rfl, cdiv30 h1 hb, ?_⟩
      refine ⟨_, rfl, sl, _, 0, 0, rfl, rfl, hs, rfl, _, rfl, ?_⟩
      obtain ⟨r0, r1⟩ := mod_lt (a := u) (b := b) (by omega)
      obtain ⟨r, hr⟩ := nat_int r0
      have : (u % b) = ((r : Nat) : Int) := hr
      show Q (.int (u % b)) _
      rw [this]
      exact k r _ (by omega) (Ch.put (List.mem_singleton.mpr rfl)) ⟨u / b, v, c, upd_same, Int.ediv_nonneg u0 (by omega), v0, v1, c0, by omega⟩
    · refine ⟨_, rfl, sl, _, 2, _, rfl, rfl, SqL.of hs, rfl, _, _, rfl, rfl, _, rfl, sl, _, 2, 2, rfl, rfl, hs, rfl, ?_⟩
      have hs1 : upd H sl (.lst [.int u, .int v, .int (c + 1)]) sl = some (.lst [.int u, .int v, .int (c + 1)]) := upd_same
      have c1 : Ch [sl] H (upd H sl (.lst [.int u, .int v, .int (c + 1)])) := Ch.put (List.mem_singleton.mpr rfl)
      have eset : ([.int u, .int v, .int c] : List V).set 2 (.int (c + 1)) = [.int u, .int v, .int (c + 1)] := rfl
      rw [eset]
      generalize upd H sl (.lst [.int u, .int v, .int (c + 1)]) = H1 at hs1 c1 ⊢
      have q64 := p64
      refine ⟨_, rfl, sl, _, 1, _, rfl, rfl, SqL.of hs1, rfl, _, rfl, sl, _, 2, _, rfl, rfl, SqL.of hs1, rfl, _, _, rfl, rfl, cm64 (by omega) (by omega) (by omega) (by omega), _, _, rfl, rfl, _, _, rfl, rfl, _, _, rfl, rfl, ⟨by decide, by decide, by omega⟩, .inl ⟨_, rfl, _, _, rfl, rfl, (by show (0 : Int) < 2147483629; decide), ?_⟩⟩
      obtain ⟨a0, a1⟩ := mod_lt (a := (v + 7919 * (c + 1) + 1) ^ (5 : Int).toNat) (b := 2147483629) (by decide)
      obtain ⟨x, hx⟩ : ∃ x, x = (v + 7919 * (c + 1) + 1) ^ (5 : Int).toNat % 2147483629 := ⟨_, rfl⟩
      rw [← hx] at a0 a1
      dsimp only
      rw [← hx]
      have d1 : 0 ≤ x / 1009 := Int.ediv_nonneg a0 (by decide)
      have d2 : x / 1009 ≤ x := Int.ediv_le_self _ a0
      refine ⟨_, rfl, _, rfl, _, _, rfl, rfl, cdiv30 (by decide) (by decide), _, _, rfl, rfl, _, rfl, sl, _, 2, _, rfl, rfl, SqL.of hs1, rfl, _, _, rfl, rfl, _, _, rfl, rfl, cm64 (by omega) (by omega) (by omega) (by omega), .inl ⟨_, rfl, _, _, rfl, rfl, (by show (0 : Int) < 2147483587; decide), ?_⟩⟩
      dsimp only
      obtain ⟨b0, b1⟩ := mod_lt (a := x * (x / 1009 + 69621 + (c + 1))) (b := 2147483587) (by decide)
      obtain ⟨y, hy⟩ : ∃ y, y = x * (x / 1009 + 69621 + (c + 1)) % 2147483587 := ⟨_, rfl⟩
      rw [← hy] at b0 b1
      rw [← hy]
      have e1 : 0 ≤ y / 2003 := Int.ediv_nonneg b0 (by decide)
      have e2 : y / 2003 ≤ y := Int.ediv_le_self _ b0
      refine ⟨_, rfl, _, rfl, _, _, rfl, rfl, cdiv30 (by decide) (by decide), _, _, rfl, rfl, _, _, rfl, rfl, cm64 (by omega) (by omega) (by omega) (by omega), .inl ⟨_, rfl, _, _, rfl, rfl, (by show (0 : Int) < 2147483579; decide), _, _, rfl, rfl, cdiv30 (by decide) (by decide), .inl ⟨_, rfl, _, rfl, _, _, rfl, rfl, (by show 0 < b; omega), ?_⟩⟩⟩
      show Q (.int (y * (y / 2003 + 40692) % 2147483579 / 7 % b)) H1
      obtain ⟨r0, r1⟩ := mod_lt (a := y * (y / 2003 + 40692) % 2147483579 / 7) (b := b) (by omega)
      obtain ⟨r, hr⟩ := nat_int r0
      rw [hr] at r1 ⊢
      exact k r _ r1 c1 ⟨u, v, c + 1, hs1, u0, v0, v1, by omega, by omega⟩
def spLawPick (K : PySem.W.Frag) : Sp := fun vs H Q _ => ∃ (sl li : Addr) (xs : List V) (n : Nat), vs = [.ref sl, .ref li] ∧ H li = some (.lst xs) ∧ li ≠ sl ∧ 1 ≤ xs.length ∧ xs.length ≤ 1000 ∧ n ≤ 100000 ∧ SrcAt sl n H ∧ ∀ x H', x ∈ xs → Ch [sl] H H' → SrcAt sl (n + 1) H' → Q x H'
theorem sc_LawPick : FnScope ["source", "items"] ["source", "items"] (defScope sLawPick) := ⟨rfl, rfl, rfl, by decide +kernel, rfl, by decide +kernel, by decide +kernel⟩
theorem ok_LawPick (D : DefF K mg "_law_pick" sLawPick ["source", "items"] f fd) (B : Blt mg) {fD : Addr} {fdD : FuncData} (DLawDraw : DefF K mg "_law_draw" sLawDraw ["source", "bound"] fD fdD) (GLawDraw : FnOk P w K mg base CX0 1 fD fdD ["source", "bound"] spLawDraw) : FnOk P w K mg base CX0 2 f fd ["source", "items"] (spLawPick K) := by
  refine D.fn.ok sc_LawPick (fun vs H Q E h => ?_) (fun cdv A outer s H vs Q E hr h => ?_)
  · obtain ⟨sl, li, xs, n, rfl, _⟩ := h; rfl
  · obtain ⟨sl, li, xs, n, rfl, hl, ne, h1, h2, hn, hs, k⟩ := h
    refine ⟨_, (pss_one (ps_ret (pe_ix ix_list (pv 1) (pe_call GLawDraw (hr.mono (by first | decide | omega)) rfl DLawDraw.gl DLawDraw.fn.kp DLawDraw.bd .nil pass0 (pa_cons (pv 0) (pa_cons (pe_callB call_len_seq (by rfl) B.len PySem.boot_len (pa_cons (pv 1) pa_nil)) pa_nil))) (fun _ _ => rfl)))), ?_⟩
    refine ⟨_, rfl, _, rfl, _, rfl, li, _, rfl, .inl (SqL.of hl), sl, _, n, rfl, by omega, by omega, hn, hs, fun r H1 hr1 c1 s1 => ?_⟩
    have hr2 : r < xs.length := by omega
    have hl1 := c1 _ _ hl (fun z => ne (List.mem_singleton.mp z))
    exact ⟨li, xs, _, _, rfl, rfl, SqL.of hl1, atI_nat (List.getElem?_eq_getElem hr2), k _ _ (List.getElem_mem hr2) c1 s1⟩
end
end Wd
set_option Elab.async false
set_option linter.all false
set_option maxRecDepth 100000
set_option maxHeartbeats 4000000
/-! worlds in the heap -/
namespace Wd
open PySem L2 Mv
/-- the row of a pool as it stands -/
def prow (s : Nat) (t : List Pl × Nat) : List Pl := t.1 ++ (List.range (60 - t.2)).map fun j => Pl.pool s (t.2 + j)
def ObAt (H : Hp) (v : V) (o : Pl × Nat) : Prop := ∃ a u, v = .ref a ∧ H a = some (.tup [u, .int (o.2 : Nat)]) ∧ PlAt H u o.1
theorem ObAt.but {H H' : Hp} (s : ∀ b xs, H b = some (.tup xs) → H' b = some (.tup xs)) {v : V} {o : Pl × Nat} (h : ObAt H v o) : ObAt H' v o := let ⟨a, u, h1, h2, h3⟩ := h; ⟨a, u, h1, s _ _ h2, h3.but s⟩
def pkv (k : Nat) : List Addr → List (Key × V)
  | [] => []
  | l :: ls => (Sum.inl ((k : Nat) : Int), .ref l) :: pkv (k + 1) ls
theorem pkv_get : ∀ {ls : List Addr} {k s : Nat}, k ≤ s → valV (pkv k ls) (Sum.inl ((s : Nat) : Int) : Key) = (ls[s - k]?).map V.ref
  | [], _, _, _ => by rw [List.getElem?_nil]; rfl
  | l :: ls, k, s, h => by
    by_cases e : k = s
    · subst e
      rw [Nat.sub_self]
      exact valV_pos rfl
    · have ne : ¬ (Sum.inl ((k : Nat) : Int) : Key) = Sum.inl ((s : Nat) : Int) := fun z => e (Int.ofNat.inj (Sum.inl.inj z))
      show valV ((Sum.inl ((k : Nat) : Int), V.ref l) :: pkv (k + 1) ls) _ = _
      rw [valV_neg ne, pkv_get (by omega), show s - k = (s - (k + 1)) + 1 by omega, List.getElem?_cons_succ]
theorem pkv_snoc : ∀ {ls : List Addr} {k : Nat} {l : Addr}, pkv k ls ++ [(Sum.inl ((k + ls.length : Nat) : Int), .ref l)] = pkv k (ls ++ [l])
  | [], _, _ => rfl
  | a :: ls, k, l => by
    show (Sum.inl ((k : Nat) : Int), V.ref a) :: (pkv (k + 1) ls ++ [(Sum.inl ((k + (ls.length + 1) : Nat) : Int), V.ref l)]) = (Sum.inl ((k : Nat) : Int), V.ref a) :: pkv (k + 1) (ls ++ [l])
    rw [← pkv_snoc, show k + (ls.length + 1) = k + 1 + ls.length by omega]
theorem pkv_len : ∀ {ls : List Addr} {k : Nat}, (pkv k ls).length = ls.length
  | [], _ => rfl
  | _ :: ls, k => by show (pkv (k + 1) ls).length + 1 = ls.length + 1; rw [pkv_len]
def wkv (lo dp : Addr) : List (Key × V) := [(Sum.inr "objects", .ref lo), (Sum.inr "pools", .ref dp)]
theorem wkv_merge {lo dp : Addr} : mergeK [] [((Sum.inr "objects" : Key), V.ref lo), (Sum.inr "pools", .ref dp)] = wkv lo dp := by kernel_rfl
theorem wkv_objects {lo dp : Addr} : valV (wkv lo dp) (Sum.inr "objects" : Key) = some (.ref lo) := by kernel_rfl
theorem wkv_pools {lo dp : Addr} : valV (wkv lo dp) (Sum.inr "pools" : Key) = some (.ref dp) := by kernel_rfl
/-- a world at v, its lists at fp -/
def WoAt (fp : List Addr) (H : Hp) (v : V) (W : Wo) : Prop := ∃ wd dp lo lps xs, v = .ref wd ∧ fp = lo :: lps ∧ lps.length = 8 ∧ (lo :: lps).Nodup ∧ H wd = some (.dK (wkv lo dp)) ∧ H dp = some (.dK (pkv 1 lps)) ∧ H lo = some (.lst xs) ∧ Paired (ObAt H) xs W.objs ∧
  ∀ j l, lps[j]? = some l → ∃ ys, H l = some (.lst ys) ∧ Paired (PlAt H) ys (prow (j + 1) (W.pl (j + 1)))
theorem WoAt.bl {fp L : List Addr} {H H' : Hp} (s : Ch L H H') (hl : ∀ a ∈ L, ∃ xs, H a = some (.lst xs)) (hn : ∀ a ∈ fp, a ∉ L) {v : V} {W : Wo} (h : WoAt fp H v W) : WoAt fp H' v W := by
  obtain ⟨wd, dp, lo, lps, xs, rfl, rfl, h8, nd, hw, hd, ho, px, hp⟩ := h
  have off : ∀ b o, (∀ ys, o ≠ .lst ys) → H b = some o → H' b = some o := fun b o z e => s _ _ e fun m => by
    obtain ⟨ys, ey⟩ := hl b m
    rw [e] at ey
    cases ey
    exact z _ rfl
  have tu : ∀ b zs, H b = some (.tup zs) → H' b = some (.tup zs) := fun b zs e => off _ _ (fun _ z => nomatch z) e
  refine ⟨wd, dp, lo, lps, xs, rfl, rfl, h8, nd, off _ _ (fun _ z => nomatch z) hw, off _ _ (fun _ z => nomatch z) hd, s _ _ ho (hn _ List.mem_cons_self), Paired.mono (fun _ _ => ObAt.but tu) px, fun j l hj => ?_⟩
  obtain ⟨ys, h1, h2⟩ := hp j l hj
  exact ⟨ys, s _ _ h1 (hn _ (List.mem_cons_of_mem _ (List.mem_of_getElem? hj))), Paired.mono (fun _ _ => PlAt.but tu) h2⟩
theorem WoAt.same {fp : List Addr} {H H' : Hp} (s : Same H H') {v : V} {W : Wo} (h : WoAt fp H v W) : WoAt fp H' v W := h.bl (L := []) (Same.ch s) (fun a m => absurd m List.not_mem_nil) fun a _ m => absurd m List.not_mem_nil
theorem fresh_of {H H' : Hp} {a : Addr} (s : Same H H') (h : H' a = none) : H a = none := by
  cases e : H a with
  | none => rfl
  | some o => rw [s _ _ e] at h; cases h
section
variable {P : Program} {w : World} {K : PySem.W.Frag} {mg : Str → Option Value} {base : Heap} {f C CM : Addr} {fd : FuncData} {H : Hp}
def spLawPlaces : Sp := fun vs H Q _ => ∃ (ls : Addr) (z : List Nat), vs = [.ref ls] ∧ H ls = some (.lst (z.map fun s => V.int (s : Nat))) ∧ z.length ≤ 100 ∧ ∀ fp r H', Same H H' → (∀ b ∈ fp, H b = none) → WoAt fp H' r (wo0 z) → Q r H'
theorem sc_LawPlaces : FnScope ["sizes", "objects", "order", "size", "pools", "count"] ["sizes"] (defScope sLawPlaces) := ⟨rfl, rfl, rfl, by decide +kernel, rfl, by decide +kernel, by decide +kernel⟩
theorem ok_LawPlaces (D : DefF K mg "_law_places" sLawPlaces ["sizes"] f fd) (B : Blt mg) : FnOk P w K mg base CX0 1 f fd ["sizes"] spLawPlaces := by
  refine D.fn.ok sc_LawPlaces (fun vs H Q E h => ?_) (fun cdv A outer s H vs Q E hr h => ?_)
  · obtain ⟨ls, z, rfl, _⟩ := h; rfl
  · obtain ⟨ls, z, rfl, hl, hz, k⟩ := h
    refine ⟨_, (pss_cons (ps_setLc (i := 1) (own := [("order", 2), ("size", 3)]) (tt := tYes) (g := (gTup K 2 (gCons (gName 2) (gCons (gName 3) gNil)))) rfl sc_LawPlaces.nd rfl rfl (sw_true rfl rfl rfl (by decide +kernel)) (pi_enum rfl B.enm (pa_cons (pv 0) pa_nil)) (blkOk_by (N := ["sizes", "objects", "order", "size", "pools", "count"]) (sc := defScope sLawPlaces) (by decide +kernel)) (fun _ _ _ _ _ => (pg_tup rfl (pgs_cons (pg_name (i := 2) sc_LawPlaces.nd rfl (.inl rfl) (.inr rfl)) (pgs_cons (pg_name (i := 3) sc_LawPlaces.nd rfl (.inl rfl) (.inr rfl)) pgs_nil)))) (fun _ _ _ _ _ => pts_nil) (fun _ _ _ _ _ => (pe_tup (pa_cons (pe_tup (pa_cons pe_str (pa_cons (pv 2) pa_nil))) (pa_cons (pv 3) pa_nil))))) (pss_cons (ps_set (i := 4) sc_LawPlaces.nd rfl (.inl rfl) pe_dnewK) (pss_cons (ps_for PassesOwn.never rfl (pi_range2 rfl B.range (pa_cons pe_int (pa_cons pe_int pa_nil))) (pg_name (i := 3) sc_LawPlaces.nd rfl (.inr rfl)) (pss_one (ps_dput (hu_of hr) (pv 4) (pv 3) (pe_lc (own := [("count", 5)]) (g := gName 5) (tt := tYes) rfl sc_LawPlaces.nd (pi_range1 rfl B.range (pa_cons pe_int pa_nil)) (blkOk_by (N := ["sizes", "objects", "order", "size", "pools", "count"]) (sc := defScope sLawPlaces) (by decide +kernel)) (fun _ _ _ _ _ => pg_name (i := 5) sc_LawPlaces.nd rfl (Or.inl rfl)) (fun _ _ _ _ _ => pts_nil) (fun _ _ _ _ _ => (pe_tup (pa_cons pe_str (pa_cons (pv 3) (pa_cons (pv 5) pa_nil)))))) rfl))) (pss_one (ps_ret (pe_disp (pps_cons pe_str (pv 1) (pps_cons pe_str (pv 4) pps_nil)) rfl rfl (List.cons_ne_nil _ _) (by decide))))))), ?_⟩
    refine ⟨_, rfl, ls, _, rfl, SqL.of hl, fun D1 hD1 => lc_mapW (walk_enum (xs := z.map fun s => V.int (s : Nat))) (R := ObAt) (fun k2 q => ObAt.but k2 q) (wo0 z).objs hD1 (fun _ s => SqL.of (s _ _ hl)) ?_ ?_ ?_ ?_ ?_ ?_⟩
    · rintro i H1 x H2 _ _ ⟨T, x1, x2, rfl, hT, rfl, _, _⟩
      exact Same.new hT
    · show _ = (z.zipIdx.map _).length
      rw [List.length_map, List.length_map, List.length_zipIdx]
    · rw [List.length_map]; omega
    · rintro j b hb x H1 H2 s1 s2 ⟨T, x1, x2, rfl, hT, rfl, e1, e2⟩ Q' k'
      obtain ⟨s, hs, eb⟩ : ∃ s, z[j]? = some s ∧ (Pl.obj j, s) = b := by
        cases q : z[j]? with
        | none =>
          have hb : (z.zipIdx.map fun p => (Pl.obj p.2, p.1))[j]? = some b := hb
          rw [List.getElem?_map, List.getElem?_zipIdx, q] at hb
          cases hb
        | some s => rw [wo0_at q] at hb; exact ⟨s, rfl, Option.some.inj hb⟩
      subst eb
      have e1 : V.int ((j : Nat) : Int) = x1 := Option.some.inj e1
      have e2 : (z.map fun s => V.int ((s : Nat) : Int))[j]? = some x2 := e2
      rw [List.getElem?_map, hs] at e2
      have e2 : V.int ((s : Nat) : Int) = x2 := Option.some.inj e2
      subst e1; subst e2
      refine ⟨T, _, rfl, SqT.of upd_same, rfl, _, _, rfl, _, _, rfl, rfl, rfl, ?_⟩
      refine ⟨_, rfl, sz2, fun p1 hp1 => ⟨_, rfl, sz2, fun p2 hp2 => ?_⟩⟩
      have s3 := Same.new (o := .tup [.str "object", .int ((j : Nat) : Int)]) hp1
      have s4 := Same.new (o := .tup [.ref p1, .int ((s : Nat) : Int)]) hp2
      exact k' _ _ (s3.trans s4) ⟨p2, .ref p1, rfl, upd_same, p1, rfl, s4 _ _ upd_same⟩
    · intro x σ H1 P' Q' h hx
      obtain ⟨a, xs, e1, e2, e3, u, r, e4, v, r', e5, e6, e7⟩ := hx
      exact ⟨a, xs, e1, e2, e3, u, r, e4, v, r', e5, e6, h _ _ e7⟩
    · intro H1 xs s1 hD py
      refine fun dp hdp => ?_
      have s2 := s1.trans (Same.new (o := .dK []) hdp)
      have hD2 := Same.new (o := .dK []) hdp _ _ hD
      have py2 := Paired.mono (fun _ _ => ObAt.but fun b zs e => Same.new (o := .dK []) hdp b (.tup zs) e) py
      have odp := fresh_of s1 hdp
      have nDd : D1 ≠ dp := ne_of_none hD hdp
      refine ⟨1, 9, rfl, ⟨by decide, by decide, by decide, by decide⟩, ?_⟩
      refine for_range (lo := 1) (n := 8) (fun i σ H' => (∃ p3, σ = [some (.ref ls), some (.ref D1), none, p3, some (.ref dp), none]) ∧ Same H H' ∧ H' D1 = some (.lst xs) ∧ Paired (ObAt H') xs (wo0 z).objs ∧
        ∃ lps, lps.length = i ∧ lps.Nodup ∧ D1 ∉ lps ∧ (∀ b ∈ lps, H b = none) ∧ H' dp = some (.dK (pkv 1 lps)) ∧ ∀ j l, lps[j]? = some l → ∃ ys, H' l = some (.lst ys) ∧ Paired (PlAt H') ys (prow (j + 1) ([], 0)))
        ⟨⟨none, rfl⟩, s2, hD2, py2, [], rfl, List.nodup_nil, List.not_mem_nil, (fun b m => absurd m List.not_mem_nil), upd_same, (fun j l e => by rw [List.getElem?_nil] at e; cases e)⟩ ?_ ?_
      · rintro i σ H' hi ⟨⟨p3, rfl⟩, t1, hDo, px, lps, hl8, nd, nD, fr, hdp', hls⟩
        refine ⟨_, rfl, by decide, by decide, fun D2 hD2 => lc_mapW (n := (60 : Int).toNat) walk_range (R := PlAt) (fun k2 q => PlAt.but k2 q) (prow (i + 1) ([], 0)) hD2 (fun _ _ => trivial) (fun i H x H' _ _ y => by rw [y.1]; exact Same.refl _) ?_ (by decide) ?_ (fun h p => gName_mono h p) ?_⟩
        · show 60 = ([] ++ (List.range (60 - 0)).map _).length
          rw [List.nil_append, List.length_map, List.length_range]
        · rintro j b hb x H1 H2 u1 u2 ⟨rfl, rfl⟩ Q' k'
          have hb : (([] : List Pl) ++ (List.range (60 - 0)).map fun j => Pl.pool (i + 1) (0 + j))[j]? = some b := hb
          rw [List.nil_append, List.getElem?_map] at hb
          obtain ⟨m, hm, eb⟩ : ∃ m, (List.range (60 - 0))[j]? = some m ∧ Pl.pool (i + 1) (0 + m) = b := by
            cases q : (List.range (60 - 0))[j]? with
            | none => rw [q] at hb; cases hb
            | some m => rw [q] at hb; exact ⟨m, rfl, Option.some.inj hb⟩
          have : m = j := by
            have hj := (List.getElem?_eq_some_iff.mp hm).1
            rw [List.getElem?_range (by rw [List.length_range] at hj; exact hj)] at hm
            exact (Option.some.inj hm).symm
          subst this
          subst eb
          refine ⟨rfl, _, rfl, _, rfl, sz3, fun p hp => k' _ _ (Same.new hp) ⟨p, rfl, ?_⟩⟩
          rw [upd_same]
          show some (HO.tup [V.str "pool", .int (1 + ((i : Nat) : Int)), .int (0 + ((m : Nat) : Int))]) = some (.tup [V.str "pool", .int ((i + 1 : Nat) : Int), .int ((0 + m : Nat) : Int)])
          rw [show ((i + 1 : Nat) : Int) = 1 + ((i : Nat) : Int) by omega, show ((0 + m : Nat) : Int) = 0 + ((m : Nat) : Int) by omega]
        · intro H3 ys t3 hD3 py3
          have hdp3 := t3 _ _ hdp'
          have z9 := szM
          refine ⟨_, rfl, _, rfl, dp, _, rfl, DPut.k (k := Sum.inl (1 + ((i : Nat) : Int))) hdp3 (by rw [pkv_len]; omega), ⟨_, rfl⟩, ?_⟩
          have ei : (Sum.inl (1 + ((i : Nat) : Int)) : Key) = Sum.inl ((1 + lps.length : Nat) : Int) := by rw [hl8]; congr 1
          rw [ei, putK_new _ (by rw [pkv_get (by omega), List.getElem?_eq_none (by omega)]; rfl), pkv_snoc]
          have tu : ∀ b zs, H3 b = some (.tup zs) → upd H3 dp (.dK (pkv 1 (lps ++ [D2]))) b = some (.tup zs) := fun b zs e => by rw [upd_ne (ne_of e hdp3 fun z => nomatch z)]; exact e
          have nD2 : D2 ≠ D1 := Ne.symm (ne_of_none hDo hD2)
          have nDp : ∀ b ys, H3 b = some (.lst ys) → b ≠ dp := fun b ys e => ne_of e hdp3 fun z => nomatch z
          refine ⟨Same.over (t1.trans t3) odp, (by rw [upd_ne nDd]; exact t3 _ _ hDo), Paired.mono (fun _ _ => ObAt.but fun b zs e => tu b zs (t3 _ _ e)) px, lps ++ [D2], by rw [List.length_append, hl8]; rfl, ?_, ?_, ?_, upd_same, ?_⟩
          · refine List.nodup_append.mpr ⟨nd, List.nodup_cons.mpr ⟨List.not_mem_nil, List.nodup_nil⟩, fun a ha b hb => ?_⟩
            rw [List.mem_singleton.mp hb]
            obtain ⟨j, hj⟩ := List.getElem?_of_mem ha
            obtain ⟨ys, hy, _⟩ := hls j a hj
            exact ne_of_none hy hD2
          · intro m
            rcases List.mem_append.mp m with m | m
            · exact nD m
            · exact nD2 (List.mem_singleton.mp m).symm
          · intro b m
            rcases List.mem_append.mp m with m | m
            · exact fr b m
            · rw [List.mem_singleton.mp m]; exact fresh_of t1 hD2
          · intro j l hj
            rcases Nat.lt_or_ge j lps.length with g | g
            · rw [List.getElem?_append_left g] at hj
              obtain ⟨ys', h1, h2⟩ := hls j l hj
              exact ⟨ys', (by rw [upd_ne (nDp _ _ (t3 _ _ h1))]; exact t3 _ _ h1), Paired.mono (fun _ _ => PlAt.but fun b zs e => tu b zs (t3 _ _ e)) h2⟩
            · rw [List.getElem?_append_right g] at hj
              have : j = lps.length := by
                have := (List.getElem?_eq_some_iff.mp hj).1
                rw [List.length_singleton] at this
                omega
              subst this
              rw [Nat.sub_self] at hj
              cases hj
              rw [hl8]
              exact ⟨ys, (by rw [upd_ne (nDp _ _ hD3)]; exact hD3), Paired.mono (fun _ _ => PlAt.but tu) py3⟩
      · rintro σ H' ⟨⟨p3, rfl⟩, t1, hDo, px, lps, hl8, nd, nD, fr, hdp', hls⟩
        refine fun wd hwd => ⟨_, rfl, _, rfl, upd_same, [((Sum.inr "objects" : Key), V.ref D1), (Sum.inr "pools", .ref dp)], rfl, (by show 2 ≤ 15; decide), ?_⟩
        rw [upd_upd, wkv_merge]
        have t2 := Same.new (o := .dK (wkv D1 dp)) hwd
        refine k (D1 :: lps) _ _ (t1.trans t2) (fun b m => ?_) ⟨wd, dp, D1, lps, xs, rfl, rfl, hl8, List.nodup_cons.mpr ⟨nD, nd⟩, upd_same, t2 _ _ hdp', t2 _ _ hDo, Paired.mono (fun _ _ => ObAt.but fun b zs e => t2 b (.tup zs) e) px, fun j l hj => ?_⟩
        · rcases List.mem_cons.mp m with rfl | m
          · exact hD1
          · exact fr b m
        · obtain ⟨ys, h1, h2⟩ := hls j l hj
          exact ⟨ys, t2 _ _ h1, Paired.mono (fun _ _ => PlAt.mono t2) h2⟩
end
end Wd
set_option Elab.async false
set_option linter.all false
set_option maxRecDepth 100000
set_option maxHeartbeats 4000000
/-! drawn sizes and steps, steps played -/
namespace Wd
open PySem L2 Mv
def In3 (s : Nat) : Prop := s = 1 ∨ s = 2 ∨ s = 8
def StAt (H : Hp) (v : V) (st : Stp) : Prop := ∃ a, v = .ref a ∧ H a = some (.tup (match st with
  | .make s => [.str "make", .int (s : Nat)]
  | .free i => [.str "free", .int (i : Nat)]
  | .leave i => [.str "leave", .int (i : Nat)]))
theorem StAt.but {H H' : Hp} (s : ∀ b xs, H b = some (.tup xs) → H' b = some (.tup xs)) {v : V} {st : Stp} (h : StAt H v st) : StAt H' v st := let ⟨a, h1, h2⟩ := h; ⟨a, h1, s _ _ h2⟩
theorem sok_snoc : ∀ {sts : List Stp} {z : List Nat} {st : Stp}, Sok z sts → st.ok (zpl z sts) → Sok z (sts ++ [st])
  | [], _, _, _, h => ⟨h, trivial⟩
  | _ :: _, _, _, h, g => ⟨h.1, sok_snoc h.2 g⟩
theorem zpl_snoc : ∀ {sts : List Stp} {z : List Nat} {st : Stp}, zpl z (sts ++ [st]) = zst (zpl z sts) st
  | [], _, _ => rfl
  | _ :: sts, z, _ => zpl_snoc (sts := sts)
theorem ch_tup {sl : Addr} {L : List Addr} {H H' : Hp} (h : Ch L H H') (hl : ∀ a ∈ L, ∃ xs, H a = some (.lst xs)) : ∀ b xs, H b = some (.tup xs) → H' b = some (.tup xs) := fun b xs e => h _ _ e fun m => by
  obtain ⟨ys, ey⟩ := hl b m
  rw [e] at ey; cases ey
theorem SrcAt.lst {sl : Addr} {n : Nat} {H : Hp} (h : SrcAt sl n H) : ∀ a ∈ [sl], ∃ xs, H a = some (.lst xs) := fun a m => by
  rw [List.mem_singleton.mp m]
  obtain ⟨_, _, _, e, _⟩ := h
  exact ⟨_, e⟩
theorem SrcAt.ne {sl : Addr} {n : Nat} {H : Hp} (h : SrcAt sl n H) {p : Addr} (hp : H p = none) : p ≠ sl := by
  obtain ⟨_, _, _, e, _⟩ := h
  exact Ne.symm (ne_of_none e hp)
theorem Ch.fresh {sl : Addr} {n : Nat} {H H' : Hp} (s : Ch [sl] H H') (h : SrcAt sl n H) (h' : SrcAt sl n H') : True := trivial
theorem fresh_ch {sl : Addr} {m n : Nat} {H H' : Hp} {a : Addr} (c : Ch [sl] H H') (h : SrcAt sl n H') (ha : H' a = none) : H a = none := by
  cases e : H a with
  | none => rfl
  | some o =>
    by_cases z : a = sl
    · obtain ⟨_, _, _, q, _⟩ := h
      rw [z, q] at ha; cases ha
    · rw [c _ _ e (fun m => z (List.mem_singleton.mp m))] at ha; cases ha
theorem in3_of {y : V} (hy : y ∈ ([.int 1, .int 1, .int 2, .int 8] : List V)) : ∃ s : Nat, In3 s ∧ y = V.int (s : Nat) := by
  simp only [List.mem_cons, List.not_mem_nil, or_false] at hy
  rcases hy with rfl | rfl | rfl | rfl
  · exact ⟨1, .inl rfl, rfl⟩
  · exact ⟨1, .inl rfl, rfl⟩
  · exact ⟨2, .inr (.inl rfl), rfl⟩
  · exact ⟨8, .inr (.inr rfl), rfl⟩
section
variable {P : Program} {w : World} {K : PySem.W.Frag} {mg : Str → Option Value} {base : Heap} {f C CM : Addr} {fd : FuncData} {H : Hp}
def spLawSizes : Sp := fun vs H Q _ => ∃ (sl : Addr) (n m : Nat), vs = [.ref sl, .int (m : Nat)] ∧ m ≤ 50 ∧ n ≤ 10000 ∧ SrcAt sl n H ∧ ∀ (ls : Addr) (z : List Nat) H', z.length ≤ m → (∀ s ∈ z, In3 s) → Ch [sl] H H' → H ls = none → H' ls = some (.lst (z.map fun s => V.int (s : Nat))) → SrcAt sl (n + 1 + m) H' → Q (.ref ls) H'
theorem sc_LawSizes : FnScope ["source", "most", "k"] ["source", "most"] (defScope sLawSizes) := ⟨rfl, rfl, rfl, by decide +kernel, rfl, by decide +kernel, by decide +kernel⟩
theorem ok_LawSizes (D : DefF K mg "_law_sizes" sLawSizes ["source", "most"] f fd) (B : Blt mg) {fD fP : Addr} {fdD fdP : FuncData} (DLawDraw : DefF K mg "_law_draw" sLawDraw ["source", "bound"] fD fdD) (GLawDraw : FnOk P w K mg base CX0 1 fD fdD ["source", "bound"] spLawDraw)
    (DLawPick : DefF K mg "_law_pick" sLawPick ["source", "items"] fP fdP) (GLawPick : FnOk P w K mg base CX0 2 fP fdP ["source", "items"] (spLawPick K)) : FnOk P w K mg base CX0 3 f fd ["source", "most"] spLawSizes := by
  refine D.fn.ok sc_LawSizes (fun vs H Q E h => ?_) (fun cdv A outer s H vs Q E hr h => ?_)
  · obtain ⟨sl, n, m, rfl, _⟩ := h; rfl
  · obtain ⟨sl, n, m, rfl, hm, hn, hs, k⟩ := h
    refine ⟨_, (pss_one (ps_ret (pe_lc (own := [("k", 2)]) (g := gName 2) (tt := tYes) rfl sc_LawSizes.nd (pi_range1 rfl B.range (pa_cons (pe_call GLawDraw (hr.mono (by first | decide | omega)) rfl DLawDraw.gl DLawDraw.fn.kp DLawDraw.bd .nil pass0 (pa_cons (pv 0) (pa_cons (pe_op op_add (pv 1) pe_int) pa_nil))) pa_nil)) (blkOk_by (N := ["source", "most", "k"]) (sc := defScope sLawSizes) (by decide +kernel)) (fun _ _ _ _ _ => pg_name (i := 2) sc_LawSizes.nd rfl (Or.inl rfl)) (fun _ _ _ _ _ => pts_nil) (fun _ _ _ _ _ => (pe_call GLawPick (hr.mono (by first | decide | omega)) rfl DLawPick.gl DLawPick.fn.kp DLawPick.bd .nil pass0 (pa_cons (pv 0) (pa_cons (pe_lst (pa_cons pe_int (pa_cons pe_int (pa_cons pe_int (pa_cons pe_int pa_nil))))) pa_nil))))))), ?_⟩
    have z9 := szM
    refine ⟨_, rfl, _, rfl, _, _, rfl, rfl, sl, _, n, rfl, by omega, by omega, by omega, hs, fun r H1 hr1 c1 s1 => ?_⟩
    refine ⟨_, rfl, by omega, by omega, fun D1 hD1 => ?_⟩
    have nDs := s1.ne hD1
    refine lc_it (n := ((r : Nat) : Int).toNat) walk_range (fun j H' => Ch [sl] H1 H' ∧ SrcAt sl (n + 1 + j) H' ∧ ∃ zs : List Nat, zs.length = j ∧ (∀ s ∈ zs, In3 s) ∧ H' D1 = some (.lst (zs.map fun s => V.int (s : Nat))))
      ⟨Same.ch (Same.new hD1), s1.same (Same.new hD1), [], rfl, fun s m => absurd m List.not_mem_nil, upd_same⟩ (fun _ _ _ _ => trivial) ?_ ?_
    · rintro j x H2 H3 hj ⟨c2, s2, zs, hz, h3, hD2⟩ ⟨rfl, rfl⟩
      rw [Int.toNat_natCast] at hj
      refine ⟨rfl, ?_⟩
      unfold tYes
      refine iteT ⟨_, rfl, (by show 4 ≤ sizeLine; omega), fun li hli => ?_⟩
      have q4 := Same.new (o := .lst [.int 1, .int 1, .int 2, .int 8]) hli
      refine ⟨sl, li, _, n + 1 + j, rfl, upd_same, s2.ne hli, by decide, by decide, by omega, s2.same q4, fun x H4 hx c4 s4 => ?_⟩
      obtain ⟨s, hs3, rfl⟩ : ∃ s : Nat, In3 s ∧ x = V.int (s : Nat) := by
        simp only [List.mem_cons, List.not_mem_nil, or_false] at hx
        rcases hx with rfl | rfl | rfl | rfl
        · exact ⟨1, .inl rfl, rfl⟩
        · exact ⟨1, .inl rfl, rfl⟩
        · exact ⟨2, .inr (.inl rfl), rfl⟩
        · exact ⟨8, .inr (.inr rfl), rfl⟩
      have hD4 := c4 _ _ (q4 _ _ hD2) (fun m => nDs (List.mem_singleton.mp m))
      have nn : sl ∉ [D1] := fun m => nDs (List.mem_singleton.mp m).symm
      refine ⟨_, hD4, by rw [List.length_map]; omega, fun b o e nb => ?_, ?_, zs ++ [s], by rw [List.length_append, hz]; rfl, fun t ht => ?_, by rw [upd_same, List.map_append]; rfl⟩
      · rw [upd_ne (ne_of_none e hD1)]
        exact c4 _ _ (q4 _ _ (c2 _ _ e nb)) nb
      · exact (show n + 1 + (j + 1) = n + 1 + j + 1 by omega) ▸ s4.ch (L := [D1]) (Ch.put (List.mem_singleton.mpr rfl)) nn
      · rcases List.mem_append.mp ht with ht | ht
        · exact h3 t ht
        · rw [List.mem_singleton.mp ht]; exact hs3
    · rintro H2 ⟨c2, s2, zs, hz, h3, hD2⟩
      rw [Int.toNat_natCast] at hz
      rw [Int.toNat_natCast] at s2
      exact k D1 zs H2 (by omega) h3 (c1.trans c2) (fresh_ch (m := 0) c1 s1 hD1) hD2 (s2.le (by omega))
def spLawSteps : Sp := fun vs H Q _ => ∃ (sl : Addr) (n m : Nat) (z : List Nat), vs = [.ref sl, .int (z.length : Nat), .int (m : Nat)] ∧ m ≤ 20 ∧ z.length ≤ 100 ∧ n ≤ 10000 ∧ SrcAt sl n H ∧ ∀ (ls : Addr) (xs : List V) (sts : List Stp) H', sts.length ≤ m → Sok z sts → Ch [sl] H H' → H ls = none → H' ls = some (.lst xs) → Paired (StAt H') xs sts → SrcAt sl (n + 1 + 2 * m) H' → Q (.ref ls) H'
theorem sc_LawSteps : FnScope ["source", "count", "most", "found", "turn", "way"] ["source", "count", "most"] (defScope sLawSteps) := ⟨rfl, rfl, rfl, by decide +kernel, rfl, by decide +kernel, by decide +kernel⟩
theorem ok_LawSteps (D : DefF K mg "_law_steps" sLawSteps ["source", "count", "most"] f fd) (B : Blt mg) {fD fP : Addr} {fdD fdP : FuncData} (DLawDraw : DefF K mg "_law_draw" sLawDraw ["source", "bound"] fD fdD) (GLawDraw : FnOk P w K mg base CX0 1 fD fdD ["source", "bound"] spLawDraw)
    (DLawPick : DefF K mg "_law_pick" sLawPick ["source", "items"] fP fdP) (GLawPick : FnOk P w K mg base CX0 2 fP fdP ["source", "items"] (spLawPick K)) : FnOk P w K mg base CX0 3 f fd ["source", "count", "most"] spLawSteps := by
  refine D.fn.ok sc_LawSteps (fun vs H Q E h => ?_) (fun cdv A outer s H vs Q E hr h => ?_)
  · obtain ⟨sl, n, m, z, rfl, _⟩ := h; rfl
  · obtain ⟨sl, n, m, z, rfl, hm, hz, hn, hs, k⟩ := h
    refine ⟨_, (pss_cons (ps_set (i := 3) sc_LawSteps.nd rfl (.inl rfl) (pe_lst pa_nil)) (pss_cons (ps_for PassesOwn.never rfl (pi_range1 rfl B.range (pa_cons (pe_call GLawDraw (hr.mono (by first | decide | omega)) rfl DLawDraw.gl DLawDraw.fn.kp DLawDraw.bd .nil pass0 (pa_cons (pv 0) (pa_cons (pe_op op_add (pv 2) pe_int) pa_nil))) pa_nil)) (pg_name (i := 4) sc_LawSteps.nd rfl (.inl rfl)) (pss_cons (ps_set (i := 5) sc_LawSteps.nd rfl (.inl rfl) (pe_call GLawPick (hr.mono (by first | decide | omega)) rfl DLawPick.gl DLawPick.fn.kp DLawPick.bd .nil pass0 (pa_cons (pv 0) (pa_cons (pe_lst (pa_cons pe_str (pa_cons pe_str (pa_cons pe_str (pa_cons pe_str (pa_cons pe_str pa_nil)))))) pa_nil)))) (pss_one (ps_if (PW.pt (pw_or (pt_cmpR op_eq (pv 5) pe_str (nomark _)) (pw_or1 (pt_cmpR op_eq (pv 1) pe_int (nomark _))))) (pss_cons (ps_expr (pe_bm F.plainAttrs_list F.slot_list_append F.type_list_append mt_append (pv 3) (pa_cons (pe_tup (pa_cons pe_str (pa_cons (pe_call GLawPick (hr.mono (by first | decide | omega)) rfl DLawPick.gl DLawPick.fn.kp DLawPick.bd .nil pass0 (pa_cons (pv 0) (pa_cons (pe_lst (pa_cons pe_int (pa_cons pe_int (pa_cons pe_int (pa_cons pe_int pa_nil))))) pa_nil))) pa_nil))) pa_nil))) (pss_one (ps_set (i := 1) sc_LawSteps.nd rfl (.inl rfl) (pe_op op_add (pv 1) pe_int)))) (pss_cons (ps_expr (pe_bm F.plainAttrs_list F.slot_list_append F.type_list_append mt_append (pv 3) (pa_cons (pe_tup (pa_cons (pv 5) (pa_cons (pe_call GLawDraw (hr.mono (by first | decide | omega)) rfl DLawDraw.gl DLawDraw.fn.kp DLawDraw.bd .nil pass0 (pa_cons (pv 0) (pa_cons (pv 1) pa_nil))) pa_nil))) pa_nil))) (pss_one (ps_set (i := 1) sc_LawSteps.nd rfl (.inl rfl) (pe_op op_sub (pv 1) pe_int)))))))) (pss_one (ps_ret (pv 3))))), ?_⟩
    have z9 := szM
    refine ⟨Nat.zero_le _, fun D1 hD1 => ?_⟩
    have q1 := Same.new (o := .lst []) hD1
    have nDs := hs.ne hD1
    refine ⟨_, rfl, _, rfl, _, _, rfl, rfl, sl, _, n, rfl, by omega, by omega, by omega, hs.same q1, fun r H1 hr1 c1 s1 => ?_⟩
    have hD2 := c1 _ _ (show upd H D1 (.lst []) D1 = some (.lst []) from upd_same) (fun m => nDs (List.mem_singleton.mp m))
    have c01 : Ch [sl] H H1 := (Same.ch q1).trans c1
    refine ⟨_, rfl, by omega, by omega, ?_⟩
    refine for_range (lo := 0) (n := ((r : Nat) : Int).toNat) (fun i σ H' => ∃ (p4 p5 : Option V) (xs : List V) (sts : List Stp), σ = [some (.ref sl), some (.int ((zpl z sts).length : Nat)), some (.int (m : Nat)), some (.ref D1), p4, p5] ∧ sts.length = i ∧ Sok z sts ∧ H' D1 = some (.lst xs) ∧ Paired (StAt H') xs sts ∧ SrcAt sl (n + 1 + 2 * i) H' ∧ Ch [sl] H H')
      ⟨none, none, [], [], rfl, rfl, trivial, hD2, .nil, s1, c01⟩ ?_ ?_
    · rintro i σ H2 hi ⟨p4, p5, xs, sts, rfl, hl, ok, hD3, px, s2, c2⟩
      rw [Int.toNat_natCast] at hi
      have lx := Paired.len px
      refine ⟨_, rfl, (by show 5 ≤ sizeLine; omega), fun li hli => ?_⟩
      have q4 := Same.new (o := .lst [.str "make", .str "make", .str "free", .str "free", .str "leave"]) hli
      refine ⟨sl, li, _, n + 1 + 2 * i, rfl, upd_same, s2.ne hli, by decide, by decide, by omega, s2.same q4, fun x H4 hx c4 s4 => ?_⟩
      have hD4 := c4 _ _ (q4 _ _ hD3) (fun m => nDs (List.mem_singleton.mp m))
      have c24 : Ch [sl] H H4 := (c2.trans (Same.ch q4)).trans c4
      have tu4 : ∀ b zs, H2 b = some (.tup zs) → H4 b = some (.tup zs) := fun b zs e => ch_tup (sl := sl) c4 (s2.same q4).lst b zs (q4 _ _ e)
      have px4 := Paired.mono (fun _ _ => StAt.but tu4) px
      have zl : (zpl z sts).length ≤ z.length + sts.length := by
        have : ∀ (sts : List Stp) (z : List Nat), (zpl z sts).length ≤ z.length + sts.length := by
          intro sts
          induction sts with
          | nil => exact fun z => Nat.le_refl _
          | cons st sts ih =>
            intro z
            refine Nat.le_trans (ih _) ?_
            rw [List.length_cons]
            have : (zst z st).length ≤ z.length + 1 := by
              cases st with
              | make s => show (z ++ [s]).length ≤ _; rw [List.length_append]; exact Nat.le_refl _
              | free i => show (z.eraseIdx i).length ≤ _; exact Nat.le_trans (List.length_eraseIdx_le _ _) (Nat.le_succ _)
              | leave i => show (z.eraseIdx i).length ≤ _; exact Nat.le_trans (List.length_eraseIdx_le _ _) (Nat.le_succ _)
            omega
        exact this sts z
      have fin : ∀ (st : Stp) (tv : List V), (∀ (H : Hp) (a : Addr), H a = some (.tup tv) → StAt H (.ref a) st) → ∀ H5 : Hp, Ch [sl] H H5 → SrcAt sl (n + 1 + 2 * i + 1 + 1) H5 → H5 D1 = some (.lst xs) → Paired (StAt H5) xs sts → ∀ p, H5 p = none →
          upd (upd H5 p (.tup tv)) D1 (.lst (xs ++ [.ref p])) D1 = some (.lst (xs ++ [.ref p])) ∧ Paired (StAt (upd (upd H5 p (.tup tv)) D1 (.lst (xs ++ [.ref p])))) (xs ++ [.ref p]) (sts ++ [st]) ∧ SrcAt sl (n + 1 + 2 * (i + 1)) (upd (upd H5 p (.tup tv)) D1 (.lst (xs ++ [.ref p]))) ∧ Ch [sl] H (upd (upd H5 p (.tup tv)) D1 (.lst (xs ++ [.ref p]))) := fun st tv hst H5 c5 s5 hD5 px5 p hp => by
        have q6 := Same.new (o := .tup tv) hp
        have hD6 := q6 _ _ hD5
        have tu7 : ∀ b zs, upd H5 p (.tup tv) b = some (.tup zs) → upd (upd H5 p (.tup tv)) D1 (.lst (xs ++ [.ref p])) b = some (.tup zs) := fun b zs e => by rw [upd_ne (ne_of e hD6 fun z => nomatch z)]; exact e
        refine ⟨upd_same, Paired.app (Paired.mono (fun _ _ => StAt.but fun b zs e => tu7 b zs (q6 _ _ e)) px5) (.cons (hst _ p (tu7 _ _ upd_same)) .nil), ?_, ?_⟩
        · exact (show n + 1 + 2 * (i + 1) = n + 1 + 2 * i + 1 + 1 by omega) ▸ (s5.same q6).ch (L := [D1]) (Ch.put (List.mem_singleton.mpr rfl)) (fun m => nDs (List.mem_singleton.mp m).symm)
        · exact fun b o e nb => by rw [upd_ne (ne_of_none e hD1)]; exact q6 _ _ (c5 _ _ e nb)
      have hx3 : x = .str "make" ∨ x = .str "free" ∨ x = .str "leave" := by
        simp only [List.mem_cons, List.not_mem_nil, or_false] at hx
        rcases hx with rfl | rfl | rfl | rfl | rfl <;> simp
      rcases hx3 with rfl | rfl | rfl
      · refine ⟨_, rfl, rfl, _, rfl, ?_⟩
        rw [show decide (V.str "make" = V.str (Str.ofString "make")) = true from decide_eq_true rfl]
        refine iteT (iteT ?_)
        refine ⟨_, rfl, .inl ⟨rfl, _, SqL.of hD4⟩, ?_⟩
        refine ⟨_, rfl, (by show 4 ≤ sizeLine; omega), fun l2 hl2 => ?_⟩
        have q5 := Same.new (o := .lst [.int 1, .int 1, .int 2, .int 8]) hl2
        refine ⟨sl, l2, _, n + 1 + 2 * i + 1, rfl, upd_same, s4.ne hl2, by decide, by decide, by omega, s4.same q5, fun y H5 hy c5 s5 => ?_⟩
        obtain ⟨s, hs3, rfl⟩ := in3_of hy
        refine ⟨sz2, fun p hp => ?_⟩
        have f := fin (.make s) _ (fun H a e => ⟨a, rfl, e⟩) H5 ((c24.trans (Same.ch q5)).trans c5) s5 (c5 _ _ (q5 _ _ hD4) (fun m => nDs (List.mem_singleton.mp m))) (Paired.mono (fun _ _ => StAt.but fun b zs e => ch_tup (sl := sl) c5 (s4.same q5).lst b zs (q5 _ _ e)) px4) p hp
        refine ⟨D1, xs, _, rfl, rfl, Same.new hp _ _ (c5 _ _ (q5 _ _ hD4) (fun m => nDs (List.mem_singleton.mp m))), by omega, _, rfl, _, _, rfl, rfl, _, _, xs ++ [.ref p], sts ++ [.make s], by rw [zpl_snoc]; show _ = [some (V.ref sl), some (V.int ((zpl z sts ++ [s]).length : Nat)), _, _, _, _]; rw [List.length_append]; rfl, by rw [List.length_append, hl]; rfl, sok_snoc (st := .make s) ok hs3, f⟩
      · refine ⟨_, rfl, rfl, _, rfl, ?_⟩
        rw [show decide (V.str "free" = V.str (Str.ofString "make")) = false from by decide +kernel]
        refine iteF ⟨_, rfl, rfl, _, rfl, ?_⟩
        by_cases h0 : (zpl z sts).length = 0
        · rw [nat_eq0 (show (((zpl z sts).length : Nat) : Int) = 0 by omega)]
          refine iteT ?_
          refine ⟨_, rfl, .inl ⟨rfl, _, SqL.of hD4⟩, ?_⟩
          refine ⟨_, rfl, (by show 4 ≤ sizeLine; omega), fun l2 hl2 => ?_⟩
          have q5 := Same.new (o := .lst [.int 1, .int 1, .int 2, .int 8]) hl2
          refine ⟨sl, l2, _, n + 1 + 2 * i + 1, rfl, upd_same, s4.ne hl2, by decide, by decide, by omega, s4.same q5, fun y H5 hy c5 s5 => ?_⟩
          obtain ⟨s, hs3, rfl⟩ := in3_of hy
          refine ⟨sz2, fun p hp => ?_⟩
          have f := fin (.make s) _ (fun H a e => ⟨a, rfl, e⟩) H5 ((c24.trans (Same.ch q5)).trans c5) s5 (c5 _ _ (q5 _ _ hD4) (fun m => nDs (List.mem_singleton.mp m))) (Paired.mono (fun _ _ => StAt.but fun b zs e => ch_tup (sl := sl) c5 (s4.same q5).lst b zs (q5 _ _ e)) px4) p hp
          refine ⟨D1, xs, _, rfl, rfl, Same.new hp _ _ (c5 _ _ (q5 _ _ hD4) (fun m => nDs (List.mem_singleton.mp m))), by omega, _, rfl, _, _, rfl, rfl, _, _, xs ++ [.ref p], sts ++ [.make s], by rw [zpl_snoc]; show _ = [some (V.ref sl), some (V.int ((zpl z sts ++ [s]).length : Nat)), _, _, _, _]; rw [List.length_append]; rfl, by rw [List.length_append, hl]; rfl, sok_snoc (st := .make s) ok hs3, f⟩
        · rw [nat_ne0 (show (((zpl z sts).length : Nat) : Int) ≠ 0 by omega)]
          refine iteF ?_
          refine ⟨_, rfl, .inl ⟨rfl, _, SqL.of hD4⟩, _, rfl, _, rfl, _, rfl, sl, _, n + 1 + 2 * i + 1, rfl, by omega, by omega, by omega, s4, fun r H5 hr5 c5 s5 => ?_⟩
          refine ⟨sz2, fun p hp => ?_⟩
          have hrl : r < (zpl z sts).length := by omega
          have f := fin (.free r) _ (fun H a e => ⟨a, rfl, e⟩) H5 (c24.trans c5) s5 (c5 _ _ hD4 (fun m => nDs (List.mem_singleton.mp m))) (Paired.mono (fun _ _ => StAt.but fun b zs e => ch_tup (sl := sl) c5 s4.lst b zs e) px4) p hp
          refine ⟨D1, xs, _, rfl, rfl, Same.new hp _ _ (c5 _ _ hD4 (fun m => nDs (List.mem_singleton.mp m))), by omega, _, rfl, _, _, rfl, rfl, _, _, xs ++ [.ref p], sts ++ [.free r], by rw [zpl_snoc]; show _ = [some (V.ref sl), some (V.int (((zpl z sts).eraseIdx r).length : Nat)), _, _, _, _]; rw [List.length_eraseIdx, if_pos hrl, show (((zpl z sts).length - 1 : Nat) : Int) = ((zpl z sts).length : Int) - 1 by omega]; rfl, by rw [List.length_append, hl]; rfl, sok_snoc (st := .free r) ok hrl, f⟩
      · refine ⟨_, rfl, rfl, _, rfl, ?_⟩
        rw [show decide (V.str "leave" = V.str (Str.ofString "make")) = false from by decide +kernel]
        refine iteF ⟨_, rfl, rfl, _, rfl, ?_⟩
        by_cases h0 : (zpl z sts).length = 0
        · rw [nat_eq0 (show (((zpl z sts).length : Nat) : Int) = 0 by omega)]
          refine iteT ?_
          refine ⟨_, rfl, .inl ⟨rfl, _, SqL.of hD4⟩, ?_⟩
          refine ⟨_, rfl, (by show 4 ≤ sizeLine; omega), fun l2 hl2 => ?_⟩
          have q5 := Same.new (o := .lst [.int 1, .int 1, .int 2, .int 8]) hl2
          refine ⟨sl, l2, _, n + 1 + 2 * i + 1, rfl, upd_same, s4.ne hl2, by decide, by decide, by omega, s4.same q5, fun y H5 hy c5 s5 => ?_⟩
          obtain ⟨s, hs3, rfl⟩ := in3_of hy
          refine ⟨sz2, fun p hp => ?_⟩
          have f := fin (.make s) _ (fun H a e => ⟨a, rfl, e⟩) H5 ((c24.trans (Same.ch q5)).trans c5) s5 (c5 _ _ (q5 _ _ hD4) (fun m => nDs (List.mem_singleton.mp m))) (Paired.mono (fun _ _ => StAt.but fun b zs e => ch_tup (sl := sl) c5 (s4.same q5).lst b zs (q5 _ _ e)) px4) p hp
          refine ⟨D1, xs, _, rfl, rfl, Same.new hp _ _ (c5 _ _ (q5 _ _ hD4) (fun m => nDs (List.mem_singleton.mp m))), by omega, _, rfl, _, _, rfl, rfl, _, _, xs ++ [.ref p], sts ++ [.make s], by rw [zpl_snoc]; show _ = [some (V.ref sl), some (V.int ((zpl z sts ++ [s]).length : Nat)), _, _, _, _]; rw [List.length_append]; rfl, by rw [List.length_append, hl]; rfl, sok_snoc (st := .make s) ok hs3, f⟩
        · rw [nat_ne0 (show (((zpl z sts).length : Nat) : Int) ≠ 0 by omega)]
          refine iteF ?_
          refine ⟨_, rfl, .inl ⟨rfl, _, SqL.of hD4⟩, _, rfl, _, rfl, _, rfl, sl, _, n + 1 + 2 * i + 1, rfl, by omega, by omega, by omega, s4, fun r H5 hr5 c5 s5 => ?_⟩
          refine ⟨sz2, fun p hp => ?_⟩
          have hrl : r < (zpl z sts).length := by omega
          have f := fin (.leave r) _ (fun H a e => ⟨a, rfl, e⟩) H5 (c24.trans c5) s5 (c5 _ _ hD4 (fun m => nDs (List.mem_singleton.mp m))) (Paired.mono (fun _ _ => StAt.but fun b zs e => ch_tup (sl := sl) c5 s4.lst b zs e) px4) p hp
          refine ⟨D1, xs, _, rfl, rfl, Same.new hp _ _ (c5 _ _ hD4 (fun m => nDs (List.mem_singleton.mp m))), by omega, _, rfl, _, _, rfl, rfl, _, _, xs ++ [.ref p], sts ++ [.leave r], by rw [zpl_snoc]; show _ = [some (V.ref sl), some (V.int (((zpl z sts).eraseIdx r).length : Nat)), _, _, _, _]; rw [List.length_eraseIdx, if_pos hrl, show (((zpl z sts).length - 1 : Nat) : Int) = ((zpl z sts).length : Int) - 1 by omega]; rfl, by rw [List.length_append, hl]; rfl, sok_snoc (st := .leave r) ok hrl, f⟩
    · rintro σ H2 ⟨p4, p5, xs, sts, rfl, hl, ok, hD3, px, s2, c2⟩
      rw [Int.toNat_natCast] at hl s2
      exact ⟨_, rfl, k D1 xs sts H2 (by omega) ok c2 hD1 hD3 px (s2.le (by omega))⟩
end
end Wd
set_option Elab.async false
set_option linter.all false
set_option maxRecDepth 100000
set_option maxHeartbeats 4000000
/-! steps played -/
namespace Wd
open PySem L2 Mv
theorem seqIx {i n : Nat} (h : i < n) : seqIndex? ((i : Nat) : Int) n = some i := by
  unfold seqIndex?
  have h0 : ¬ ((i : Nat) : Int) < 0 := by omega
  rw [if_neg h0]
  dsimp only
  rw [if_pos (by rw [Bool.and_eq_true, decide_eq_true_eq, decide_eq_true_eq]; omega), Int.toNat_natCast]
theorem Paired.erase {A B : Type} {F : A → B → Prop} : ∀ {l : List A} {r : List B} (i : Nat), Paired F l r → Paired F (l.eraseIdx i) (r.eraseIdx i)
  | _, _, _, .nil => .nil
  | _, _, 0, .cons _ t => t
  | _, _, i + 1, .cons a t => .cons a (Paired.erase i t)
theorem prow_drop {s : Nat} {t : List Pl × Nat} (h : t.2 < 60) : prow s t = rowOf s t 0 :: prow s (dropT t) := by
  obtain ⟨f, n⟩ := t
  cases f with
  | nil =>
    have h : n < 60 := h
    show ([] ++ (List.range (60 - n)).map fun j => Pl.pool s (n + j)) = rowOf s ([], n) 0 :: ([] ++ (List.range (60 - (n + 1))).map fun j => Pl.pool s (n + 1 + j))
    rw [rowOf_nil, List.nil_append, List.nil_append, show 60 - n = (60 - (n + 1)) + 1 by omega, List.range_succ_eq_map, List.map_cons, List.map_map]
    congr 1
    refine List.map_congr_left fun j _ => ?_
    show Pl.pool s (n + (j + 1)) = _
    congr 1; omega
  | cons p f => rfl
theorem prow_push {s n : Nat} {p : Pl} {f : List Pl} : prow s (p :: f, n) = p :: prow s (f, n) := rfl
theorem WoAt.fpl {fp : List Addr} {H : Hp} {v : V} {W : Wo} (h : WoAt fp H v W) : ∀ a ∈ fp, ∃ xs, H a = some (.lst xs) := by
  obtain ⟨wd, dp, lo, lps, xs, rfl, rfl, h8, nd, hw, hd, ho, px, hp⟩ := h
  intro a m
  rcases List.mem_cons.mp m with rfl | m
  · exact ⟨_, ho⟩
  · obtain ⟨j, hj⟩ := List.getElem?_of_mem m
    obtain ⟨ys, h1, _⟩ := hp j a hj
    exact ⟨_, h1⟩
theorem play_take {W : Wo} {sts : List Stp} {i : Nat} {st : Stp} (h : sts[i]? = some st) : W.play (sts.take (i + 1)) = (W.play (sts.take i)).step st := by
  rw [List.take_add_one, h]
  unfold Wo.play
  rw [List.foldl_append]; rfl
theorem sok_take : ∀ {sts : List Stp} {z : List Nat} (i : Nat), Sok z sts → Sok z (sts.take i)
  | [], _, _, _ => by rw [List.take_nil]; trivial
  | _ :: _, _, 0, _ => trivial
  | _ :: _, _, i + 1, h => ⟨h.1, sok_take i h.2⟩
theorem sok_at : ∀ {sts : List Stp} {z : List Nat} {i : Nat} {st : Stp}, Sok z sts → sts[i]? = some st → st.ok (zpl z (sts.take i))
  | [], _, _, _, _, h => by simp at h
  | st' :: sts, _, 0, _, h, e => by
    have := Option.some.inj e
    subst this
    exact h.1
  | st' :: sts, z, i + 1, st, h, e => sok_at (sts := sts) (z := zst z st') (i := i) h.2 e
theorem zpl_8 : ∀ {sts : List Stp} {z : List Nat}, Sok z sts → (∀ s ∈ z, 1 ≤ s ∧ s ≤ 8) → ∀ s ∈ zpl z sts, 1 ≤ s ∧ s ≤ 8
  | [], _, _, h => h
  | st :: sts, z, ok, h => by
    refine zpl_8 (sts := sts) ok.2 fun s hs => ?_
    cases st with
    | make u =>
      rcases List.mem_append.mp hs with hs | hs
      · exact h s hs
      · rw [List.mem_singleton.mp hs]
        have : u = 1 ∨ u = 2 ∨ u = 8 := ok.1
        omega
    | free i => exact h s (List.mem_of_mem_eraseIdx hs)
    | leave i => exact h s (List.mem_of_mem_eraseIdx hs)
/-- sizes of a world's parts -/
def Wo.le (W : Wo) (o r n : Nat) : Prop := W.objs.length ≤ o ∧ ∀ s, (W.pl s).1.length ≤ r ∧ (W.pl s).2 ≤ n
theorem dropT_le {t : List Pl × Nat} : (dropT t).1.length ≤ t.1.length ∧ (dropT t).2 ≤ t.2 + 1 := by
  obtain ⟨f, n⟩ := t
  cases f with
  | nil => exact ⟨Nat.le_refl _, Nat.le_refl _⟩
  | cons p f => exact ⟨Nat.le_succ _, Nat.le_succ _⟩
theorem step_le {W : Wo} {o r n : Nat} {st : Stp} (h : W.le o r n) : (W.step st).le (o + 1) (r + 1) (n + 1) := by
  have h2 : ∀ s, (W.pl s).1.length ≤ r + 1 ∧ (W.pl s).2 ≤ n + 1 := fun s => ⟨Nat.le_succ_of_le (h.2 s).1, Nat.le_succ_of_le (h.2 s).2⟩
  cases st with
  | make s =>
    refine ⟨by show (W.objs ++ [_]).length ≤ _; rw [List.length_append]; exact Nat.succ_le_succ h.1, fun t => ?_⟩
    show (if t = s then dropT (W.pl s) else W.pl t).1.length ≤ _ ∧ (if t = s then dropT (W.pl s) else W.pl t).2 ≤ _
    split
    · have := h.2 s
      have := dropT_le (t := W.pl s)
      omega
    · exact h2 t
  | free i =>
    cases e : W.objs[i]? with
    | none =>
      have : W.step (.free i) = W := by
        show (match W.objs[i]? with
          | none => W
          | some (p, s) => _) = W
        rw [e]
      rw [this]
      exact ⟨Nat.le_succ_of_le h.1, h2⟩
    | some q =>
      obtain ⟨p, s⟩ := q
      rw [step_free e]
      refine ⟨Nat.le_trans (List.length_eraseIdx_le _ _) (Nat.le_succ_of_le h.1), fun t => ?_⟩
      show (if t = s then (p :: (W.pl s).1, (W.pl s).2) else W.pl t).1.length ≤ _ ∧ (if t = s then (p :: (W.pl s).1, (W.pl s).2) else W.pl t).2 ≤ _
      split
      · have := h.2 s
        show (W.pl s).1.length + 1 ≤ _ ∧ (W.pl s).2 ≤ _
        omega
      · exact h2 t
  | leave i => exact ⟨Nat.le_trans (List.length_eraseIdx_le _ _) (Nat.le_succ_of_le h.1), h2⟩
theorem play_le : ∀ {sts : List Stp} {W : Wo} {o r n : Nat}, W.le o r n → (W.play sts).le (o + sts.length) (r + sts.length) (n + sts.length)
  | [], _, _, _, _, h => h
  | st :: sts, W, o, r, n, h => by
    have := play_le (sts := sts) (step_le (st := st) h)
    rw [List.length_cons, show o + (sts.length + 1) = o + 1 + sts.length by omega, show r + (sts.length + 1) = r + 1 + sts.length by omega, show n + (sts.length + 1) = n + 1 + sts.length by omega]
    exact this
theorem le_mono {W : Wo} {o r n o' r' n' : Nat} (h : W.le o r n) (a : o ≤ o') (b : r ≤ r') (c : n ≤ n') : W.le o' r' n' := ⟨Nat.le_trans h.1 a, fun s => ⟨Nat.le_trans (h.2 s).1 b, Nat.le_trans (h.2 s).2 c⟩⟩
section
variable {P : Program} {w : World} {K : PySem.W.Frag} {mg : Str → Option Value} {base : Heap} {f C CM : Addr} {fd : FuncData} {H : Hp}
def spLawPlayed (K : PySem.W.Frag) : Sp := fun vs H Q _ => ∃ (v : V) (st : Addr) (xs : List V) (fp : List Addr) (W : Wo) (sts : List Stp), vs = [v, .ref st] ∧ WoAt fp H v W ∧ H st = some (.lst xs) ∧ st ∉ fp ∧ Paired (StAt H) xs sts ∧ Sok W.z sts ∧ W.le 500 500 59 ∧ (∀ s, (W.pl s).2 + sts.length ≤ 59) ∧ sts.length ≤ 100 ∧ (∀ s ∈ W.z, 1 ≤ s ∧ s ≤ 8) ∧
  ∀ H', Ch fp H H' → WoAt fp H' v (W.play sts) → Q .non H'
theorem sc_LawPlayed : FnScope ["world", "steps", "way", "number", "place", "size"] ["world", "steps"] (defScope sLawPlayed) := ⟨rfl, rfl, rfl, by decide +kernel, rfl, by decide +kernel, by decide +kernel⟩
theorem ok_LawPlayed (D : DefF K mg "_law_played" sLawPlayed ["world", "steps"] f fd) (B : Blt mg) : FnOk P w K mg base CX0 1 f fd ["world", "steps"] (spLawPlayed K) := by
  refine D.fn.ok sc_LawPlayed (fun vs H Q E h => ?_) (fun cdv A outer s H vs Q E hr h => ?_)
  · obtain ⟨v, st, xs, fp, W, sts, rfl, _⟩ := h; rfl
  · obtain ⟨v, st, xs, fp, W, sts, rfl, hW, hst, nst, pst, ok, hle, h59, hln, h8z0, k⟩ := h
    refine ⟨_, (pss_one (ps_for PassesOwn.never rfl (pi_list (pv 1)) (pg_tup rfl (pgs_cons (pg_name (i := 2) sc_LawPlayed.nd rfl (.inl rfl)) (pgs_cons (pg_name (i := 3) sc_LawPlayed.nd rfl (.inl rfl)) pgs_nil))) (pss_one (ps_if (pt_cmpR op_eq (pv 2) pe_str (nomark _)) (pss_one (ps_expr (pe_bm F.plainAttrs_list F.slot_list_append F.type_list_append mt_append (pe_dget (hu_of hr) (pv 0) pe_str (fun _ _ => rfl)) (pa_cons (pe_tup (pa_cons (pe_bm F.plainAttrs_list F.slot_list_pop F.type_list_pop mt_popAt (pe_dget (hu_of hr) (pe_dget (hu_of hr) (pv 0) pe_str (fun _ _ => rfl)) (pv 3) (fun _ _ => rfl)) (pa_cons pe_int pa_nil)) (pa_cons (pv 3) pa_nil))) pa_nil)))) (pss_cons (ps_asg (pe_bm F.plainAttrs_list F.slot_list_pop F.type_list_pop mt_popAt (pe_dget (hu_of hr) (pv 0) pe_str (fun _ _ => rfl)) (pa_cons (pv 3) pa_nil)) (pg_tup rfl (pgs_cons (pg_name (i := 4) sc_LawPlayed.nd rfl (.inl rfl)) (pgs_cons (pg_name (i := 5) sc_LawPlayed.nd rfl (.inl rfl)) pgs_nil)))) (pss_one (ps_if (pt_cmpR op_eq (pv 2) pe_str (nomark _)) (pss_one (ps_expr (pe_bm F.plainAttrs_list F.slot_list_insert F.type_list_insert mt_insert (pe_dget (hu_of hr) (pe_dget (hu_of hr) (pv 0) pe_str (fun _ _ => rfl)) (pv 5) (fun _ _ => rfl)) (pa_cons pe_int (pa_cons (pv 4) pa_nil))))) pss_nil))))))), ?_⟩
    have z9 := szM
    have lst := Paired.len pst
    have fpl := hW.fpl
    refine ⟨_, rfl, st, rfl, ⟨_, SqL.of hst⟩, for_list (xs := xs) (fun i σ H' => (∃ p2 p3 p4 p5, σ = [some v, some (.ref st), p2, p3, p4, p5]) ∧ Ch fp H H' ∧ WoAt fp H' v (W.play (sts.take i))) ⟨⟨none, none, none, none, rfl⟩, Ch.refl, by rw [List.take_zero]; exact hW⟩ (fun i σ H' _ h => SqL.of (h.2.1 _ _ hst nst)) ?_ ?_⟩
    · rintro i x σ H1 hx ⟨⟨p2, p3, p4, p5, rfl⟩, c1, hW1⟩
      obtain ⟨sp, hsp, hsa⟩ := Paired.at_ pst hx
      have hi := (List.getElem?_eq_some_iff.mp hx).1
      rw [play_take hsp]
      have hz1 : (W.play (sts.take i)).z = zpl W.z (sts.take i) := play_z (sok_take i ok)
      have hok := sok_at ok hsp
      rw [← hz1, ] at hok
      have hle1 := play_le (sts := sts.take i) hle
      have h59b : ∀ s, ((W.play (sts.take i)).pl s).2 < 60 := fun s => by
        have a1 : W.le 500 500 ((W.pl s).2) → True := fun _ => trivial
        have : ∀ (sts : List Stp) (W : Wo), ((W.play sts).pl s).2 ≤ (W.pl s).2 + sts.length := by
          intro sts
          induction sts with
          | nil => exact fun W => Nat.le_refl _
          | cons st sts ih =>
            intro W
            refine Nat.le_trans (ih (W.step st)) ?_
            rw [List.length_cons]
            have : ((W.step st).pl s).2 ≤ (W.pl s).2 + 1 := by
              cases st with
              | make u =>
                show (if s = u then dropT (W.pl u) else W.pl s).2 ≤ _
                split
                · rename_i e; rw [e]; exact dropT_le.2
                · exact Nat.le_succ _
              | free j =>
                cases e : W.objs[j]? with
                | none =>
                  have : W.step (.free j) = W := by
                    show (match W.objs[j]? with
                      | none => W
                      | some (p, s) => _) = W
                    rw [e]
                  rw [this]; exact Nat.le_succ _
                | some q =>
                  obtain ⟨p, u⟩ := q
                  rw [step_free e]
                  show (if s = u then (p :: (W.pl u).1, (W.pl u).2) else W.pl s).2 ≤ _
                  split
                  · rename_i e; rw [e]; exact Nat.le_succ _
                  · exact Nat.le_succ _
              | leave j => exact Nat.le_succ _
            omega
        have b1 := this (sts.take i) W
        have b2 := h59 s
        rw [List.length_take] at b1
        omega
      have h8z : ∀ s ∈ zpl W.z (sts.take i), 1 ≤ s ∧ s ≤ 8 := zpl_8 (sok_take i ok) h8z0
      have hlen : (sts.take i).length ≤ 100 := by rw [List.length_take]; omega
      have tu1 : ∀ b zs, H b = some (.tup zs) → H1 b = some (.tup zs) := ch_tup (sl := st) c1 fpl
      have hsa1 := hsa.but tu1
      generalize W.play (sts.take i) = U at hW1 hok hle1 h59b hz1 ⊢
      have gO : ∀ {H' : Hp} {wd lo dp : Addr}, H' wd = some (.dK (wkv lo dp)) → DGet H' wd (.str "objects") (some (.ref lo)) := fun {H' wd lo dp} e => by rw [← wkv_objects (lo := lo) (dp := dp)]; exact DGet.k (k := Sum.inr "objects") e
      have gP : ∀ {H' : Hp} {wd lo dp : Addr}, H' wd = some (.dK (wkv lo dp)) → DGet H' wd (.str "pools") (some (.ref dp)) := fun {H' wd lo dp} e => by rw [← wkv_pools (lo := lo) (dp := dp)]; exact DGet.k (k := Sum.inr "pools") e
      have hsz : ∀ q ∈ U.objs, 1 ≤ q.2 ∧ q.2 ≤ 8 := fun q hq => h8z q.2 (by rw [← hz1]; exact List.mem_map.mpr ⟨q, hq, rfl⟩)
      have hoL : U.objs.length ≤ 600 := Nat.le_trans hle1.1 (by omega)
      have hrL : ∀ s, (U.pl s).1.length ≤ 600 := fun s => Nat.le_trans (hle1.2 s).1 (by omega)
      have prl : ∀ s, (prow s (U.pl s)).length ≤ 660 := fun s => by
        unfold prow
        rw [List.length_append, List.length_map, List.length_range]
        have := hrL s
        omega
      obtain ⟨wd, dp, lo, lps, os, rfl, rfl, h8, nd, hw, hd, ho, po, hp⟩ := hW1
      have lo_os := Paired.len po
      have nlo := (List.nodup_cons.mp nd).1
      have lnd := (List.nodup_cons.mp nd).2
      have hpk : ∀ s, 1 ≤ s → s ≤ 8 → ∃ l ys, lps[s - 1]? = some l ∧ valV (pkv 1 lps) (Sum.inl ((s : Nat) : Int) : Key) = some (.ref l) ∧ H1 l = some (.lst ys) ∧ Paired (PlAt H1) ys (prow s (U.pl s)) := fun s a b => by
        have e := List.getElem?_eq_getElem (show s - 1 < lps.length by omega)
        obtain ⟨ys, h1, h2⟩ := hp _ _ e
        rw [show s - 1 + 1 = s by omega] at h2
        exact ⟨_, ys, e, by rw [pkv_get a, e]; rfl, h1, h2⟩
      have back : ∀ (H' : Hp) (U' : Wo) (os' : List V) (s : Nat) (l : Addr) (ys' : List V), 1 ≤ s → lps[s - 1]? = some l → (∀ b o, H1 b = some o → b ≠ lo → b ≠ l → H' b = some o) → H' lo = some (.lst os') → Paired (ObAt H') os' U'.objs → H' l = some (.lst ys') → Paired (PlAt H') ys' (prow s (U'.pl s)) → (∀ t, t ≠ s → U'.pl t = U.pl t) → WoAt (lo :: lps) H' (.ref wd) U' := fun H' U' os' s l ys' hs1 hl8 keep e1 e2 e3 e4 e5 => by
        have hll : ∃ ys, H1 l = some (.lst ys) := let ⟨ys, h1, _⟩ := hp _ _ hl8; ⟨ys, h1⟩
        obtain ⟨yl, hll⟩ := hll
        have off : ∀ b o, (∀ ys, o ≠ .lst ys) → H1 b = some o → H' b = some o := fun b o z e => keep _ _ e (fun m => z os (Option.some.inj ((m ▸ e).symm.trans ho))) (fun m => z yl (Option.some.inj ((m ▸ e).symm.trans hll)))
        refine ⟨wd, dp, lo, lps, os', rfl, rfl, h8, nd, off _ _ (fun _ z => nomatch z) hw, off _ _ (fun _ z => nomatch z) hd, e1, e2, fun j l' hj => ?_⟩
        by_cases hjs : j + 1 = s
        · have : l' = l := by
            rw [show s - 1 = j by omega] at hl8
            exact Option.some.inj (hj.symm.trans hl8)
          subst this
          rw [hjs]
          exact ⟨ys', e3, e4⟩
        · obtain ⟨ys, h1, h2⟩ := hp j l' hj
          have nl : l' ≠ l := fun z => by
            subst z
            obtain ⟨a1, a2⟩ := List.getElem?_eq_some_iff.mp hj
            obtain ⟨b1, b2⟩ := List.getElem?_eq_some_iff.mp hl8
            have := (List.getElem_inj lnd).mp (a2.trans b2.symm)
            omega
          rw [e5 _ hjs]
          exact ⟨ys, keep _ _ h1 (fun z => nlo (by rw [← z]; exact List.mem_of_getElem? hj)) nl, Paired.mono (fun _ _ => PlAt.but fun b zs e => off _ _ (fun _ z => nomatch z) e) h2⟩
      cases sp with
      | make u =>
        obtain ⟨a, rfl, ha⟩ := hsa1
        refine ⟨a, _, rfl, SqT.of ha, rfl, _, _, rfl, _, _, rfl, rfl, ?_⟩
        refine ⟨_, rfl, rfl, _, rfl, ?_⟩
        rw [show decide (V.str "make" = V.str (Str.ofString "make")) = true from decide_eq_true rfl]
        have hu : 1 ≤ u ∧ u ≤ 8 := by
          have hok : u = 1 ∨ u = 2 ∨ u = 8 := hok
          omega
        obtain ⟨l, ys, hl8, hval, hl, py⟩ := hpk u hu.1 hu.2
        rw [prow_drop (h59b u)] at py
        refine iteT ⟨_, rfl, wd, .ref lo, rfl, gO hw, .inl ⟨rfl, _, SqL.of ho⟩, ?_⟩
        refine ⟨_, rfl, wd, .ref dp, rfl, gP hw, _, rfl, dp, .ref l, rfl, hval ▸ DGet.k (k := Sum.inl ((u : Nat) : Int)) hd, .inl ⟨rfl, _, SqL.of hl⟩, ?_⟩
        cases py with
        | @cons y _ ys' _ py0 py1 =>
          have ly := Paired.len py1
          refine ⟨l, _, 0, 0, y, rfl, rfl, hl, by decide, by decide, seqIx (i := 0) (by rw [List.length_cons]; omega), rfl, ?_⟩
          rw [List.eraseIdx_cons_zero]
          have nll : lo ≠ l := fun z => nlo (by rw [z]; exact List.mem_of_getElem? hl8)
          have ho2 : upd H1 l (.lst ys') lo = some (.lst os) := by rw [upd_ne nll]; exact ho
          refine ⟨_, rfl, sz2, fun p hp => ?_⟩
          have hpt : upd (upd H1 l (.lst ys')) p (.tup [y, .int ((u : Nat) : Int)]) p = some (.tup [y, .int ((u : Nat) : Int)]) := upd_same
          have ho3 := Same.new (o := .tup [y, .int ((u : Nat) : Int)]) hp _ _ ho2
          have hl3 := Same.new (o := .tup [y, .int ((u : Nat) : Int)]) hp _ _ (show upd H1 l (.lst ys') l = some (.lst ys') from upd_same)
          have k3 : ∀ b o, H1 b = some o → b ≠ l → upd (upd H1 l (.lst ys')) p (.tup [y, .int ((u : Nat) : Int)]) b = some o := fun b o e n => Same.new hp _ _ (by rw [upd_ne n]; exact e)
          generalize upd (upd H1 l (.lst ys')) p (.tup [y, .int ((u : Nat) : Int)]) = H3 at hpt ho3 hl3 k3 ⊢
          refine ⟨lo, os, _, rfl, rfl, ho3, by omega, ⟨_, _, _, _, rfl⟩, ?_⟩
          have k4 : ∀ b o, H1 b = some o → b ≠ lo → b ≠ l → upd H3 lo (.lst (os ++ [.ref p])) b = some o := fun b o e n1 n2 => by rw [upd_ne n1]; exact k3 _ _ e n2
          have tu4 : ∀ b zs, H1 b = some (.tup zs) → upd H3 lo (.lst (os ++ [.ref p])) b = some (.tup zs) := fun b zs e => k4 _ _ e (ne_of e ho fun z => nomatch z) (ne_of e hl fun z => nomatch z)
          refine ⟨fun b o e nb => k4 _ _ (c1 _ _ e nb) (fun z => nb (by rw [z]; exact List.mem_cons_self)) (fun z => nb (by rw [z]; exact List.mem_cons_of_mem _ (List.mem_of_getElem? hl8))), ?_⟩
          refine back _ _ (os ++ [.ref p]) u l ys' hu.1 hl8 k4 upd_same ?_ (by rw [upd_ne (Ne.symm nll)]; exact hl3) ?_ ?_
          · refine Paired.app (Paired.mono (fun _ _ => ObAt.but tu4) po) (.cons ⟨p, y, rfl, by rw [upd_ne (ne_of hpt ho3 fun z => nomatch z)]; exact hpt, py0.but tu4⟩ .nil)
          · show Paired _ ys' (prow u (if u = u then dropT (U.pl u) else U.pl u))
            rw [if_pos rfl]
            exact Paired.mono (fun _ _ => PlAt.but tu4) py1
          · intro t ht
            show (if t = u then dropT (U.pl u) else U.pl t) = _
            rw [if_neg ht]
      | free j =>
        obtain ⟨a, rfl, ha⟩ := hsa1
        refine ⟨a, _, rfl, SqT.of ha, rfl, _, _, rfl, _, _, rfl, rfl, ?_⟩
        refine ⟨_, rfl, rfl, _, rfl, ?_⟩
        rw [show decide (V.str "free" = V.str (Str.ofString "make")) = false from by decide +kernel]
        have hj : j < U.objs.length := by rw [← wo_len]; exact hok
        obtain ⟨⟨pp, ss⟩, hob⟩ : ∃ q, U.objs[j]? = some q := ⟨_, List.getElem?_eq_getElem hj⟩
        obtain ⟨ov, hov, ao, uo, rfl, hao, huo⟩ := Paired.at2 po hob
        refine iteF ⟨_, rfl, wd, .ref lo, rfl, gO hw, .inl ⟨rfl, _, SqL.of ho⟩, _, rfl, lo, os, ((j : Nat) : Int), j, .ref ao, rfl, rfl, ho, by omega, by omega, seqIx (by omega), hov, ?_⟩
        have hao2 : upd H1 lo (.lst (os.eraseIdx j)) ao = some (.tup [uo, .int ((ss : Nat) : Int)]) := by rw [upd_ne (ne_of hao ho fun z => nomatch z)]; exact hao
        refine ⟨ao, _, rfl, SqT.of hao2, rfl, _, _, rfl, _, _, rfl, rfl, ?_⟩
        refine ⟨_, rfl, rfl, _, rfl, ?_⟩
        rw [show decide (V.str "free" = V.str (Str.ofString "free")) = true from decide_eq_true rfl]
        have tu2 : ∀ b zs, H1 b = some (.tup zs) → upd H1 lo (.lst (os.eraseIdx j)) b = some (.tup zs) := fun b zs e => by rw [upd_ne (ne_of e ho fun z => nomatch z)]; exact e
        have hss : 1 ≤ ss ∧ ss ≤ 8 := hsz _ (List.mem_of_getElem? hob)
        obtain ⟨l, ys, hl8, hval, hl, py⟩ := hpk ss hss.1 hss.2
        have ly := Paired.len py
        have lyb := prl ss
        have nll : lo ≠ l := fun z => nlo (by rw [z]; exact List.mem_of_getElem? hl8)
        have hw2 : upd H1 lo (.lst (os.eraseIdx j)) wd = some (.dK (wkv lo dp)) := by rw [upd_ne (ne_of hw ho fun z => nomatch z)]; exact hw
        have hd2 : upd H1 lo (.lst (os.eraseIdx j)) dp = some (.dK (pkv 1 lps)) := by rw [upd_ne (ne_of hd ho fun z => nomatch z)]; exact hd
        have hl2 : upd H1 lo (.lst (os.eraseIdx j)) l = some (.lst ys) := by rw [upd_ne (Ne.symm nll)]; exact hl
        refine iteT ⟨_, rfl, wd, .ref dp, rfl, gP hw2, _, rfl, dp, .ref l, rfl, hval ▸ DGet.k (k := Sum.inl ((ss : Nat) : Int)) hd2, .inl ⟨rfl, _, SqL.of hl2⟩, ?_⟩
        refine ⟨_, rfl, l, ys, 0, uo, rfl, rfl, hl2, by omega, by decide, by decide, ⟨_, _, _, _, rfl⟩, ?_⟩
        rw [show ys.take (0 : Int).toNat ++ [uo] ++ ys.drop (0 : Int).toNat = uo :: ys from rfl]
        have k4 : ∀ b o, H1 b = some o → b ≠ lo → b ≠ l → upd (upd H1 lo (.lst (os.eraseIdx j))) l (.lst (uo :: ys)) b = some o := fun b o e n1 n2 => by rw [upd_ne n2, upd_ne n1]; exact e
        have tu4 : ∀ b zs, H1 b = some (.tup zs) → upd (upd H1 lo (.lst (os.eraseIdx j))) l (.lst (uo :: ys)) b = some (.tup zs) := fun b zs e => k4 _ _ e (ne_of e ho fun z => nomatch z) (ne_of e hl fun z => nomatch z)
        refine ⟨fun b o e nb => k4 _ _ (c1 _ _ e nb) (fun z => nb (by rw [z]; exact List.mem_cons_self)) (fun z => nb (by rw [z]; exact List.mem_cons_of_mem _ (List.mem_of_getElem? hl8))), ?_⟩
        refine back _ _ (os.eraseIdx j) ss l (uo :: ys) hss.1 hl8 k4 (by rw [upd_ne nll]; exact upd_same) ?_ upd_same ?_ ?_
        · rw [step_free hob]
          exact Paired.erase j (Paired.mono (fun _ _ => ObAt.but tu4) po)
        · rw [step_free hob]
          show Paired _ (uo :: ys) (prow ss (if ss = ss then (pp :: (U.pl ss).1, (U.pl ss).2) else U.pl ss))
          rw [if_pos rfl, prow_push]
          exact .cons (huo.but tu4) (Paired.mono (fun _ _ => PlAt.but tu4) py)
        · intro t ht
          rw [step_free hob]
          show (if t = ss then (pp :: (U.pl ss).1, (U.pl ss).2) else U.pl t) = _
          rw [if_neg ht]
      | leave j =>
        obtain ⟨a, rfl, ha⟩ := hsa1
        refine ⟨a, _, rfl, SqT.of ha, rfl, _, _, rfl, _, _, rfl, rfl, ?_⟩
        refine ⟨_, rfl, rfl, _, rfl, ?_⟩
        rw [show decide (V.str "leave" = V.str (Str.ofString "make")) = false from by decide +kernel]
        have hj : j < U.objs.length := by rw [← wo_len]; exact hok
        obtain ⟨⟨pp, ss⟩, hob⟩ : ∃ q, U.objs[j]? = some q := ⟨_, List.getElem?_eq_getElem hj⟩
        obtain ⟨ov, hov, ao, uo, rfl, hao, huo⟩ := Paired.at2 po hob
        refine iteF ⟨_, rfl, wd, .ref lo, rfl, gO hw, .inl ⟨rfl, _, SqL.of ho⟩, _, rfl, lo, os, ((j : Nat) : Int), j, .ref ao, rfl, rfl, ho, by omega, by omega, seqIx (by omega), hov, ?_⟩
        have hao2 : upd H1 lo (.lst (os.eraseIdx j)) ao = some (.tup [uo, .int ((ss : Nat) : Int)]) := by rw [upd_ne (ne_of hao ho fun z => nomatch z)]; exact hao
        refine ⟨ao, _, rfl, SqT.of hao2, rfl, _, _, rfl, _, _, rfl, rfl, ?_⟩
        refine ⟨_, rfl, rfl, _, rfl, ?_⟩
        rw [show decide (V.str "leave" = V.str (Str.ofString "free")) = false from by decide +kernel]
        have tu2 : ∀ b zs, H1 b = some (.tup zs) → upd H1 lo (.lst (os.eraseIdx j)) b = some (.tup zs) := fun b zs e => by rw [upd_ne (ne_of e ho fun z => nomatch z)]; exact e
        obtain ⟨l, ys, hl8, hval, hl, py⟩ := hpk 1 (by decide) (by decide)
        have nll : lo ≠ l := fun z => nlo (by rw [z]; exact List.mem_of_getElem? hl8)
        refine iteF ⟨⟨_, _, _, _, rfl⟩, ?_⟩
        have k4 : ∀ b o, H1 b = some o → b ≠ lo → b ≠ l → upd H1 lo (.lst (os.eraseIdx j)) b = some o := fun b o e n1 n2 => by rw [upd_ne n1]; exact e
        refine ⟨fun b o e nb => by rw [upd_ne (fun z => nb (by rw [z]; exact List.mem_cons_self))]; exact c1 _ _ e nb, ?_⟩
        refine back _ _ (os.eraseIdx j) 1 l ys (by decide) hl8 k4 upd_same (Paired.erase j (Paired.mono (fun _ _ => ObAt.but tu2) po)) (by rw [upd_ne (Ne.symm nll)]; exact hl) (Paired.mono (fun _ _ => PlAt.but tu2) py) (fun t _ => rfl)
    · rintro σ H1 ⟨⟨p2, p3, p4, p5, rfl⟩, c1, hW1⟩
      rw [lst, List.take_of_length_le (Nat.le_refl _)] at hW1
      exact k H1 c1 hW1
end
end Wd
set_option Elab.async false
set_option linter.all false
set_option maxRecDepth 100000
set_option maxHeartbeats 4000000
/-! the parts of a move, a world's move -/
namespace Wd
open PySem L2 Mv
theorem prow_len {s : Nat} {t : List Pl × Nat} : (prow s t).length = t.1.length + (60 - t.2) := by
  unfold prow
  rw [List.length_append, List.length_map, List.length_range]
theorem prow_at {s : Nat} {t : List Pl × Nat} {c : Nat} (h : c < t.1.length + (60 - t.2)) : (prow s t)[c]? = some (rowOf s t c) := by
  unfold prow
  rcases Nat.lt_or_ge c t.1.length with g | g
  · rw [List.getElem?_append_left g]; exact rowOf_lt g
  · rw [List.getElem?_append_right g, List.getElem?_map, List.getElem?_range (by omega), rowOf_ge g]; rfl
/-- from m on the row follows its rule -/
def RuleFrom (s : Nat) (t : List Pl × Nat) (m : Nat) : Prop := ∀ c, m ≤ c → t.1.length ≤ t.2 + c ∧ rowOf s t c = .pool s (t.2 + c - t.1.length)
theorem rule_cut {s : Nat} {t : List Pl × Nat} {m k : Nat} (h : RuleFrom s t m) (hk : m ≤ k) : rowOf s ((prow s t).take k, t.2 + k - t.1.length) = rowOf s t ∨ t.1.length + (60 - t.2) < k := by
  rcases Nat.lt_or_ge (t.1.length + (60 - t.2)) k with g | g
  · exact .inr g
  · refine .inl ?_
    funext c
    have hl : ((prow s t).take k).length = k := by rw [List.length_take, prow_len]; omega
    rcases Nat.lt_or_ge c k with q | q
    · refine rowOf_at ?_
      show ((prow s t).take k)[c]? = _
      rw [List.getElem?_take_of_lt q]
      exact prow_at (by omega)
    · rw [rowOf_ge (by show ((prow s t).take k).length ≤ c; omega)]
      show Pl.pool s (t.2 + k - t.1.length + (c - ((prow s t).take k).length)) = _
      rw [hl, (h c (by omega)).2]
      have := (h k hk).1
      congr 1
      omega
theorem flat9 (f : Nat → List Pl) : ((List.range 9).flatMap f).length = (f 0).length + (f 1).length + (f 2).length + (f 3).length + (f 4).length + (f 5).length + (f 6).length + (f 7).length + (f 8).length := by
  show ([0, 1, 2, 3, 4, 5, 6, 7, 8].flatMap f).length = _
  simp only [List.flatMap_cons, List.flatMap_nil, List.length_append, List.length_nil]
  omega
theorem atI_neg1 {A : Type} {xs : List A} {v : A} (h : xs[xs.length - 1]? = some v) : atI xs (-1) = some v := by
  have hx : xs ≠ [] := fun e => by rw [e] at h; cases h
  have e : xs = xs.dropLast ++ [v] := by
    have e1 := (List.dropLast_concat_getLast hx).symm
    have e2 : xs.getLast hx = v := by
      rw [List.getLast_eq_getElem]
      exact (List.getElem?_eq_some_iff.mp h).2
    rw [e2] at e1
    exact e1
  rw [e]
  exact atI_last _ _
def Wo.tot (W : Wo) : Nat := W.objs.length + ((List.range 9).flatMap fun s => (W.pl s).1).length
theorem mv_wt {W : Wo} : wt W.mv ≤ W.tot := by
  unfold wt Wo.tot
  rw [flat9, flat9]
  show (W.objs.map _).length + _ ≤ _
  rw [List.length_map]
  have h : ∀ s, (W.mv.tail s).1.length ≤ (W.pl s).1.length := fun s => short_len
  have := h 0; have := h 1; have := h 2; have := h 3; have := h 4; have := h 5; have := h 6; have := h 7; have := h 8
  omega
theorem tot_one {a b : Nat → List Pl} {s : Nat} (hs : ∀ t, t ≠ s → (b t).length ≤ (a t).length) {k : Nat} (h : (b s).length ≤ (a s).length + k) : ((List.range 9).flatMap b).length ≤ ((List.range 9).flatMap a).length + k := by
  rw [flat9, flat9]
  have q : ∀ t, (b t).length ≤ (a t).length ∨ t = s := fun t => by
    by_cases e : t = s
    · exact .inr e
    · exact .inl (hs t e)
  have q2 : ∀ t, (b t).length ≤ (a t).length + k := fun t => by
    rcases q t with g | g
    · omega
    · rw [g]; exact h
  by_cases e : s ≤ 8
  · have : s = 0 ∨ s = 1 ∨ s = 2 ∨ s = 3 ∨ s = 4 ∨ s = 5 ∨ s = 6 ∨ s = 7 ∨ s = 8 := by omega
    rcases this with rfl | rfl | rfl | rfl | rfl | rfl | rfl | rfl | rfl
    · have := hs 1 (by decide); have := hs 2 (by decide); have := hs 3 (by decide); have := hs 4 (by decide); have := hs 5 (by decide); have := hs 6 (by decide); have := hs 7 (by decide); have := hs 8 (by decide); omega
    · have := hs 0 (by decide); have := hs 2 (by decide); have := hs 3 (by decide); have := hs 4 (by decide); have := hs 5 (by decide); have := hs 6 (by decide); have := hs 7 (by decide); have := hs 8 (by decide); omega
    · have := hs 1 (by decide); have := hs 0 (by decide); have := hs 3 (by decide); have := hs 4 (by decide); have := hs 5 (by decide); have := hs 6 (by decide); have := hs 7 (by decide); have := hs 8 (by decide); omega
    · have := hs 1 (by decide); have := hs 2 (by decide); have := hs 0 (by decide); have := hs 4 (by decide); have := hs 5 (by decide); have := hs 6 (by decide); have := hs 7 (by decide); have := hs 8 (by decide); omega
    · have := hs 1 (by decide); have := hs 2 (by decide); have := hs 3 (by decide); have := hs 0 (by decide); have := hs 5 (by decide); have := hs 6 (by decide); have := hs 7 (by decide); have := hs 8 (by decide); omega
    · have := hs 1 (by decide); have := hs 2 (by decide); have := hs 3 (by decide); have := hs 4 (by decide); have := hs 0 (by decide); have := hs 6 (by decide); have := hs 7 (by decide); have := hs 8 (by decide); omega
    · have := hs 1 (by decide); have := hs 2 (by decide); have := hs 3 (by decide); have := hs 4 (by decide); have := hs 5 (by decide); have := hs 0 (by decide); have := hs 7 (by decide); have := hs 8 (by decide); omega
    · have := hs 1 (by decide); have := hs 2 (by decide); have := hs 3 (by decide); have := hs 4 (by decide); have := hs 5 (by decide); have := hs 6 (by decide); have := hs 0 (by decide); have := hs 8 (by decide); omega
    · have := hs 1 (by decide); have := hs 2 (by decide); have := hs 3 (by decide); have := hs 4 (by decide); have := hs 5 (by decide); have := hs 6 (by decide); have := hs 7 (by decide); have := hs 0 (by decide); omega
  · have := hs 0 (by omega); have := hs 1 (by omega); have := hs 2 (by omega); have := hs 3 (by omega); have := hs 4 (by omega); have := hs 5 (by omega); have := hs 6 (by omega); have := hs 7 (by omega); have := hs 8 (by omega)
    omega
theorem step_tot {W : Wo} {st : Stp} : (W.step st).tot ≤ W.tot + 1 := by
  cases st with
  | make s =>
    have := tot_one (a := fun s => (W.pl s).1) (b := fun t => (if t = s then dropT (W.pl s) else W.pl t).1) (s := s) (k := 0) (fun t e => by rw [if_neg e]; exact Nat.le_refl _) (by rw [if_pos rfl]; exact dropT_le.1)
    unfold Wo.tot
    show (W.objs ++ [_]).length + ((List.range 9).flatMap fun t => (if t = s then dropT (W.pl s) else W.pl t).1).length ≤ _
    rw [List.length_append, List.length_singleton]
    omega
  | free i =>
    cases e : W.objs[i]? with
    | none =>
      have : W.step (.free i) = W := by
        show (match W.objs[i]? with
          | none => W
          | some (p, s) => _) = W
        rw [e]
      rw [this]; exact Nat.le_succ _
    | some q =>
      obtain ⟨p, s⟩ := q
      rw [step_free e]
      have := tot_one (a := fun s => (W.pl s).1) (b := fun t => (if t = s then (p :: (W.pl s).1, (W.pl s).2) else W.pl t).1) (s := s) (k := 1) (fun t e => by rw [if_neg e]; exact Nat.le_refl _) (by rw [if_pos rfl]; exact Nat.le_refl _)
      have h2 := List.length_eraseIdx_le W.objs i
      show (W.objs.eraseIdx i).length + ((List.range 9).flatMap fun t => (if t = s then (p :: (W.pl s).1, (W.pl s).2) else W.pl t).1).length ≤ W.objs.length + ((List.range 9).flatMap fun s => (W.pl s).1).length + 1
      omega
  | leave i =>
    have h2 := List.length_eraseIdx_le W.objs i
    show (W.objs.eraseIdx i).length + ((List.range 9).flatMap fun s => (W.pl s).1).length ≤ W.objs.length + ((List.range 9).flatMap fun s => (W.pl s).1).length + 1
    omega
theorem play_tot : ∀ {sts : List Stp} {W : Wo}, (W.play sts).tot ≤ W.tot + sts.length
  | [], _ => Nat.le_refl _
  | st :: sts, W => by
    have a := play_tot (sts := sts) (W := W.step st)
    have b := step_tot (W := W) (st := st)
    rw [List.length_cons]
    show ((W.step st).play sts).tot ≤ _
    omega
theorem wo0_tot {z : List Nat} : (wo0 z).tot = z.length := by
  unfold Wo.tot
  rw [flat9]
  show (z.zipIdx.map _).length + _ = _
  rw [List.length_map, List.length_zipIdx]; rfl
/-- only pools of the three sizes are touched -/
def Wo.off (W : Wo) : Prop := ∀ s, ¬ In3 s → W.pl s = ([], 0)
theorem step_off {W : Wo} {st : Stp} (hz : ∀ s ∈ W.z, In3 s) (h : W.off) (ok : st.ok W.z) : (W.step st).off := fun t ht => by
  cases st with
  | make s =>
    have hs : In3 s := ok
    show (if t = s then dropT (W.pl s) else W.pl t) = _
    rw [if_neg (fun e => ht (by rw [e]; exact hs))]
    exact h t ht
  | free i =>
    have hi : i < W.objs.length := by rw [← wo_len]; exact ok
    rw [step_free (p := (W.objs[i]).1) (s := (W.objs[i]).2) (List.getElem?_eq_getElem hi)]
    have hs : In3 (W.objs[i]).2 := hz _ (List.mem_map.mpr ⟨_, List.getElem_mem hi, rfl⟩)
    show (if t = (W.objs[i]).2 then _ else W.pl t) = _
    rw [if_neg (fun e => ht (by rw [e]; exact hs))]
    exact h t ht
  | leave i => exact h t ht
theorem zst_3 {z : List Nat} {st : Stp} (hz : ∀ s ∈ z, In3 s) (ok : st.ok z) : ∀ s ∈ zst z st, In3 s := fun s hs => by
  cases st with
  | make u =>
    rcases List.mem_append.mp hs with hs | hs
    · exact hz s hs
    · rw [List.mem_singleton.mp hs]; exact ok
  | free i => exact hz s (List.mem_of_mem_eraseIdx hs)
  | leave i => exact hz s (List.mem_of_mem_eraseIdx hs)
theorem zpl_3 : ∀ {sts : List Stp} {z : List Nat}, (∀ s ∈ z, In3 s) → Sok z sts → ∀ s ∈ zpl z sts, In3 s
  | [], _, h, _ => h
  | _ :: sts, _, h, ok => zpl_3 (sts := sts) (zst_3 h ok.1) ok.2
theorem play_off : ∀ {sts : List Stp} {W : Wo}, (∀ s ∈ W.z, In3 s) → W.off → Sok W.z sts → (W.play sts).off
  | [], _, _, h, _ => h
  | st :: sts, W, hz, h, ok => by
    have e := step_z ok.1
    exact play_off (sts := sts) (W := W.step st) (by rw [e]; exact zst_3 hz ok.1) (step_off hz h ok.1) (by rw [e]; exact ok.2)
section
variable {P : Program} {w : World} {K : PySem.W.Frag} {mg : Str → Option Value} {base : Heap} {f C CM fMI : Addr} {fd fdMI : FuncData} {H : Hp}
def spLawTail : Sp := fun vs H Q _ => ∃ (s : Nat) (l : Addr) (ys : List V) (t : List Pl × Nat), vs = [.int (s : Nat), .ref l] ∧ H l = some (.lst ys) ∧ Paired (PlAt H) ys (prow s t) ∧ t.2 ≤ 59 ∧ t.1.length ≤ 700 ∧ ∀ (m : Nat) H', Same H H' → m ≤ t.1.length → RuleFrom s t m → Q (.int (m : Nat)) H'
theorem sc_LawTail : FnScope ["size", "row", "many"] ["size", "row"] (defScope sLawTail) := ⟨rfl, rfl, rfl, by decide +kernel, rfl, by decide +kernel, by decide +kernel⟩
theorem ok_LawTail (D : DefF K mg "_law_tail" sLawTail ["size", "row"] f fd) (B : Blt mg) : FnOk P w K mg base CX0 1 f fd ["size", "row"] spLawTail := by
  refine D.fn.ok sc_LawTail (fun vs H Q E h => ?_) (fun cdv A outer s H vs Q E hr h => ?_)
  · obtain ⟨s, l, ys, t, rfl, _⟩ := h; rfl
  · obtain ⟨sz, l, ys, t, rfl, hl, py, h59, h700, k⟩ := h
    refine ⟨_, (pss_cons (ps_set (i := 2) sc_LawTail.nd rfl (.inl rfl) (pe_callB call_len_seq (by rfl) B.len PySem.boot_len (pa_cons (pv 1) pa_nil))) (pss_cons (ps_while PassesOwn.never (PW.pt (pw_and (pt_cmpR op_gt (pv 2) pe_int (nomark _)) (pw_and1 (pt_cmpR (op_eqD hr.units) (pe_ix ix_list (pv 1) (pe_op op_sub (pv 2) pe_int) (fun _ _ => rfl)) (pe_tup (pa_cons pe_str (pa_cons (pv 0) (pa_cons (pe_op op_add (pe_op op_sub (pe_ix ix_tup (pe_ix ix_list (pv 1) (pe_un un_neg pe_int) (fun _ _ => rfl)) pe_int (fun _ _ => rfl)) (pe_callB call_len_seq (by rfl) B.len PySem.boot_len (pa_cons (pv 1) pa_nil))) (pv 2)) pa_nil)))) (nomark _))))) (pss_one (ps_set (i := 2) sc_LawTail.nd rfl (.inl rfl) (pe_op op_sub (pv 2) pe_int)))) (pss_one (ps_ret (pv 2))))), ?_⟩
    have ly := Paired.len py
    rw [prow_len] at ly
    refine ⟨_, rfl, l, _, rfl, .inl (SqL.of hl), ?_⟩
    have last : ∃ a, ys[ys.length - 1]? = some (.ref a) ∧ H a = some (.tup [.str "pool", .int (sz : Nat), .int 59]) := by
      have e : (prow sz t)[ys.length - 1]? = some (.pool sz 59) := by
        rw [prow_at (by omega), rowOf_ge (by omega)]
        congr 2; omega
      obtain ⟨x, hx, a, rfl, ha⟩ := Paired.at2 py e
      exact ⟨a, hx, ha⟩
    obtain ⟨la, hla, hlt⟩ := last
    refine ⟨fun m σ H' => m ≤ ys.length ∧ (∀ c, m ≤ c → c < ys.length → t.1.length ≤ t.2 + c ∧ rowOf sz t c = .pool sz (t.2 + c - t.1.length)) ∧ σ = [some (.int (sz : Nat)), some (.ref l), some (.int (m : Nat))] ∧ Same H H', ⟨ys.length, Nat.le_refl _, fun c a b => absurd b (Nat.not_lt.mpr a), rfl, Same.refl _⟩, ?_⟩
    rintro m σ H1 ⟨hm, inv, rfl, s1⟩
    have full : (∀ c, m ≤ c → c < ys.length → t.1.length ≤ t.2 + c ∧ rowOf sz t c = .pool sz (t.2 + c - t.1.length)) → RuleFrom sz t m := fun h c hc => by
      rcases Nat.lt_or_ge c ys.length with g | g
      · exact h c hc g
      · refine ⟨by omega, ?_⟩
        rw [rowOf_ge (by omega)]
        congr 1; omega
    refine ⟨_, rfl, _, _, rfl, rfl, _, rfl, ?_⟩
    cases m with
    | zero =>
      rw [decide_eq_false (show ¬ (0 : Int) < ((0 : Nat) : Int) by omega)]
      exact iteF (iteF ⟨_, rfl, k 0 H1 s1 (Nat.zero_le _) (full inv)⟩)
    | succ c =>
      rw [decide_eq_true (show (0 : Int) < ((c + 1 : Nat) : Int) by omega)]
      refine iteT ?_
      obtain ⟨x, hx, q⟩ := Paired.at2 py (prow_at (show c < t.1.length + (60 - t.2) by omega))
      have z9 := szM
      refine ⟨_, rfl, _, rfl, _, _, rfl, rfl, l, ys, _, x, rfl, rfl, SqL.of (s1 _ _ hl), ?_, ?_⟩
      · rw [show ((c + 1 : Nat) : Int) - 1 = ((c : Nat) : Int) by omega]; exact atI_nat hx
      refine ⟨_, rfl, _, rfl, _, rfl, l, ys, _, _, rfl, rfl, SqL.of (s1 _ _ hl), atI_neg1 hla, la, _, 2, _, rfl, rfl, SqT.of (s1 _ _ hlt), rfl, ?_⟩
      refine ⟨_, rfl, l, _, rfl, .inl (SqL.of (s1 _ _ hl)), _, _, rfl, rfl, _, rfl, _, _, rfl, rfl, sz3, fun p hp => ?_⟩
      have ev : (59 : Int) - ((ys.length : Nat) : Int) + ((c + 1 : Nat) : Int) = ((t.2 : Nat) : Int) + ((c : Nat) : Int) - ((t.1.length : Nat) : Int) := by omega
      have s2 := s1.trans (Same.new (o := .tup [.str "pool", .int (sz : Nat), .int ((59 : Int) - ((ys.length : Nat) : Int) + ((c + 1 : Nat) : Int))]) hp)
      refine ⟨Pl.d (rowOf sz t c), .tuple [.str "pool", .int (sz : Nat), .int ((59 : Int) - ((ys.length : Nat) : Int) + ((c + 1 : Nat) : Int))], Pl.dp (q.mono s2), .tup (SqT.of upd_same) (.cons (.str _) (.cons (.int _) (.cons (.int _) .nil))), Pl.shaped _, shaped_pool _ _, _, rfl, ?_⟩
      rw [eqv_pool]
      cases z : Pl.isPool sz ((59 : Int) - ((ys.length : Nat) : Int) + ((c + 1 : Nat) : Int)) (rowOf sz t c) with
      | true =>
        obtain ⟨d, e1, e2⟩ := Pl.isPool_iff.mp z
        refine iteT ⟨_, fun _ _ h => h, ?_⟩
        refine ⟨_, rfl, _, _, rfl, rfl, c, Nat.lt_succ_self c, by omega, fun c' h1 h2 => ?_, ?_, s2⟩
        · rcases Nat.lt_or_ge c c' with g | g
          · exact inv c' g h2
          · have : c' = c := by omega
            subst this
            exact ⟨by omega, by rw [e2]; congr 1; omega⟩
        · show [some (V.int (sz : Nat)), some (.ref l), some (.int (((c + 1 : Nat) : Int) - 1))] = _
          rw [show ((c + 1 : Nat) : Int) - 1 = ((c : Nat) : Int) by omega]
      | false =>
        refine iteF ⟨_, rfl, k (c + 1) _ s2 ?_ (full inv)⟩
        rcases Nat.lt_or_ge c t.1.length with g | g
        · exact g
        · have : Pl.isPool sz ((59 : Int) - ((ys.length : Nat) : Int) + ((c + 1 : Nat) : Int)) (rowOf sz t c) = true := Pl.isPool_iff.mpr ⟨t.2 + (c - t.1.length), by omega, rowOf_ge g⟩
          rw [z] at this; cases this
/-- the arguments of a world's move -/
def PartsAt (F : Addr → Prop) (H : Hp) (r : V) (W : Wo) : Prop := ∃ a lo d kvs ks m, r = .ref a ∧ H a = some (.tup [.ref lo, .ref d]) ∧ PsAt F H (.ref lo) m.things ∧ H d = some (.dK kvs) ∧ DcAt F H kvs ks m.tail ∧ ks.Nodup ∧ (∀ s ∈ ks, 1 ≤ s ∧ s ≤ 8) ∧ (∀ s, s ∉ ks → m.tail s = ([], 0)) ∧ m.things = W.mv.things ∧ m.canon = W.mv ∧ wt m ≤ W.tot + 8
def spLawParts : Sp := fun vs H Q _ => ∃ (sl : Addr) (v : V) (fp : List Addr) (W : Wo) (n : Nat), vs = [.ref sl, v] ∧ WoAt fp H v W ∧ sl ∉ fp ∧ SrcAt sl n H ∧ n ≤ 10000 ∧ W.le 500 600 50 ∧ W.off ∧ ∀ r H', Ch [sl] H H' → SrcAt sl (n + 9) H' → PartsAt (Old H) H' r W → Q r H'
theorem dc_congr {F : Addr → Prop} {H : Hp} {tl tl' : Nat → List Pl × Nat} : ∀ {kvs : List (Key × V)} {ks : List Nat}, DcAt F H kvs ks tl → (∀ s ∈ ks, tl' s = tl s) → DcAt F H kvs ks tl'
  | _, _, .nil, _ => .nil
  | _, _, .cons (b := k) a b, h => .cons ⟨a.1, by rw [h k List.mem_cons_self]; exact a.2⟩ (dc_congr b fun s hs => h s (List.mem_cons_of_mem _ hs))
theorem old_ch {L : List Addr} {H H' : Hp} (c : Ch L H H') (hl : ∀ a ∈ L, ∃ o, H' a = some o) {a : Addr} (h : H' a = none) : H a = none := by
  cases e : H a with
  | none => rfl
  | some o =>
    by_cases m : a ∈ L
    · obtain ⟨o', e'⟩ := hl a m
      rw [e'] at h; cases h
    · rw [c _ _ e m] at h; cases h
theorem sc_LawParts : FnScope ["source", "world", "pools", "size", "row", "many", "place"] ["source", "world"] (defScope sLawParts) := ⟨rfl, rfl, rfl, by decide +kernel, rfl, by decide +kernel, by decide +kernel⟩
theorem ok_LawParts (D : DefF K mg "_law_parts" sLawParts ["source", "world"] f fd) (B : Blt mg) {fD fP fT : Addr} {fdD fdP fdT : FuncData} (DLawDraw : DefF K mg "_law_draw" sLawDraw ["source", "bound"] fD fdD) (GLawDraw : FnOk P w K mg base CX0 1 fD fdD ["source", "bound"] spLawDraw)
    (DLawPick : DefF K mg "_law_pick" sLawPick ["source", "items"] fP fdP) (GLawPick : FnOk P w K mg base CX0 2 fP fdP ["source", "items"] (spLawPick K))
    (DLawTail : DefF K mg "_law_tail" sLawTail ["size", "row"] fT fdT) (GLawTail : FnOk P w K mg base CX0 1 fT fdT ["size", "row"] spLawTail) : FnOk P w K mg base CX0 3 f fd ["source", "world"] spLawParts := by
  refine D.fn.ok sc_LawParts (fun vs H Q E h => ?_) (fun cdv A outer s H vs Q E hr h => ?_)
  · obtain ⟨sl, v, fp, W, n, rfl, _⟩ := h; rfl
  · obtain ⟨sl, v, fp, W, n, rfl, hW, nsl, hs, hn, hle, hoff, k⟩ := h
    refine ⟨_, (pss_cons (ps_set (i := 2) sc_LawParts.nd rfl (.inl rfl) pe_dnewK) (pss_cons (ps_for PassesOwn.never rfl (pi_list (pe_call GLawPick (hr.mono (by first | decide | omega)) rfl DLawPick.gl DLawPick.fn.kp DLawPick.bd .nil pass0 (pa_cons (pv 0) (pa_cons (pe_lst (pa_cons (pe_lst (pa_cons pe_int (pa_cons pe_int (pa_cons pe_int (pa_cons pe_int pa_nil))))) (pa_cons (pe_lst (pa_cons pe_int (pa_cons pe_int (pa_cons pe_int (pa_cons pe_int pa_nil))))) (pa_cons (pe_lst (pa_cons pe_int (pa_cons pe_int (pa_cons pe_int (pa_cons pe_int pa_nil))))) pa_nil)))) pa_nil)))) (pg_name (i := 3) sc_LawParts.nd rfl (.inl rfl)) (pss_cons (ps_set (i := 4) sc_LawParts.nd rfl (.inl rfl) (pe_dget (hu_of hr) (pe_dget (hu_of hr) (pv 1) pe_str (fun _ _ => rfl)) (pv 3) (fun _ _ => rfl))) (pss_cons (ps_set (i := 5) sc_LawParts.nd rfl (.inl rfl) (pe_op op_add (pe_call GLawTail (hr.mono (by first | decide | omega)) rfl DLawTail.gl DLawTail.fn.kp DLawTail.bd .nil pass0 (pa_cons (pv 3) (pa_cons (pv 4) pa_nil))) (pe_call GLawDraw (hr.mono (by first | decide | omega)) rfl DLawDraw.gl DLawDraw.fn.kp DLawDraw.bd .nil pass0 (pa_cons (pv 0) (pa_cons pe_int pa_nil))))) (pss_one (ps_if (PW.pt (pw_or (pt_cmpR op_gt (pv 5) pe_int (nomark _)) (pw_or (pt_cmpR op_gt (pe_ix ix_tup (pe_ix ix_list (pv 4) pe_int (fun _ _ => rfl)) pe_int (fun _ _ => rfl)) pe_int (nomark _)) (pw_or1 (pt_cmpR op_eq (pe_call GLawDraw (hr.mono (by first | decide | omega)) rfl DLawDraw.gl DLawDraw.fn.kp DLawDraw.bd .nil pass0 (pa_cons (pv 0) (pa_cons pe_int pa_nil))) pe_int (nomark _)))))) (pss_one (ps_dput (hu_of hr) (pv 2) (pv 3) (pe_tup (pa_cons (pe_slice sl_list (pv 4) po_none (po_some (pv 5))) (pa_cons (pe_ix ix_tup (pe_ix ix_list (pv 4) (pv 5) (fun _ _ => rfl)) pe_int (fun _ _ => rfl)) pa_nil))) rfl)) pss_nil))))) (pss_one (ps_ret (pe_tup (pa_cons (pe_lc (own := [("place", 6), ("size", 3)]) (tt := tYes) (g := (gTup K 2 (gCons (gName 6) (gCons (gName 3) gNil)))) rfl sc_LawParts.nd (pi_list (pe_dget (hu_of hr) (pv 1) pe_str (fun _ _ => rfl))) (blkOk_by (N := ["source", "world", "pools", "size", "row", "many", "place"]) (sc := defScope sLawParts) (by decide +kernel)) (fun _ _ _ _ _ => (pg_tup rfl (pgs_cons (pg_name (i := 6) sc_LawParts.nd rfl (.inl rfl) (.inr rfl)) (pgs_cons (pg_name (i := 3) sc_LawParts.nd rfl (.inl rfl) (.inr rfl)) pgs_nil)))) (fun _ _ _ _ _ => pts_nil) (fun _ _ _ _ _ => (pv 6))) (pa_cons (pv 2) pa_nil))))))), ?_⟩
    have z9 := szM
    refine fun dp hdp => ?_
    have q1 := Same.new (o := .dK []) hdp
    have hdp1 : upd H dp (.dK []) dp = some (.dK []) := upd_same
    generalize upd H dp (.dK []) = H1 at q1 hdp1 ⊢
    refine ⟨_, rfl, (by show 4 ≤ sizeLine; omega), fun a1 ha1 => ⟨(by show 4 ≤ sizeLine; omega), fun a2 ha2 => ⟨(by show 4 ≤ sizeLine; omega), fun a3 ha3 => ⟨(by show 3 ≤ sizeLine; omega), fun a4 ha4 => ?_⟩⟩⟩⟩
    have q2 := Same.new (o := .lst [.int 1, .int 2, .int 8, .int 5]) ha1
    have q3 := Same.new (o := .lst [.int 5, .int 8, .int 2, .int 1]) ha2
    have q4 := Same.new (o := .lst [.int 8, .int 1, .int 5, .int 2]) ha3
    have q5 := Same.new (o := .lst [.ref a1, .ref a2, .ref a3]) ha4
    have hin : ∀ x ∈ ([.ref a1, .ref a2, .ref a3] : List V), ∃ (li : Addr) (ks : List Nat), x = .ref li ∧ upd (upd (upd (upd H1 a1 (.lst [.int 1, .int 2, .int 8, .int 5])) a2 (.lst [.int 5, .int 8, .int 2, .int 1])) a3 (.lst [.int 8, .int 1, .int 5, .int 2])) a4 (.lst [.ref a1, .ref a2, .ref a3]) li = some (.lst (ks.map fun s => V.int (s : Nat))) ∧ ks.Nodup ∧ (∀ s ∈ ks, s = 1 ∨ s = 2 ∨ s = 8 ∨ s = 5) ∧ (∀ s, s = 1 ∨ s = 2 ∨ s = 8 ∨ s = 5 → s ∈ ks) ∧ ks.length = 4 := by
      intro x hx
      simp only [List.mem_cons, List.not_mem_nil, or_false] at hx
      rcases hx with rfl | rfl | rfl
      · exact ⟨a1, [1, 2, 8, 5], rfl, q5 _ _ (q4 _ _ (q3 _ _ upd_same)), by decide, by intro s h; simpa using h, by intro s h; simpa using h, rfl⟩
      · exact ⟨a2, [5, 8, 2, 1], rfl, q5 _ _ (q4 _ _ upd_same), by decide, by intro s h; simp only [List.mem_cons, List.not_mem_nil, or_false] at h; omega, by intro s h; simp only [List.mem_cons, List.not_mem_nil, or_false]; omega, rfl⟩
      · exact ⟨a3, [8, 1, 5, 2], rfl, q5 _ _ upd_same, by decide, by intro s h; simp only [List.mem_cons, List.not_mem_nil, or_false] at h; omega, by intro s h; simp only [List.mem_cons, List.not_mem_nil, or_false]; omega, rfl⟩
    have q15 := (((q1.trans q2).trans q3).trans q4).trans q5
    have ha4' : upd (upd (upd (upd H1 a1 (.lst [.int 1, .int 2, .int 8, .int 5])) a2 (.lst [.int 5, .int 8, .int 2, .int 1])) a3 (.lst [.int 8, .int 1, .int 5, .int 2])) a4 (.lst [.ref a1, .ref a2, .ref a3]) a4 = some (.lst [.ref a1, .ref a2, .ref a3]) := upd_same
    have hdp5 := q5 _ _ (q4 _ _ (q3 _ _ (q2 _ _ hdp1)))
    have n4s := (((hs.same (q1.trans q2)).same q3).same q4).ne ha4
    have odp : H dp = none := hdp
    generalize upd (upd (upd (upd H1 a1 (.lst [.int 1, .int 2, .int 8, .int 5])) a2 (.lst [.int 5, .int 8, .int 2, .int 1])) a3 (.lst [.int 8, .int 1, .int 5, .int 2])) a4 (.lst [.ref a1, .ref a2, .ref a3]) = H5 at q15 hin ha4' hdp5 ⊢
    clear q1 q2 q3 q4 q5 ha1 ha2 ha3 ha4 hdp1
    have hs5 := hs.same q15
    refine ⟨sl, a4, _, n, rfl, ha4', n4s, (by show 1 ≤ 3; decide), (by show 3 ≤ 1000; decide), by omega, hs5, fun x H6 hx c6 s6 => ?_⟩
    obtain ⟨li, ks, rfl, hli, knd, kin, kall, k4⟩ := hin x hx
    obtain ⟨_, _, _, hsl5, _⟩ := id hs5
    have nls : li ≠ sl := fun z => by
      rw [z, hsl5] at hli
      have e := congrArg List.length (HO.lst.inj (Option.some.inj hli))
      rw [List.length_map, k4] at e
      exact absurd (show (3 : Nat) = 4 from e) (by decide)
    have nds : dp ≠ sl := (ne_of hdp5 hsl5 fun z => nomatch z)
    have hli6 := c6 _ _ hli (fun m => nls (List.mem_singleton.mp m))
    have hdp6 := c6 _ _ hdp5 (fun m => nds (List.mem_singleton.mp m))
    have c06 : Ch [sl] H H6 := (Same.ch q15).trans c6
    refine ⟨li, rfl, ⟨_, SqL.of hli6⟩, for_list (xs := ks.map fun s => V.int (s : Nat)) (fun i σ H' => (∃ p3 p4 p5, σ = [some (.ref sl), some v, some (.ref dp), p3, p4, p5, none]) ∧ Ch [sl] H H' ∧ SrcAt sl (n + 1 + 2 * i) H' ∧ H' li = some (.lst (ks.map fun s => V.int (s : Nat))) ∧
      ∃ (kv : List (Key × V)) (kd : List Nat) (tl : Nat → List Pl × Nat), H' dp = some (.dK kv) ∧ DcAt (Old H) H' kv kd tl ∧ kd.Nodup ∧ (∀ s ∈ kd, s ∈ ks.take i) ∧ (∀ s ∈ kd, rowOf s (tl s) = rowOf s (W.pl s) ∧ (tl s).1.length ≤ (W.pl s).1.length + 2) ∧ ∀ s ∈ ks.take i, s ∉ kd → rowOf s (W.pl s) = rowOf s ([], 0))
      ⟨⟨none, none, none, rfl⟩, c06, s6, hli6, [], [], (fun _ => ([], 0)), hdp6, .nil, List.nodup_nil, (fun s m => absurd m List.not_mem_nil), (fun s m => absurd m List.not_mem_nil), (fun s m => by rw [List.take_zero] at m; exact absurd m List.not_mem_nil)⟩ (fun i σ H _ h => SqL.of h.2.2.2.1) ?_ ?_⟩
    · rintro i x σ H7 hxi ⟨⟨p3, p4, p5, rfl⟩, c7, s7, hli7, kv, kd, tl, hdp7, dct, kdn, kdin, kdt, kdo⟩
      rw [List.getElem?_map] at hxi
      obtain ⟨s, hks, rfl⟩ : ∃ s, ks[i]? = some s ∧ V.int ((s : Nat) : Int) = x := by
        cases z : ks[i]? with
        | none => rw [z] at hxi; cases hxi
        | some s => rw [z] at hxi; exact ⟨s, rfl, Option.some.inj hxi⟩
      have hsm := List.mem_of_getElem? hks
      have hi4 : i < 4 := by have := (List.getElem?_eq_some_iff.mp hks).1; omega
      have hs8 : 1 ≤ s ∧ s ≤ 8 := by have := kin s hsm; omega
      have hW7 := hW.bl c7 hs.lst (fun a m z => nsl (by rw [List.mem_singleton.mp z] at m; exact m))
      obtain ⟨wd, dq, lo, lps, os, rfl, rfl, h8, wnd, hw, hd, ho, po, hp⟩ := hW7
      have gP : ∀ {H' : Hp}, H' wd = some (.dK (wkv lo dq)) → DGet H' wd (.str "pools") (some (.ref dq)) := fun {H'} e => by rw [← wkv_pools (lo := lo) (dp := dq)]; exact DGet.k (k := Sum.inr "pools") e
      obtain ⟨l, hl8⟩ : ∃ l, lps[s - 1]? = some l := ⟨_, List.getElem?_eq_getElem (by omega)⟩
      obtain ⟨ys, hl, py⟩ := hp _ _ hl8
      rw [show s - 1 + 1 = s by omega] at py
      have hval : valV (pkv 1 lps) (Sum.inl ((s : Nat) : Int) : Key) = some (.ref l) := by rw [pkv_get hs8.1, hl8]; rfl
      have nls2 : l ≠ sl := fun z => nsl (by rw [← z]; exact List.mem_cons_of_mem _ (List.mem_of_getElem? hl8))
      have ly := Paired.len py
      rw [prow_len] at ly
      have tl1 := (hle.2 s).1
      have tl2 := (hle.2 s).2
      have kdl : kd.length ≤ 9 := by
        have : kd.length ≤ ks.length := by
          have key : ∀ (l D : List Nat), l.Nodup → (∀ x ∈ l, x ∈ D) → l.length ≤ D.length := by
            intro l
            induction l with
            | nil => exact fun _ _ _ => Nat.zero_le _
            | cons x l ih =>
              intro D nd sub
              have hx := sub x List.mem_cons_self
              have := ih (D.erase x) (List.nodup_cons.mp nd).2 fun y hy => (List.mem_erase_of_ne (fun e => (List.nodup_cons.mp nd).1 (by rw [← e]; exact hy))).mpr (sub y (List.mem_cons_of_mem _ hy))
              rw [List.length_erase_of_mem hx] at this
              have := List.length_pos_of_mem hx
              rw [List.length_cons]
              omega
          exact key kd ks kdn fun s hs => List.mem_of_mem_take (kdin s hs)
        omega
      have kvl : kv.length < sizeLine := by have := Paired.len dct; omega
      have hsnew : s ∉ ks.take i := fun z => by
        have e2 : ks = ks.take (i + 1) ++ ks.drop (i + 1) := (List.take_append_drop _ _).symm
        have ets : ks.take (i + 1) = ks.take i ++ [s] := by rw [List.take_add_one, hks]; rfl
        have nnd := knd
        rw [e2, ets] at nnd
        exact (List.nodup_append.mp (List.nodup_append.mp nnd).1).2.2 s z s (List.mem_singleton.mpr rfl) rfl
      have ets : ks.take (i + 1) = ks.take i ++ [s] := by rw [List.take_add_one, hks]; rfl
      have hskd : s ∉ kd := fun z => hsnew (kdin s z)
      refine ⟨_, rfl, wd, .ref dq, rfl, gP hw, _, rfl, dq, .ref l, rfl, hval ▸ DGet.k (k := Sum.inl ((s : Nat) : Int)) hd, ?_⟩
      refine ⟨_, rfl, _, rfl, s, l, ys, W.pl s, rfl, hl, py, by omega, by omega, fun m H8 t8 hm hrule => ?_⟩
      refine ⟨_, rfl, sl, _, n + 1 + 2 * i, rfl, by decide, by decide, by omega, s7.same t8, fun r H9 hr9 cc9 s9 => ?_⟩
      have nd7 : ∀ b ∈ [sl], ∃ xs, H8 b = some (.lst xs) := (s7.same t8).lst
      have c9 : Ch [sl] H H9 := (c7.trans (Same.ch t8)).trans cc9
      have c79 : Ch [sl] H7 H9 := (Same.ch t8).trans cc9
      have tu9 : ∀ b zs, H7 b = some (.tup zs) → H9 b = some (.tup zs) := ch_tup (sl := sl) c79 s7.lst
      have hl9 := c79 _ _ hl (fun m => nls2 (List.mem_singleton.mp m))
      have hli9 := c79 _ _ hli7 (fun m => nls (List.mem_singleton.mp m))
      have hdp9 := c79 _ _ hdp7 (fun m => nds (List.mem_singleton.mp m))
      have py9 := Paired.mono (fun _ _ => PlAt.but tu9) py
      have blc : ∀ {Ha Hb : Hp} {a : Nat}, Ch [sl] Ha Hb → SrcAt sl a Ha → Bl (Old H) Ha Hb := fun {Ha Hb a} c sa => ⟨ch_tup (sl := sl) c sa.lst, fun b xs nf e => c _ _ e fun m => nf (by
        rw [List.mem_singleton.mp m]
        obtain ⟨_, _, _, e, _⟩ := hs
        intro z; rw [e] at z; cases z)⟩
      have dct9 := (blc c79 s7).dc dct
      have nsd : sl ∉ [dp] := fun m => nds (List.mem_singleton.mp m).symm
      have fin : ∀ (Ha : Hp) (k : Nat), m ≤ k → k ≤ m + 2 → k < ys.length → Ch [sl] H Ha → SrcAt sl (n + 1 + 2 * (i + 1)) Ha → Ha l = some (.lst ys) → Ha li = some (.lst (ks.map fun s => V.int (s : Nat))) → Ha dp = some (.dK kv) → DcAt (Old H) Ha kv kd tl → Paired (PlAt Ha) ys (prow s (W.pl s)) → ∀ p1, Ha p1 = none → ∀ p2, upd Ha p1 (.lst (ys.take k)) p2 = none →
          upd (upd Ha p1 (.lst (ys.take k))) p2 (.tup [.ref p1, .int (((W.pl s).2 + k - (W.pl s).1.length : Nat) : Int)]) dp = some (.dK kv) ∧
          Ch [sl] H (upd (upd (upd Ha p1 (.lst (ys.take k))) p2 (.tup [.ref p1, .int (((W.pl s).2 + k - (W.pl s).1.length : Nat) : Int)])) dp (.dK (putK kv (Sum.inl ((s : Nat) : Int)) (.ref p2)))) ∧
          SrcAt sl (n + 1 + 2 * (i + 1)) (upd (upd (upd Ha p1 (.lst (ys.take k))) p2 (.tup [.ref p1, .int (((W.pl s).2 + k - (W.pl s).1.length : Nat) : Int)])) dp (.dK (putK kv (Sum.inl ((s : Nat) : Int)) (.ref p2)))) ∧
          upd (upd (upd Ha p1 (.lst (ys.take k))) p2 (.tup [.ref p1, .int (((W.pl s).2 + k - (W.pl s).1.length : Nat) : Int)])) dp (.dK (putK kv (Sum.inl ((s : Nat) : Int)) (.ref p2))) li = some (.lst (ks.map fun s => V.int (s : Nat))) ∧
          ∃ (kv' : List (Key × V)) (kd' : List Nat) (tl' : Nat → List Pl × Nat), upd (upd (upd Ha p1 (.lst (ys.take k))) p2 (.tup [.ref p1, .int (((W.pl s).2 + k - (W.pl s).1.length : Nat) : Int)])) dp (.dK (putK kv (Sum.inl ((s : Nat) : Int)) (.ref p2))) dp = some (.dK kv') ∧
            DcAt (Old H) (upd (upd (upd Ha p1 (.lst (ys.take k))) p2 (.tup [.ref p1, .int (((W.pl s).2 + k - (W.pl s).1.length : Nat) : Int)])) dp (.dK (putK kv (Sum.inl ((s : Nat) : Int)) (.ref p2)))) kv' kd' tl' ∧ kd'.Nodup ∧ (∀ s ∈ kd', s ∈ ks.take (i + 1)) ∧ (∀ s ∈ kd', rowOf s (tl' s) = rowOf s (W.pl s) ∧ (tl' s).1.length ≤ (W.pl s).1.length + 2) ∧ ∀ s ∈ ks.take (i + 1), s ∉ kd' → rowOf s (W.pl s) = rowOf s ([], 0) := fun Ha k hk1 hk2 hk3 ca sa la lia da dca pya p1 hp1 p2 hp2 => by
        have w1 := Same.new (o := .lst (ys.take k)) hp1
        have w2 := Same.new (o := .tup [.ref p1, .int (((W.pl s).2 + k - (W.pl s).1.length : Nat) : Int)]) hp2
        have w12 := w1.trans w2
        have hp1b := w2 _ _ (show upd Ha p1 (.lst (ys.take k)) p1 = some (.lst (ys.take k)) from upd_same)
        have hp2b : upd (upd Ha p1 (.lst (ys.take k))) p2 (.tup [.ref p1, .int (((W.pl s).2 + k - (W.pl s).1.length : Nat) : Int)]) p2 = _ := upd_same
        have op1 : H p1 = none := old_ch ca (fun a m => by rw [List.mem_singleton.mp m]; obtain ⟨_, _, _, e, _⟩ := sa; exact ⟨_, e⟩) hp1
        generalize upd (upd Ha p1 (.lst (ys.take k))) p2 (.tup [.ref p1, .int (((W.pl s).2 + k - (W.pl s).1.length : Nat) : Int)]) = Hb at w12 hp1b hp2b ⊢
        have db := w12 _ _ da
        have ep : putK kv (Sum.inl ((s : Nat) : Int)) (.ref p2) = kv ++ [(Sum.inl ((s : Nat) : Int), .ref p2)] := putK_new _ ((DcAt.get (s := s) dca).2 hskd)
        rw [ep]
        have blp : Bl (Old H) Hb (upd Hb dp (.dK (kv ++ [(Sum.inl ((s : Nat) : Int), .ref p2)]))) := Bl.put db (fun _ z => nomatch z) fun _ z => nomatch z
        refine ⟨db, fun b o e nb => by rw [upd_ne (ne_of_none e odp)]; exact w12 _ _ (ca _ _ e nb), (sa.same w12).ch (L := [dp]) (Ch.put (List.mem_singleton.mpr rfl)) nsd, by rw [upd_ne (ne_of (w12 _ _ lia) db fun z => nomatch z)]; exact w12 _ _ lia, _, kd ++ [s], (fun u => if u = s then ((prow s (W.pl s)).take k, (W.pl s).2 + k - (W.pl s).1.length) else tl u), upd_same, ?_, ?_, ?_, ?_, ?_⟩
        · refine dc_snoc (blp.dc (dc_congr ((Bl.same w12).dc dca) fun u hu => if_neg fun e => hskd (by rw [← e]; exact hu))) (blp.tl ?_)
          rw [if_pos rfl]
          exact ⟨p2, .ref p1, rfl, hp2b, p1, _, rfl, fun z => z op1, hp1b, Paired.take k (Paired.mono (fun _ _ => PlAt.mono w12) pya)⟩
        · exact List.nodup_append.mpr ⟨kdn, List.nodup_cons.mpr ⟨List.not_mem_nil, List.nodup_nil⟩, fun a ha b hb e => hskd (by rw [← List.mem_singleton.mp hb, ← e]; exact ha)⟩
        · intro u hu
          rw [ets]
          rcases List.mem_append.mp hu with hu | hu
          · exact List.mem_append_left _ (kdin u hu)
          · exact List.mem_append_right _ hu
        · intro u hu
          rcases List.mem_append.mp hu with hu | hu
          · show rowOf u (if u = s then _ else tl u) = _ ∧ (if u = s then _ else tl u).1.length ≤ _
            rw [if_neg (fun e => hskd (by rw [← e]; exact hu))]
            exact kdt u hu
          · rw [List.mem_singleton.mp hu]
            show rowOf s (if s = s then _ else tl s) = _ ∧ (if s = s then _ else tl s).1.length ≤ _
            rw [if_pos rfl]
            refine ⟨?_, ?_⟩
            · rcases rule_cut hrule hk1 with e | e
              · exact e
              · omega
            · show ((prow s (W.pl s)).take k).length ≤ _
              rw [List.length_take]; omega
        · intro u hu hnu
          rw [ets] at hu
          rcases List.mem_append.mp hu with hu | hu
          · exact kdo u hu fun z => hnu (List.mem_append_left _ z)
          · exact absurd (List.mem_append_right _ hu) hnu
      have s9' : SrcAt sl (n + 1 + 2 * (i + 1)) H9 := s9.le (by omega)
      refine ⟨_, _, rfl, rfl, ?_⟩
      dsimp -proj only
      rw [show ((m : Nat) : Int) + ((r : Nat) : Int) = ((m + r : Nat) : Int) by omega]
      refine ⟨_, rfl, _, _, rfl, rfl, _, rfl, ?_⟩
      by_cases hmr : 0 < m + r
      · rw [decide_eq_true (show (0 : Int) < ((m + r : Nat) : Int) by omega)]
        refine iteT (iteT ?_)
        refine ⟨_, rfl, _, rfl, _, rfl, l, ys, rfl, SqL.of hl9, fun p1 hp1 => ?_⟩
        rw [cut_hi]
        obtain ⟨x, hx, xa, rfl, hxa⟩ := Paired.at2 py9 (prow_at (show m + r < (W.pl s).1.length + (60 - (W.pl s).2) by omega))
        rw [(hrule (m + r) (by omega)).2] at hxa
        have w1 := Same.new (o := .lst (ys.take (m + r))) hp1
        refine ⟨_, rfl, _, rfl, l, ys, _, _, rfl, rfl, SqL.of (w1 _ _ hl9), atI_nat hx, xa, _, 2, _, rfl, rfl, SqT.of (w1 _ _ hxa), rfl, sz2, fun p2 hp2 => ?_⟩
        have f := fin _ (m + r) (by omega) (by omega) (by omega) c9 s9' hl9 hli9 hdp9 dct9 py9 p1 hp1 p2 hp2
        refine ⟨_, rfl, _, rfl, dp, _, rfl, DPut.k (k := Sum.inl ((s : Nat) : Int)) f.1 kvl, ⟨_, _, _, rfl⟩, f.2⟩
      · rw [decide_eq_false (show ¬ (0 : Int) < ((m + r : Nat) : Int) by omega)]
        refine iteF ?_
        have m0 : m = 0 := by omega
        have r0 : r = 0 := by omega
        obtain ⟨e1, e2⟩ := hrule 0 (by omega)
        obtain ⟨x, hx, xa, rfl, hxa⟩ := Paired.at2 py9 (prow_at (show 0 < (W.pl s).1.length + (60 - (W.pl s).2) by omega))
        rw [e2] at hxa
        refine ⟨_, rfl, l, ys, 0, _, rfl, rfl, SqL.of hl9, (show atI ys ((0 : Nat) : Int) = _ from atI_nat hx), xa, _, 2, _, rfl, rfl, SqT.of hxa, rfl, _, _, rfl, rfl, _, rfl, ?_⟩
        by_cases hx0 : 0 < (W.pl s).2 + 0 - (W.pl s).1.length
        · rw [decide_eq_true (show (0 : Int) < (((W.pl s).2 + 0 - (W.pl s).1.length : Nat) : Int) by omega)]
          refine iteT (iteT ?_)
          refine ⟨_, rfl, _, rfl, _, rfl, l, ys, rfl, SqL.of hl9, fun p1 hp1 => ?_⟩
          rw [cut_hi]
          obtain ⟨x, hx, xa, rfl, hxa⟩ := Paired.at2 py9 (prow_at (show m + r < (W.pl s).1.length + (60 - (W.pl s).2) by omega))
          rw [(hrule (m + r) (by omega)).2] at hxa
          have w1 := Same.new (o := .lst (ys.take (m + r))) hp1
          refine ⟨_, rfl, _, rfl, l, ys, _, _, rfl, rfl, SqL.of (w1 _ _ hl9), atI_nat hx, xa, _, 2, _, rfl, rfl, SqT.of (w1 _ _ hxa), rfl, sz2, fun p2 hp2 => ?_⟩
          have f := fin _ (m + r) (by omega) (by omega) (by omega) c9 s9' hl9 hli9 hdp9 dct9 py9 p1 hp1 p2 hp2
          refine ⟨_, rfl, _, rfl, dp, _, rfl, DPut.k (k := Sum.inl ((s : Nat) : Int)) f.1 kvl, ⟨_, _, _, rfl⟩, f.2⟩
        · rw [decide_eq_false (show ¬ (0 : Int) < (((W.pl s).2 + 0 - (W.pl s).1.length : Nat) : Int) by omega)]
          refine iteF ⟨_, rfl, sl, _, n + 1 + 2 * i + 1, rfl, by decide, by decide, by omega, s9, fun q HA hq cA sA => ?_⟩
          have c9A : Ch [sl] H7 HA := c79.trans cA
          have tuA : ∀ b zs, H9 b = some (.tup zs) → HA b = some (.tup zs) := ch_tup (sl := sl) cA s9.lst
          have cAA : Ch [sl] H HA := c9.trans cA
          have hlA := cA _ _ hl9 (fun m => nls2 (List.mem_singleton.mp m))
          have hliA := cA _ _ hli9 (fun m => nls (List.mem_singleton.mp m))
          have hdpA := cA _ _ hdp9 (fun m => nds (List.mem_singleton.mp m))
          have pyA := Paired.mono (fun _ _ => PlAt.but tuA) py9
          have dctA := (blc cA s9).dc dct9
          have sA' : SrcAt sl (n + 1 + 2 * (i + 1)) HA := sA.le (by omega)
          refine ⟨rfl, _, rfl, ?_⟩
          by_cases hq0 : q = 0
          · rw [nat_eq0 (show ((q : Nat) : Int) = 0 by omega)]
            refine iteT ?_
            refine ⟨_, rfl, _, rfl, _, rfl, l, ys, rfl, SqL.of hlA, fun p1 hp1 => ?_⟩
            rw [cut_hi]
            obtain ⟨x, hx, xa, rfl, hxa⟩ := Paired.at2 pyA (prow_at (show m + r < (W.pl s).1.length + (60 - (W.pl s).2) by omega))
            rw [(hrule (m + r) (by omega)).2] at hxa
            have w1 := Same.new (o := .lst (ys.take (m + r))) hp1
            refine ⟨_, rfl, _, rfl, l, ys, _, _, rfl, rfl, SqL.of (w1 _ _ hlA), atI_nat hx, xa, _, 2, _, rfl, rfl, SqT.of (w1 _ _ hxa), rfl, sz2, fun p2 hp2 => ?_⟩
            have f := fin _ (m + r) (by omega) (by omega) (by omega) cAA sA' hlA hliA hdpA dctA pyA p1 hp1 p2 hp2
            refine ⟨_, rfl, _, rfl, dp, _, rfl, DPut.k (k := Sum.inl ((s : Nat) : Int)) f.1 kvl, ⟨_, _, _, rfl⟩, f.2⟩
          · rw [nat_ne0 (show ((q : Nat) : Int) ≠ 0 by omega)]
            refine iteF ⟨⟨_, _, _, rfl⟩, cAA, sA', hliA, kv, kd, tl, hdpA, dctA, kdn, (fun u hu => by rw [ets]; exact List.mem_append_left _ (kdin u hu)), kdt, fun u hu hnu => ?_⟩
            rw [ets] at hu
            rcases List.mem_append.mp hu with hu | hu
            · exact kdo u hu hnu
            · rw [List.mem_singleton.mp hu]
              funext c
              rw [(hrule c (by omega)).2, rowOf_nil]
              have := (hrule c (by omega)).1
              congr 1; omega
    · rintro σ H7 ⟨⟨p3, p4, p5, rfl⟩, c7, s7, hli7, kv, kd, tl, hdp7, dct, kdn, kdin, kdt, kdo⟩
      rw [List.length_map, k4] at s7
      rw [List.length_map, List.take_of_length_le (Nat.le_refl _)] at kdin kdo
      have hW7 := hW.bl c7 hs.lst (fun a m z => nsl (by rw [List.mem_singleton.mp z] at m; exact m))
      obtain ⟨wd, dq, lo, lps, os, rfl, rfl, h8, wnd, hw, hd, ho, po, hp⟩ := hW7
      have gO : DGet H7 wd (.str "objects") (some (.ref lo)) := by rw [← wkv_objects (lo := lo) (dp := dq)]; exact DGet.k (k := Sum.inr "objects") hw
      have lo1 := Paired.len po
      have lob : W.objs.length ≤ 500 := hle.1
      refine ⟨_, rfl, wd, .ref lo, rfl, gO, lo, rfl, ⟨_, SqL.of ho⟩, fun D1 hD1 => lc_mapW (walk_list (xs := os)) (R := PlAt) (fun k2 q => PlAt.but k2 q) (W.objs.map Prod.fst) hD1 (fun _ s => SqL.of (s _ _ ho)) (fun i H x H' _ _ y => by rw [y.1]; exact Same.refl _) (by rw [List.length_map]; exact lo1) (by omega) ?_ ?_ ?_⟩
      · rintro j b hb x H8 H9 u1 u2 ⟨rfl, hx⟩ Q' k'
        obtain ⟨⟨pp, ss⟩, hob, a, u, rfl, ha, hu⟩ := Paired.at_ po hx
        rw [List.getElem?_map, hob] at hb
        cases hb
        refine ⟨a, _, rfl, SqT.of (u1 _ _ ha), rfl, _, _, rfl, _, _, rfl, rfl, rfl, _, rfl, k' _ _ (Same.refl _) (hu.mono u1)⟩
      · intro x σ H1 P' Q' h hx
        obtain ⟨a, xs, e1, e2, e3, u, r, e4, v, r', e5, e6, e7⟩ := hx
        exact ⟨a, xs, e1, e2, e3, u, r, e4, v, r', e5, e6, h _ _ e7⟩
      · intro H8 gs t8 hD8 pg
        refine ⟨_, rfl, sz2, fun p hp => ?_⟩
        have t9 := Same.new (o := .tup [.ref D1, .ref dp]) hp
        have t79 := t8.trans t9
        have oD1 : H D1 = none := old_ch c7 (fun a m => by rw [List.mem_singleton.mp m]; obtain ⟨_, _, _, e, _⟩ := s7; exact ⟨_, e⟩) hD1
        refine k _ _ (c7.trans (Same.ch t79)) (s7.same t79) ⟨p, D1, dp, kv, kd, ⟨W.objs.map Prod.fst, fun s => if s ∈ kd then tl s else ([], 0)⟩, rfl, upd_same, ⟨D1, gs, rfl, fun z => z oD1, t9 _ _ hD8, Paired.mono (fun _ _ => PlAt.mono t9) pg⟩, t79 _ _ hdp7, dc_congr ((Bl.same t79).dc dct) fun s hs => if_pos hs, kdn, fun s hs => ?_, fun s hs => if_neg hs, rfl, ?_, ?_⟩
        · have := kin s (kdin s hs); omega
        · unfold Mvd.canon Wo.mv
          show Mvd.mk (W.objs.map Prod.fst) (fun s => short s (if s ∈ kd then tl s else ([], 0)).1 (if s ∈ kd then tl s else ([], 0)).2) = Mvd.mk (W.objs.map Prod.fst) (fun s => short s (W.pl s).1 (W.pl s).2)
          congr 1
          funext s
          by_cases h1 : s ∈ kd
          · rw [if_pos h1]; exact short_of_row (kdt s h1).1
          · rw [if_neg h1]
            by_cases h2 : s ∈ ks
            · exact short_of_row (kdo s h2 h1).symm
            · rw [hoff s fun z => h2 (kall s (by have z : s = 1 ∨ s = 2 ∨ s = 8 := z; omega))]
        · have hb : ∀ s, (if s ∈ kd then tl s else ([], 0)).1.length ≤ (W.pl s).1.length + (if s = 1 ∨ s = 2 ∨ s = 8 ∨ s = 5 then 2 else 0) := fun s => by
            by_cases h1 : s ∈ kd
            · rw [if_pos h1, if_pos (kin s (kdin s h1))]; exact (kdt s h1).2
            · rw [if_neg h1]; exact Nat.zero_le _
          unfold wt Wo.tot
          rw [flat9, flat9]
          show (W.objs.map Prod.fst).length + _ ≤ _
          rw [List.length_map]
          have h0 : (if 0 ∈ kd then tl 0 else ([], 0)).1.length ≤ (W.pl 0).1.length + 0 := hb 0
          have h1 : (if 1 ∈ kd then tl 1 else ([], 0)).1.length ≤ (W.pl 1).1.length + 2 := hb 1
          have h2 : (if 2 ∈ kd then tl 2 else ([], 0)).1.length ≤ (W.pl 2).1.length + 2 := hb 2
          have h3 : (if 3 ∈ kd then tl 3 else ([], 0)).1.length ≤ (W.pl 3).1.length + 0 := hb 3
          have h4 : (if 4 ∈ kd then tl 4 else ([], 0)).1.length ≤ (W.pl 4).1.length + 0 := hb 4
          have h5 : (if 5 ∈ kd then tl 5 else ([], 0)).1.length ≤ (W.pl 5).1.length + 2 := hb 5
          have h6 : (if 6 ∈ kd then tl 6 else ([], 0)).1.length ≤ (W.pl 6).1.length + 0 := hb 6
          have h7 : (if 7 ∈ kd then tl 7 else ([], 0)).1.length ≤ (W.pl 7).1.length + 0 := hb 7
          have h8 : (if 8 ∈ kd then tl 8 else ([], 0)).1.length ≤ (W.pl 8).1.length + 2 := hb 8
          dsimp only
          omega
def spLawMove (CM : Addr) : Sp := fun vs H Q _ => ∃ (sl : Addr) (v : V) (fp : List Addr) (W : Wo) (n : Nat) (z0 : List Nat), vs = [.ref sl, v] ∧ WoAt fp H v W ∧ sl ∉ fp ∧ SrcAt sl n H ∧ n ≤ 10000 ∧ W.le 500 600 50 ∧ W.off ∧ MGood z0 W.z W.f ∧ (∀ s ∈ W.z, 1 ≤ s ∧ s ≤ 8) ∧ W.tot ≤ 62 ∧ ∀ r H', Ch [sl] H H' → SrcAt sl (n + 9) H' → MvAt CM (Old H) H' r W.mv → Q r H'
theorem sc_LawMove : FnScope ["source", "world", "objects", "pools"] ["source", "world"] (defScope sLawMove) := ⟨rfl, rfl, rfl, by decide +kernel, rfl, by decide +kernel, by decide +kernel⟩
theorem ok_LawMove (D : DefF K mg "_law_move" sLawMove ["source", "world"] f fd) (B : Blt mg) (TM : MCl K mg CM fMI fdMI) {fP : Addr} {fdP : FuncData} (DLawParts : DefF K mg "_law_parts" sLawParts ["source", "world"] fP fdP) (GLawParts : FnOk P w K mg base CX0 3 fP fdP ["source", "world"] spLawParts)
    (GMoveInit : FnOk P w K mg base CX0 4 fMI fdMI ["self", "objects", "pools"] (spMoveInit CM)) : FnOk P w K mg base CX0 6 f fd ["source", "world"] (spLawMove CM) := by
  refine D.fn.ok sc_LawMove (fun vs H Q E h => ?_) (fun cdv A outer s H vs Q E hr h => ?_)
  · obtain ⟨sl, v, fp, W, n, z0, rfl, _⟩ := h; rfl
  · obtain ⟨sl, v, fp, W, n, z0, rfl, hW, nsl, hs, hn, hle, hoff, hg, h8, h62, k⟩ := h
    refine ⟨_, (pss_cons (ps_asg (pe_call GLawParts (hr.mono (by first | decide | omega)) rfl DLawParts.gl DLawParts.fn.kp DLawParts.bd .nil pass0 (pa_cons (pv 0) (pa_cons (pv 1) pa_nil))) (pg_tup rfl (pgs_cons (pg_name (i := 2) sc_LawMove.nd rfl (.inl rfl)) (pgs_cons (pg_name (i := 3) sc_LawMove.nd rfl (.inl rfl)) pgs_nil)))) (pss_one (ps_ret (pe_make TM.mkr GMoveInit (hr.mono (by first | decide | omega)) rfl TM.gl TM.b .nil pass0 (pa_cons (pv 2) (pa_cons (pv 3) pa_nil)))))), ?_⟩
    refine ⟨_, rfl, _, rfl, sl, v, fp, W, n, rfl, hW, nsl, hs, hn, hle, hoff, fun r H1 c1 s1 hp => ?_⟩
    obtain ⟨a, lo, d, kvs, ks, m, rfl, ha, hps, hd, hdc, nd, hk8, hkn, eth, ecan, hwt⟩ := hp
    refine ⟨a, _, rfl, SqT.of ha, rfl, _, _, rfl, _, _, rfl, rfl, ?_⟩
    refine ⟨_, rfl, _, rfl, fun x dx hx hdx ne => ?_⟩
    have hg2 : MGood z0 W.z m.orig := hg.congr fun p _ => by rw [← canon_orig, ecan]; exact mv_orig
    refine ⟨H1, x, dx, _, d, kvs, ks, m, z0, W.z, rfl, hx, hdx, ne, rfl, hps.sub (fun _ z => z.elim), hd, hdc.sub (fun _ z => z.elim), nd, hk8, hkn, hg2, by rw [eth]; exact mv_len.symm, h8, by unfold wt at hwt; omega, fun H2 s2 hm => ⟨rfl, ?_⟩⟩
    rw [ecan] at hm
    refine k _ _ (c1.trans (Same.ch s2)) (s1.same s2) (hm.sub fun b hb z => ?_)
    obtain ⟨_, _, _, e, _⟩ := s1
    exact hb (old_ch c1 (fun a m => by rw [List.mem_singleton.mp m]; exact ⟨_, e⟩) z)
end
end Wd
set_option Elab.async false
set_option linter.all false
set_option maxRecDepth 100000
set_option maxHeartbeats 4000000
/-! what stays of moves, the history of three stretches -/
namespace Wd
open PySem L2 Mv
theorem Ch.bt {L : List Addr} {F : Addr → Prop} {H H' : Hp} (c : Ch L H H') (h : ∀ a ∈ L, F a ∧ ∃ xs, H a = some (.lst xs)) : Bt F H H' := fun b o e k => c b o e fun m => by
  obtain ⟨f, xs, ex⟩ := h b m
  rw [ex] at e
  cases e
  exact k f xs rfl
theorem PsAt.grow {F G : Addr → Prop} {H : Hp} (s : ∀ a, G a → F a ∨ H a = none) {v : V} {ps : List Pl} (h : PsAt F H v ps) : PsAt G H v ps := by
  obtain ⟨l, xs, rfl, h1, h2, h3⟩ := h
  exact ⟨l, xs, rfl, fun z => (s l z).elim h1 fun e => (by rw [h2] at e; cases e), h2, h3⟩
theorem TlAt.grow {F G : Addr → Prop} {H : Hp} (s : ∀ a, G a → F a ∨ H a = none) {v : V} {t : List Pl × Nat} (h : TlAt F H v t) : TlAt G H v t := by
  obtain ⟨a, u, rfl, h1, h2⟩ := h
  exact ⟨a, u, rfl, h1, h2.grow s⟩
theorem MvAt.grow {CM : Addr} {F G : Addr → Prop} {H : Hp} (s : ∀ a, G a → F a ∨ H a = none) {v : V} {m : Mvd} (h : MvAt CM F H v m) : MvAt CM G H v m := by
  obtain ⟨a, dx, lt, d, xs, kvs, rfl, h1, h2, h3, h4, h5, h6⟩ := h
  exact ⟨a, dx, lt, d, xs, kvs, rfl, h1, fun z => (s lt z).elim h2 fun e => (by rw [h3] at e; cases e), h3, h4, h5, Paired.mono (fun _ _ q => ⟨q.1, q.2.grow s⟩) h6⟩
theorem mv_grow {CM : Addr} {F G : Addr → Prop} {H : Hp} (s : ∀ a, G a → F a ∨ H a = none) {vs : List V} {ms : List Mvd} (h : Paired (MvAt CM F H) vs ms) : Paired (MvAt CM G H) vs ms := Paired.mono (fun _ _ => MvAt.grow s) h
theorem mv_sub {CM : Addr} {F G : Addr → Prop} {H : Hp} (s : ∀ a, G a → F a) {vs : List V} {ms : List Mvd} (h : Paired (MvAt CM F H) vs ms) : Paired (MvAt CM G H) vs ms := Paired.mono (fun _ _ => MvAt.sub s) h
theorem mv_ch {CM : Addr} {L : List Addr} {F : Addr → Prop} {H H' : Hp} (c : Ch L H H') (hl : ∀ a ∈ L, F a ∧ ∃ xs, H a = some (.lst xs)) {vs : List V} {ms : List Mvd} (h : Paired (MvAt CM F H) vs ms) : Paired (MvAt CM F H') vs ms := Paired.mono (fun _ _ => MvAt.bt (c.bt hl)) h
/-- n stretches of a world, each played alone, too -/
def Hist (z : List Nat) : Nat → List Mvd → List Mvd → Wo → Prop
  | 0, As, Ts, W => As = [] ∧ Ts = [] ∧ W = wo0 z
  | n + 1, As, Ts, W => ∃ (As' Ts' : List Mvd) (W' : Wo) (sts : List Stp), Hist z n As' Ts' W' ∧ Sok W'.z sts ∧ sts.length ≤ 10 ∧ As = As' ++ [((wo0 W'.z).play sts).mv] ∧ Ts = Ts' ++ [(W'.play sts).mv] ∧ W = W'.play sts
theorem hist_len {z : List Nat} : ∀ {n : Nat} {As Ts : List Mvd} {W : Wo}, Hist z n As Ts W → As.length = n ∧ Ts.length = n
  | 0, _, _, _, h => by rw [h.1, h.2.1]; exact ⟨rfl, rfl⟩
  | n + 1, _, _, _, h => by
    obtain ⟨As', Ts', W', sts, h1, _, _, rfl, rfl, _⟩ := h
    have := hist_len h1
    rw [List.length_append, List.length_append, this.1, this.2]; exact ⟨rfl, rfl⟩
/-- a good world -/
structure Wgd (z0 : List Nat) (n : Nat) (W : Wo) : Prop where
  g : MGood z0 W.z W.f
  z3 : ∀ s ∈ W.z, In3 s
  off : W.off
  le : W.le n n n
  tot : W.tot ≤ n
theorem in3_8 {s : Nat} (h : In3 s) : 1 ≤ s ∧ s ≤ 8 := by unfold In3 at h; omega
theorem wgd0 {z : List Nat} {n : Nat} (h3 : ∀ s ∈ z, In3 s) (hn : z.length ≤ n) : Wgd z n (wo0 z) :=
  ⟨by rw [wo0_z]; exact wo0_good, by rw [wo0_z]; exact h3, fun _ _ => rfl, ⟨by rw [← wo_len, wo0_z]; exact hn, fun s => ⟨Nat.zero_le _, Nat.zero_le _⟩⟩, by rw [wo0_tot]; exact hn⟩
theorem wgd_play {z0 : List Nat} {n : Nat} {W : Wo} {sts : List Stp} (h : Wgd z0 n W) (ok : Sok W.z sts) (hl : sts.length ≤ 10) : Wgd z0 (n + 10) (W.play sts) :=
  ⟨play_good h.g ok, by rw [play_z ok]; exact zpl_3 h.z3 ok, play_off h.z3 h.off ok, le_mono (play_le h.le) (by omega) (by omega) (by omega), Nat.le_trans play_tot (by have := h.tot; omega)⟩
theorem hist_good {z : List Nat} {k : Nat} (h3 : ∀ s ∈ z, In3 s) (hk : z.length ≤ k) : ∀ {n : Nat} {As Ts : List Mvd} {W : Wo}, Hist z n As Ts W → Wgd z (k + 10 * n) W
  | 0, _, _, _, h => by rw [h.2.2]; exact wgd0 h3 hk
  | n + 1, _, _, _, h => by
    obtain ⟨As', Ts', W', sts, h1, h2, h4, _, _, rfl⟩ := h
    exact wgd_play (hist_good h3 hk h1) h2 h4
theorem wgd_z {z0 : List Nat} {n : Nat} {W : Wo} (h : Wgd z0 n W) : W.z.length ≤ n := by rw [wo_len]; exact h.le.1
theorem wgd_mok {z0 : List Nat} {n : Nat} {W : Wo} (h : Wgd z0 n W) : Mok z0 W.z W.mv :=
  ⟨h.g.congr fun p _ => mv_orig, mv_len.symm, fun s hs => in3_8 (h.z3 s hs), fun s hs => by
    by_cases q : In3 s
    · exact q
    · refine absurd ?_ hs
      show short s (W.pl s).1 (W.pl s).2 = _
      rw [h.off s q]; rfl⟩
theorem wgd_wt {z0 : List Nat} {n : Nat} {W : Wo} (h : Wgd z0 n W) : wt W.mv ≤ n := Nat.le_trans mv_wt h.tot
/-- what three stretches tell -/
theorem three {z : List Nat} (h3 : ∀ s ∈ z, In3 s) (h5 : z.length ≤ 5) {As Ts : List Mvd} {W : Wo} (h : Hist z 3 As Ts W) :
    ∃ (a1 a2 a3 t2 t3 b : Mvd) (z1 z2 z3 : List Nat), As = [a1, a2, a3] ∧ Ts = [a1, t2, t3] ∧ Mok z z1 a1 ∧ Mok z1 z2 a2 ∧ Mok z2 z3 a3 ∧ Mok z z2 t2 ∧ Mok z1 z3 b ∧ thenM a1 a2 = t2 ∧ thenM t2 a3 = t3 ∧ thenM a2 a3 = b ∧ thenM a1 b = t3 ∧
      wt a1 ≤ 15 ∧ wt a2 ≤ 25 ∧ wt a3 ≤ 35 ∧ wt t2 ≤ 25 ∧ wt b ≤ 35 ∧ thenM a1 (idM z1.length) = a1 ∧ thenM (idM z.length) a1 = a1 ∧ (∀ s ∈ z1, In3 s) ∧ z1.length ≤ 15 := by
  obtain ⟨As2, Ts2, W2, s3, ⟨As1, Ts1, W1, s2, ⟨As0, Ts0, W0, s1, ⟨rfl, rfl, rfl⟩, o1, l1, rfl, rfl, rfl⟩, o2, l2, rfl, rfl, rfl⟩, o3, l3, rfl, rfl, rfl⟩ := h
  have g0 : Wgd z 5 (wo0 z) := wgd0 h3 h5
  have g1 := wgd_play g0 o1 l1
  have g2 := wgd_play g1 o2 l2
  have g3 := wgd_play g2 o3 l3
  have e1 : (wo0 (wo0 z).z) = wo0 z := by rw [wo0_z]
  have z1 := wgd_z g1
  have z2 := wgd_z g2
  have A2 : Wgd ((wo0 z).play s1).z 15 (wo0 ((wo0 z).play s1).z) := wgd0 g1.z3 z1
  have o2' : Sok (wo0 ((wo0 z).play s1).z).z s2 := by rw [wo0_z]; exact o2
  have g2a := wgd_play A2 o2' l2
  have A3 : Wgd (((wo0 z).play s1).play s2).z 25 (wo0 (((wo0 z).play s1).play s2).z) := wgd0 g2.z3 z2
  have o3' : Sok (wo0 (((wo0 z).play s1).play s2).z).z s3 := by rw [wo0_z]; exact o3
  have g3a := wgd_play A3 o3' l3
  have ez2 : ((wo0 ((wo0 z).play s1).z).play s2).z = (((wo0 z).play s1).play s2).z := by rw [play_z o2', wo0_z, play_z o2]
  have ez3 : ((wo0 (((wo0 z).play s1).play s2).z).play s3).z = ((((wo0 z).play s1).play s2).play s3).z := by rw [play_z o3', wo0_z, play_z o3]
  have o3b : Sok ((wo0 ((wo0 z).play s1).z).play s2).z s3 := by rw [ez2]; exact o3
  have gb := wgd_play g2a o3b l3
  have ezb : (((wo0 ((wo0 z).play s1).z).play s2).play s3).z = ((((wo0 z).play s1).play s2).play s3).z := by rw [play_z o3b, ez2, play_z o3]
  have split : ∀ (W : Wo) (a b : List Stp), (W.play a).play b = W.play (a ++ b) := fun W a b => (List.foldl_append).symm
  have sapp : ∀ (a b : List Stp) (z : List Nat), Sok z a → Sok (zpl z a) b → Sok z (a ++ b) := by
    intro a
    induction a with
    | nil => exact fun b z _ h => h
    | cons st a ih => exact fun b z h g => ⟨h.1, ih b _ h.2 g⟩
  refine ⟨((wo0 z).play s1).mv, ((wo0 ((wo0 z).play s1).z).play s2).mv, ((wo0 (((wo0 z).play s1).play s2).z).play s3).mv, (((wo0 z).play s1).play s2).mv, ((((wo0 z).play s1).play s2).play s3).mv, (((wo0 ((wo0 z).play s1).z).play s2).play s3).mv,
    ((wo0 z).play s1).z, (((wo0 z).play s1).play s2).z, ((((wo0 z).play s1).play s2).play s3).z, by rw [e1]; rfl, rfl, wgd_mok g1, ?_, ?_, wgd_mok g2, ?_, then_play o2, then_play o3, ?_, ?_, wgd_wt g1, wgd_wt g2a, wgd_wt g3a, wgd_wt g2, wgd_wt gb, ?_, ?_, g1.z3, z1⟩
  · exact ez2 ▸ wgd_mok g2a
  · exact ez3 ▸ wgd_mok g3a
  · exact ezb ▸ wgd_mok gb
  · have := then_play (W := (wo0 ((wo0 z).play s1).z).play s2) o3b
    rw [ez2] at this
    exact this
  · have := then_play (W := (wo0 z).play s1) (sts := s2 ++ s3) (sapp _ _ _ o2 (by rw [← play_z o2]; exact o3))
    rw [← split, ← split] at this
    exact this
  · have := then_id_right (W := (wo0 z).play s1)
    rw [mv0] at this
    exact this
  · have := then_id_left g1.g
    rw [mv0] at this
    exact this
/-! ### the two moves that are no later ones -/
theorem MGood.less {z0 z1 : List Nat} {f : Pl → Pl} (g : MGood z0 z1 f) : MGood z0 [] f := by
  have up : ∀ p, Dm ([] : List Nat).length p → Dm z1.length p := fun p h i e => absurd (h i e) (Nat.not_lt_zero _)
  refine ⟨fun p q a b => g.inj p q (up p a) (up q b), fun p a => g.to p (up p a), fun p a => ?_⟩
  have := g.sz p (up p a)
  cases p with
  | obj i => exact absurd (dm_obj.mp a) (Nat.not_lt_zero _)
  | pool s c => exact this
def farA (k : Nat) : Mvd := ⟨[.obj k], fun _ => ([], 0)⟩
theorem farA_good (k : Nat) : MGood (List.replicate (k + 1) 1) [1] (farA k).orig := by
  have dm1 : ∀ p, Dm ([1] : List Nat).length p → p = .obj 0 ∨ ∃ s c, p = .pool s c := fun p h => by
    cases p with
    | obj i => have : i < 1 := dm_obj.mp h; have : i = 0 := by omega
               subst this; exact .inl rfl
    | pool s c => exact .inr ⟨s, c, rfl⟩
  have e0 : (farA k).orig (.obj 0) = .obj k := rfl
  have e1 : ∀ s c, (farA k).orig (.pool s c) = .pool s c := fun s c => by rw [orig_pool]; show rowOf s ([], 0) c = _; rw [rowOf_nil, Nat.zero_add]
  refine ⟨fun p q a b e => ?_, fun p a => ?_, fun p a => ?_⟩
  · rcases dm1 p a with rfl | ⟨s, c, rfl⟩ <;> rcases dm1 q b with rfl | ⟨t, d, rfl⟩
    · rfl
    · rw [e0, e1] at e; cases e
    · rw [e0, e1] at e; cases e
    · rw [e1, e1] at e; exact e
  · rcases dm1 p a with rfl | ⟨s, c, rfl⟩
    · rw [e0]; refine dm_obj.mpr ?_; rw [List.length_replicate]; exact Nat.lt_succ_self k
    · rw [e1]; exact dm_pool
  · rcases dm1 p a with rfl | ⟨s, c, rfl⟩
    · rw [e0]
      show (List.replicate (k + 1) 1).getD k 0 = 1
      rw [List.getD_eq_getElem?_getD, List.getElem?_replicate, if_pos (Nat.lt_succ_self k)]; rfl
    · rw [e1]; rfl
def farB (k : Nat) : Mvd := ⟨[], fun s => if s = 3 then ([.obj k], 0) else ([], 0)⟩
theorem farB_good (k : Nat) : MGood (List.replicate k 1 ++ [3]) [] (farB k).orig := by
  have hz : (List.replicate k 1 ++ [3]).length = k + 1 := by rw [List.length_append, List.length_replicate]; rfl
  have h3 : (List.replicate k 1 ++ [3]).getD k 0 = 3 := by
    rw [List.getD_eq_getElem?_getD, List.getElem?_append_right (by rw [List.length_replicate]; exact Nat.le_refl _), List.length_replicate, Nat.sub_self]; rfl
  refine (tau_good (z := List.replicate k 1 ++ [3]) (st := .free k) (by show k < _; rw [hz]; exact Nat.lt_succ_self k)).less.congr fun p hp => ?_
  cases p with
  | obj i => exact absurd (dm_obj.mp hp) (Nat.not_lt_zero _)
  | pool s c =>
    rw [orig_pool]
    show rowOf s (if s = 3 then ([.obj k], 0) else ([], 0)) c = if s = (List.replicate k 1 ++ [3]).getD k 0 then (if c = 0 then .obj k else .pool s (c - 1)) else .pool s c
    rw [h3]
    by_cases e : s = 3
    · rw [if_pos e, if_pos e, push_row]
      by_cases c0 : c = 0
      · rw [if_pos c0, if_pos c0]
      · rw [if_neg c0, if_neg c0, rowOf_nil, Nat.zero_add]
    · rw [if_neg e, if_neg e, rowOf_nil, Nat.zero_add]
theorem farB_canon (k : Nat) : (farB k).canon = farB k := by
  unfold Mvd.canon farB
  congr 1
  funext s
  show short s (if s = 3 then (([.obj k], 0) : List Pl × Nat) else ([], 0)).1 (if s = 3 then (([.obj k], 0) : List Pl × Nat) else ([], 0)).2 = if s = 3 then ([.obj k], 0) else ([], 0)
  by_cases e : s = 3
  · rw [if_pos e]; rfl
  · rw [if_neg e]; rfl
theorem farB_known (k : Nat) : Pl.obj k ∈ known (farB k) (touched (farB k).tail) := by
  refine List.mem_append_right _ (List.mem_flatMap.mpr ⟨3, List.mem_filter.mpr ⟨List.mem_range.mpr (by decide), decide_eq_true ?_⟩, List.mem_singleton.mpr rfl⟩)
  show (if (3 : Nat) = 3 then (([.obj k], 0) : List Pl × Nat) else ([], 0)) ≠ ([], 0)
  rw [if_pos rfl]
  exact fun z => List.cons_ne_nil _ _ (Prod.ext_iff.mp z).1
theorem farB_wt (k : Nat) : wt (farB k) = 1 := by unfold wt; rw [flat9]; rfl
theorem farA_wt (k : Nat) : wt (farA k) = 1 := by unfold wt; rw [flat9]; rfl
end Wd
set_option Elab.async false
set_option linter.all false
set_option maxRecDepth 100000
set_option maxHeartbeats 4000000
/-! the law's own part: three stretches -/
namespace Wd
open PySem L2 Mv
/-- an operator of the class at C -/
structure DefOp (K : PySem.W.Frag) (C : Addr) (x qual : Str) (st : Stmt) (ps : List Str) (f : Addr) (fd : FuncData) : Prop where
  fn : Fun K x qual st f fd
  bd : Binds K fd ps []
  ow : OwnM K C x f
theorem mth {CM : Addr} {F : Addr → Prop} {H : Hp} {x : V} {m : Mvd} (h : MvAt CM F H x m) {nm : Str} (hn : ∀ lt td : Addr, (mf lt td).lookup nm = none) {R : Prop} (r : R) : ∃ a dx fs, x = .ref a ∧ H a = some (.ins CM dx fs) ∧ fs.lookup nm = none ∧ R := by
  obtain ⟨a, dx, lt, d, xs, kvs, rfl, h1, _⟩ := h
  exact ⟨a, dx, _, rfl, h1, hn lt d, r⟩
theorem MvAt.no {CM : Addr} {F : Addr → Prop} {H : Hp} {x : V} {m : Mvd} (h : MvAt CM F H x m) : MvAt CM NoF H x m := h.sub fun _ z => z.elim
theorem ne_mv {CM : Addr} {F G : Addr → Prop} {H : Hp} {x y : V} {m : Mvd} {Q : VK} (hx : MvAt CM F H x m) (hy : MvAt CM G H y m) (q : ∀ H', Same H H' → Q (.bl false) H') : rOwnB CM (spMoveEq CM) E0 x y H (fun v H' => ∃ c, v = V.bl c ∧ Q (.bl (!c)) H') := by
  obtain ⟨a, dx, lt, d, xs, kvs, rfl, h1, _⟩ := id hx
  obtain ⟨b, dy, lu, e, ys, ls, rfl, g1, _⟩ := id hy
  exact ⟨a, b, dx, dy, _, _, rfl, rfl, h1, g1, _, _, m, F, G, rfl, hx, hy, fun H' s' => ⟨true, rfl, true, rfl, q H' s'⟩⟩
theorem eq_mv {CM : Addr} {F G : Addr → Prop} {H : Hp} {x y : V} {m : Mvd} {Q : VK} (hx : MvAt CM F H x m) (hy : MvAt CM G H y m) (q : ∀ H', Same H H' → Q (.bl true) H') : rOwnB CM (spMoveEq CM) E0 x y H Q := by
  obtain ⟨a, dx, lt, d, xs, kvs, rfl, h1, _⟩ := id hx
  obtain ⟨b, dy, lu, e, ys, ls, rfl, g1, _⟩ := id hy
  exact ⟨a, b, dx, dy, _, _, rfl, rfl, h1, g1, _, _, m, F, G, rfl, hx, hy, fun H' s' => ⟨true, rfl, q H' s'⟩⟩
theorem mf_then {lt td : Addr} : (mf lt td).lookup ("then" : Str) = none := by kernel_rfl
theorem mf_objects {lt td : Addr} : (mf lt td).lookup ("objects" : Str) = none := by kernel_rfl
section
variable {P : Program} {w : World} {K : PySem.W.Frag} {mg : Str → Option Value} {base : Heap} {f C CM fMI : Addr} {fd fdMI : FuncData} {H : Hp}
def spLawRight : Sp := fun vs H Q _ => ∃ (sl : Addr) (n : Nat), vs = [.ref sl] ∧ n ≤ 1000 ∧ SrcAt sl n H ∧ ∀ H', Ch [sl] H H' → SrcAt sl (n + 200) H' → Q (.bl true) H'
theorem sc_LawRight : FnScope ["source", "sizes", "whole", "parts", "told_moves", "turn", "steps", "alone", "place", "size", "one", "two", "three", "many", "later", "odd"] ["source"] (defScope sLawRight) := ⟨rfl, rfl, rfl, by decide +kernel, rfl, by decide +kernel, by decide +kernel⟩
theorem ok_LawRight (D : DefF K mg "_law_right" sLawRight ["source"] f fd) (B : Blt mg) (TM : MCl K mg CM fMI fdMI)
    {f1 f2 f3 f4 f5 f6 f7 f8 f9 f10 f11 f12 : Addr} {d1 d2 d3 d4 d5 d6 d7 d8 d9 d10 d11 d12 : FuncData} (DLawDraw : DefF K mg "_law_draw" sLawDraw ["source", "bound"] f1 d1) (GLawDraw : FnOk P w K mg base CX0 1 f1 d1 ["source", "bound"] spLawDraw)
    (DLawPick : DefF K mg "_law_pick" sLawPick ["source", "items"] f2 d2) (GLawPick : FnOk P w K mg base CX0 2 f2 d2 ["source", "items"] (spLawPick K))
    (DLawSizes : DefF K mg "_law_sizes" sLawSizes ["source", "most"] f3 d3) (GLawSizes : FnOk P w K mg base CX0 3 f3 d3 ["source", "most"] spLawSizes)
    (DLawSteps : DefF K mg "_law_steps" sLawSteps ["source", "count", "most"] f4 d4) (GLawSteps : FnOk P w K mg base CX0 3 f4 d4 ["source", "count", "most"] spLawSteps)
    (DLawPlaces : DefF K mg "_law_places" sLawPlaces ["sizes"] f5 d5) (GLawPlaces : FnOk P w K mg base CX0 1 f5 d5 ["sizes"] spLawPlaces)
    (DLawPlayed : DefF K mg "_law_played" sLawPlayed ["world", "steps"] f6 d6) (GLawPlayed : FnOk P w K mg base CX0 1 f6 d6 ["world", "steps"] (spLawPlayed K))
    (DLawMove : DefF K mg "_law_move" sLawMove ["source", "world"] f7 d7) (GLawMove : FnOk P w K mg base CX0 6 f7 d7 ["source", "world"] (spLawMove CM))
    (DThen : DefM K CM "then" "Move.then" sMoveThen ["self", "later"] f8 d8) (GThen : FnOk P w K mg base CX0 6 f8 d8 ["self", "later"] (spThen CM))
    (DIdentity : DefF K mg "identity" sIdentity ["count"] f9 d9) (GIdentity : FnOk P w K mg base CX0 6 f9 d9 ["count"] (spIdentity CM))
    (DObjects : DefM K CM "objects" "Move.objects" sMoveObjects ["self"] f10 d10) (GObjects : FnOk P w K mg base CX0 1 f10 d10 ["self"] (spObjects CM))
    (DLawIsRefused : DefF K mg "_law_is_refused" sLawIsRefused ["one", "later"] f11 d11) (GLawIsRefused : FnOk P w K mg base CX0 4 f11 d11 ["one", "later"] (spIsRefused K CM))
    (OEq : DefOp K CM "__eq__" "Move.__eq__" sMoveEq ["self", "other"] f12 d12) (GEq : FnOk P w K mg base CX0 1 f12 d12 ["self", "other"] (spMoveEq CM))
    (GMoveInit : FnOk P w K mg base CX0 4 fMI fdMI ["self", "objects", "pools"] (spMoveInit CM)) : FnOk P w K mg base CX0 8 f fd ["source"] spLawRight := by
  refine D.fn.ok sc_LawRight (fun vs H Q E h => ?_) (fun cdv A outer s H vs Q E hr h => ?_)
  · obtain ⟨sl, n, rfl, _⟩ := h; rfl
  · obtain ⟨sl, n, rfl, hn, hs, k⟩ := h
    refine ⟨_, (pss_cons (ps_set (i := 1) sc_LawRight.nd rfl (.inl rfl) (pe_call GLawSizes (hr.mono (by first | decide | omega)) rfl DLawSizes.gl DLawSizes.fn.kp DLawSizes.bd .nil pass0 (pa_cons (pv 0) (pa_cons pe_int pa_nil)))) (pss_cons (ps_par3 (i := 2) (j := 3) (l := 4) rfl sc_LawRight.nd rfl rfl rfl (by decide) (by decide) (by decide) rfl rfl rfl (pa_cons (pe_call GLawPlaces (hr.mono (by first | decide | omega)) rfl DLawPlaces.gl DLawPlaces.fn.kp DLawPlaces.bd .nil pass0 (pa_cons (pv 1) pa_nil)) (pa_cons (pe_lst pa_nil) (pa_cons (pe_lst pa_nil) pa_nil))) (by rfl)) (pss_cons (ps_for PassesOwn.never rfl (pi_range1 rfl B.range (pa_cons pe_int pa_nil)) (pg_name (i := 5) sc_LawRight.nd rfl (.inl rfl)) (pss_cons (ps_set (i := 6) sc_LawRight.nd rfl (.inl rfl) (pe_call GLawSteps (hr.mono (by first | decide | omega)) rfl DLawSteps.gl DLawSteps.fn.kp DLawSteps.bd .nil pass0 (pa_cons (pv 0) (pa_cons (pe_callB call_len_seq (by rfl) B.len PySem.boot_len (pa_cons (pe_dget (hu_of hr) (pv 2) pe_str (fun _ _ => rfl)) pa_nil)) (pa_cons pe_int pa_nil))))) (pss_cons (ps_set (i := 7) sc_LawRight.nd rfl (.inl rfl) (pe_call GLawPlaces (hr.mono (by first | decide | omega)) rfl DLawPlaces.gl DLawPlaces.fn.kp DLawPlaces.bd .nil pass0 (pa_cons (pe_lc (own := [("place", 8), ("size", 9)]) (tt := tYes) (g := (gTup K 2 (gCons (gName 8) (gCons (gName 9) gNil)))) rfl sc_LawRight.nd (pi_list (pe_dget (hu_of hr) (pv 2) pe_str (fun _ _ => rfl))) (blkOk_by (N := ["source", "sizes", "whole", "parts", "told_moves", "turn", "steps", "alone", "place", "size", "one", "two", "three", "many", "later", "odd"]) (sc := defScope sLawRight) (by decide +kernel)) (fun _ _ _ _ _ => (pg_tup rfl (pgs_cons (pg_name (i := 8) sc_LawRight.nd rfl (.inl rfl) (.inr rfl)) (pgs_cons (pg_name (i := 9) sc_LawRight.nd rfl (.inl rfl) (.inr rfl)) pgs_nil)))) (fun _ _ _ _ _ => pts_nil) (fun _ _ _ _ _ => (pv 9))) pa_nil))) (pss_cons (ps_expr (pe_call GLawPlayed (hr.mono (by first | decide | omega)) rfl DLawPlayed.gl DLawPlayed.fn.kp DLawPlayed.bd .nil pass0 (pa_cons (pv 2) (pa_cons (pv 6) pa_nil)))) (pss_cons (ps_expr (pe_call GLawPlayed (hr.mono (by first | decide | omega)) rfl DLawPlayed.gl DLawPlayed.fn.kp DLawPlayed.bd .nil pass0 (pa_cons (pv 7) (pa_cons (pv 6) pa_nil)))) (pss_cons (ps_expr (pe_bm F.plainAttrs_list F.slot_list_append F.type_list_append mt_append (pv 3) (pa_cons (pe_call GLawMove (hr.mono (by first | decide | omega)) rfl DLawMove.gl DLawMove.fn.kp DLawMove.bd .nil pass0 (pa_cons (pv 0) (pa_cons (pv 7) pa_nil))) pa_nil))) (pss_one (ps_expr (pe_bm F.plainAttrs_list F.slot_list_append F.type_list_append mt_append (pv 4) (pa_cons (pe_call GLawMove (hr.mono (by first | decide | omega)) rfl DLawMove.gl DLawMove.fn.kp DLawMove.bd .nil pass0 (pa_cons (pv 0) (pa_cons (pv 2) pa_nil))) pa_nil)))))))))) (pss_cons (ps_asg (pv 3) (pg_lst rfl (pgs_cons (pg_name (i := 10) sc_LawRight.nd rfl (.inl rfl)) (pgs_cons (pg_name (i := 11) sc_LawRight.nd rfl (.inl rfl)) (pgs_cons (pg_name (i := 12) sc_LawRight.nd rfl (.inl rfl)) pgs_nil))))) (pss_cons (ps_if (PW.pt (pw_or (pt_cmpR (op_neOwn GEq (hr.mono (by first | decide | omega)) OEq.bd pass0 OEq.ow TM.ne TM.hm) (pe_meth (pv 10) TM.cl DThen.mt GThen (hr.mono (by first | decide | omega)) DThen.bd .nil pass0 (pa_cons (pv 11) pa_nil)) (pe_ix ix_list (pv 4) pe_int (fun _ _ => rfl)) (nomark _)) (pw_or1 (pt_cmpR (op_neOwn GEq (hr.mono (by first | decide | omega)) OEq.bd pass0 OEq.ow TM.ne TM.hm) (pe_meth (pe_meth (pv 10) TM.cl DThen.mt GThen (hr.mono (by first | decide | omega)) DThen.bd .nil pass0 (pa_cons (pv 11) pa_nil)) TM.cl DThen.mt GThen (hr.mono (by first | decide | omega)) DThen.bd .nil pass0 (pa_cons (pv 12) pa_nil)) (pe_ix ix_list (pv 4) pe_int (fun _ _ => rfl)) (nomark _))))) (pss_one (ps_ret pe_bl)) pss_nil) (pss_cons (ps_if (pt_cmpR (op_neOwn GEq (hr.mono (by first | decide | omega)) OEq.bd pass0 OEq.ow TM.ne TM.hm) (pe_meth (pv 10) TM.cl DThen.mt GThen (hr.mono (by first | decide | omega)) DThen.bd .nil pass0 (pa_cons (pe_meth (pv 11) TM.cl DThen.mt GThen (hr.mono (by first | decide | omega)) DThen.bd .nil pass0 (pa_cons (pv 12) pa_nil)) pa_nil)) (pe_ix ix_list (pv 4) pe_int (fun _ _ => rfl)) (nomark _)) (pss_one (ps_ret pe_bl)) pss_nil) (pss_cons (ps_if (PW.pt (pw_or (pt_cmpR (op_neOwn GEq (hr.mono (by first | decide | omega)) OEq.bd pass0 OEq.ow TM.ne TM.hm) (pe_meth (pv 10) TM.cl DThen.mt GThen (hr.mono (by first | decide | omega)) DThen.bd .nil pass0 (pa_cons (pe_call GIdentity (hr.mono (by first | decide | omega)) rfl DIdentity.gl DIdentity.fn.kp DIdentity.bd .nil pass0 (pa_cons (pe_callB call_len_seq (by rfl) B.len PySem.boot_len (pa_cons (pe_meth0 (pv 10) TM.cl DObjects.mt GObjects (hr.mono (by first | decide | omega)) DObjects.bd .nil pass0) pa_nil)) pa_nil)) pa_nil)) (pv 10) (nomark _)) (pw_or1 (pt_cmpR (op_neOwn GEq (hr.mono (by first | decide | omega)) OEq.bd pass0 OEq.ow TM.ne TM.hm) (pe_meth (pe_call GIdentity (hr.mono (by first | decide | omega)) rfl DIdentity.gl DIdentity.fn.kp DIdentity.bd .nil pass0 (pa_cons (pe_callB call_len_seq (by rfl) B.len PySem.boot_len (pa_cons (pv 1) pa_nil)) pa_nil)) TM.cl DThen.mt GThen (hr.mono (by first | decide | omega)) DThen.bd .nil pass0 (pa_cons (pv 10) pa_nil)) (pv 10) (nomark _))))) (pss_one (ps_ret pe_bl)) pss_nil) (pss_cons (ps_set (i := 13) sc_LawRight.nd rfl (.inl rfl) (pe_callB call_len_seq (by rfl) B.len PySem.boot_len (pa_cons (pe_meth0 (pv 10) TM.cl DObjects.mt GObjects (hr.mono (by first | decide | omega)) DObjects.bd .nil pass0) pa_nil))) (pss_cons (ps_set (i := 14) sc_LawRight.nd rfl (.inl rfl) (pe_make TM.mkr GMoveInit (hr.mono (by first | decide | omega)) rfl TM.gl TM.b .nil pass0 (pa_cons (pe_lst (pa_cons (pe_tup (pa_cons pe_str (pa_cons (pe_op op_add (pv 13) (pe_call GLawDraw (hr.mono (by first | decide | omega)) rfl DLawDraw.gl DLawDraw.fn.kp DLawDraw.bd .nil pass0 (pa_cons (pv 0) (pa_cons pe_int pa_nil)))) pa_nil))) pa_nil)) (pa_cons pe_dnewK pa_nil)))) (pss_cons (ps_if (PW.pt (pw_or (pt_not (pt_val (pe_call GLawIsRefused (hr.mono (by first | decide | omega)) rfl DLawIsRefused.gl DLawIsRefused.fn.kp DLawIsRefused.bd .nil pass0 (pa_cons (pv 10) (pa_cons (pv 14) pa_nil))))) (pw_or1 (pt_not (pt_val (pe_call GLawIsRefused (hr.mono (by first | decide | omega)) rfl DLawIsRefused.gl DLawIsRefused.fn.kp DLawIsRefused.bd .nil pass0 (pa_cons (pv 10) (pa_cons (pe_make TM.mkr GMoveInit (hr.mono (by first | decide | omega)) rfl TM.gl TM.b .nil pass0 (pa_cons (pe_lst pa_nil) (pa_cons (pe_disp (pps_cons pe_int (pe_tup (pa_cons (pe_lst (pa_cons (pe_tup (pa_cons pe_str (pa_cons (pv 13) pa_nil))) pa_nil)) (pa_cons pe_int pa_nil))) pps_nil) rfl rfl (List.cons_ne_nil _ _) (by decide)) pa_nil))) pa_nil)))))))) (pss_one (ps_ret pe_bl)) pss_nil) (pss_cons (ps_set (i := 15) sc_LawRight.nd rfl (.inl rfl) (pe_call GLawPick (hr.mono (by first | decide | omega)) rfl DLawPick.gl DLawPick.fn.kp DLawPick.bd .nil pass0 (pa_cons (pv 0) (pa_cons (pe_lst (pa_cons pe_non (pa_cons pe_int (pa_cons (pe_tup (pa_cons (pv 10) (pa_cons (pv 11) pa_nil))) (pa_cons (pe_lst pa_nil) (pa_cons pe_dnewK (pa_cons (pe_tup (pa_cons (pe_lst pa_nil) (pa_cons pe_dnewK pa_nil))) pa_nil))))))) pa_nil)))) (pss_one (ps_ret (pe_and (pe_call GLawIsRefused (hr.mono (by first | decide | omega)) rfl DLawIsRefused.gl DLawIsRefused.fn.kp DLawIsRefused.bd .nil pass0 (pa_cons (pv 10) (pa_cons (pv 15) pa_nil))) (pe_one (pe_cmpR (op_eqOwn GEq (hr.mono (by first | decide | omega)) OEq.bd pass0 OEq.ow) (pe_ix ix_list (pv 3) pe_int (fun _ _ => rfl)) (pe_ix ix_list (pv 4) pe_int (fun _ _ => rfl)) (nomark _))))))))))))))))), ?_⟩
    refine ⟨_, rfl, sl, n, 5, rfl, by decide, by omega, hs, fun ls z H1 hz h3 c1 fl1 hl1 s1 => ?_⟩
    refine ⟨_, rfl, ls, z, rfl, hl1, by omega, fun fp v H2 t2 ff hW => ⟨Nat.zero_le _, fun pa hpa => ⟨Nat.zero_le _, fun ta hta => ⟨_, _, _, rfl, ?_⟩⟩⟩⟩
    have t3 := Same.new (o := .lst []) hpa
    have t4 := Same.new (o := .lst []) hta
    have hpa4 := t4 _ _ (show upd H2 pa (.lst []) pa = some (.lst []) from upd_same)
    have hta4 : upd (upd H2 pa (.lst [])) ta (.lst []) ta = some (.lst []) := upd_same
    have t14 := (t2.trans t3).trans t4
    have hW4 := hW.same (t3.trans t4)
    have hl4 := t14 _ _ hl1
    have s4 := s1.same t14
    have c4 : Ch [sl] H (upd (upd H2 pa (.lst [])) ta (.lst [])) := c1.trans (Same.ch t14)
    have npa : ∀ a ∈ fp, a ≠ pa := fun a m z => by obtain ⟨xs, e⟩ := hW.fpl a m; rw [z, hpa] at e; cases e
    have nta : ∀ a ∈ fp, a ≠ ta := fun a m z => by obtain ⟨xs, e⟩ := (hW.same t3).fpl a m; rw [z, hta] at e; cases e
    have npt : pa ≠ ta := ne_of_none (show upd H2 pa (.lst []) pa = some (.lst []) from upd_same) hta
    have nps : pa ≠ sl := (s1.same t2).ne hpa
    have nts : ta ≠ sl := (s1.same (t2.trans t3)).ne hta
    have nlp : ls ≠ pa := ne_of_none (t2 _ _ hl1) hpa
    have nlt : ls ≠ ta := ne_of_none ((t2.trans t3) _ _ hl1) hta
    have nls : ls ≠ sl := fun z => by obtain ⟨_, _, _, e, _⟩ := hs; rw [z, e] at fl1; cases fl1
    have nsf : sl ∉ fp := fun m => by obtain ⟨_, _, _, e, _⟩ := s1; rw [ff sl m] at e; cases e
    have nlf : ls ∉ fp := fun m => by rw [ff ls m] at hl1; cases hl1
    have opa : H pa = none := fresh_ch (m := 0) c1 s1 (fresh_of t2 hpa)
    have ota : H ta = none := fresh_ch (m := 0) c1 s1 (fresh_of (t2.trans t3) hta)
    have ofp : ∀ a ∈ fp, H a = none := fun a m => fresh_ch (m := 0) c1 s1 (ff a m)
    generalize upd (upd H2 pa (.lst [])) ta (.lst []) = H4 at hpa4 hta4 hW4 hl4 s4 c4 ⊢
    clear t2 t3 t4 t14 hpa hta hW ff fl1 hl1 s1 c1
    refine ⟨3, rfl, by decide, by decide, for_range (lo := 0) (n := 3) (fun i σ H' => ∃ (p5 p6 p7 : Option V) (pvs tvs : List V) (As Ts : List Mvd) (W : Wo), σ = [some (.ref sl), some (.ref ls), some v, some (.ref pa), some (.ref ta), p5, p6, p7, none, none, none, none, none, none, none, none] ∧ Hist z i As Ts W ∧ Ch [sl] H H' ∧ SrcAt sl (n + 6 + 39 * i) H' ∧ H' ls = some (.lst (z.map fun s => V.int (s : Nat))) ∧ WoAt fp H' v W ∧ H' pa = some (.lst pvs) ∧ H' ta = some (.lst tvs) ∧
        Paired (MvAt CM (fun a => a ∈ fp ∨ a = sl ∨ a = pa ∨ a = ta) H') pvs As ∧ Paired (MvAt CM (fun a => a ∈ fp ∨ a = sl ∨ a = pa ∨ a = ta) H') tvs Ts)
      ⟨none, none, none, [], [], [], [], wo0 z, rfl, ⟨rfl, rfl, rfl⟩, c4, s4, hl4, hW4, hpa4, hta4, .nil, .nil⟩ ?_ ?_⟩
    · rintro i σ H5 hi ⟨p5, p6, p7, pvs, tvs, As, Ts, W, rfl, hh, c5, s5, hl5, hW5, hpa5, hta5, mp5, mt5⟩
      have g5 := hist_good h3 hz hh
      have gW : Wgd z 35 W := ⟨g5.g, g5.z3, g5.off, le_mono g5.le (by omega) (by omega) (by omega), Nat.le_trans g5.tot (by omega)⟩
      have g25 : W.objs.length ≤ 25 ∧ W.tot ≤ 25 ∧ W.le 25 25 25 := ⟨Nat.le_trans g5.le.1 (by omega), Nat.le_trans g5.tot (by omega), le_mono g5.le (by omega) (by omega) (by omega)⟩
      obtain ⟨wd, dq, lo, lps, os, ev, ef, h8, wnd, hw, hd, ho, po, hp⟩ := id hW5
      have gO : DGet H5 wd (.str "objects") (some (.ref lo)) := by rw [← wkv_objects (lo := lo) (dp := dq)]; exact DGet.k (k := Sum.inr "objects") hw
      have los : os.length = W.z.length := by rw [Paired.len po, wo_len]
      have ndsf : ∀ a ∈ [sl], a ∉ fp := fun a m => by rw [List.mem_singleton.mp m]; exact nsf
      refine ⟨_, rfl, _, rfl, wd, .ref lo, ev, gO, lo, _, rfl, .inl (SqL.of ho), sl, n + 6 + 39 * i, 10, W.z, by rw [los]; rfl, by decide, by rw [wo_len]; omega, by omega, s5, fun st xs sts H6 hsl ok c6 ost hst pst s6 => ?_⟩
      have nst6 : ∀ o, H5 st = some o → False := fun o e => by rw [ost] at e; cases e
      have nsts : st ≠ sl := fun z => by obtain ⟨_, _, _, e, _⟩ := s5; rw [z, e] at ost; cases ost
      have stf : st ∉ fp := fun m => by obtain ⟨xs, e⟩ := hW5.fpl st m; exact nst6 _ e
      have stp : st ≠ pa := fun z => nst6 _ (z ▸ hpa5)
      have stt : st ≠ ta := fun z => nst6 _ (z ▸ hta5)
      have l5 : ∀ a ∈ [sl], (a ∈ fp ∨ a = sl ∨ a = pa ∨ a = ta) ∧ ∃ xs, H5 a = some (.lst xs) := fun a m => ⟨.inr (.inl (List.mem_singleton.mp m)), s5.lst a m⟩
      have hW6 := hW5.bl c6 s5.lst (fun a m z => nsf (by rw [List.mem_singleton.mp z] at m; exact m))
      have mp6 := mv_ch c6 l5 mp5
      have mt6 := mv_ch c6 l5 mt5
      have hl6 := c6 _ _ hl5 (fun m => nls (List.mem_singleton.mp m))
      have hpa6 := c6 _ _ hpa5 (fun m => nps (List.mem_singleton.mp m))
      have hta6 := c6 _ _ hta5 (fun m => nts (List.mem_singleton.mp m))
      have c06 := c5.trans c6
      obtain ⟨wd2, dq2, lo2, lps2, os2, ev2, ef2, h82, wnd2, hw2, hd2, ho2, po2, hp2⟩ := id hW6
      have gO2 : DGet H6 wd2 (.str "objects") (some (.ref lo2)) := by rw [← wkv_objects (lo := lo2) (dp := dq2)]; exact DGet.k (k := Sum.inr "objects") hw2
      have los2 := Paired.len po2
      have zll : W.z.length = W.objs.length := wo_len
      -- the sizes of the objects
      refine ⟨_, rfl, wd2, .ref lo2, ev2, gO2, lo2, rfl, ⟨_, SqL.of ho2⟩, fun D1 hD1 => lc_mapW (walk_list (xs := os2)) (R := fun _ v s => v = V.int ((s : Nat) : Int)) (fun _ q => q) W.z hD1 (fun _ s => SqL.of (s _ _ ho2)) (fun i H x H' _ _ y => by rw [y.1]; exact Same.refl _) (by rw [zll]; exact los2) (by omega) ?_ ?_ ?_⟩
      · rintro j b hb x H8 H9 u1 u2 ⟨rfl, hx⟩ Q' k'
        obtain ⟨⟨pp, ss⟩, hob, a, u, rfl, ha, hu⟩ := Paired.at_ po2 hx
        have hb : (W.objs.map Prod.snd)[j]? = some b := hb
        rw [List.getElem?_map, hob] at hb
        cases hb
        exact ⟨a, _, rfl, SqT.of (u1 _ _ ha), rfl, _, _, rfl, _, _, rfl, rfl, rfl, _, rfl, k' _ _ (Same.refl _) rfl⟩
      · intro x σ H1 P' Q' h hx
        obtain ⟨a, xs, e1, e2, e3, u, r, e4, v, r', e5, e6, e7⟩ := hx
        exact ⟨a, xs, e1, e2, e3, u, r, e4, v, r', e5, e6, h _ _ e7⟩
      intro H7 gs t7 hD7 pg
      have egs : gs = W.z.map fun s => V.int ((s : Nat) : Int) := by
        clear hD7
        generalize W.z = l at pg
        induction pg with
        | nil => rfl
        | cons a _ ih => rw [List.map_cons, a, ih]
      rw [egs] at hD7
      refine ⟨D1, W.z, rfl, hD7, by omega, fun fq r2 H8 t8 ffq hV => ?_⟩
      have t68 := t7.trans t8
      have hW8 := hW6.same t68
      have s8 := s6.same t68
      have hst8 := t68 _ _ hst
      have hpa8 := t68 _ _ hpa6
      have hta8 := t68 _ _ hta6
      have hl8' := t68 _ _ hl6
      have fq8 := hV.fpl
      have nfq : ∀ a o, H6 a = some o → a ∉ fq := fun a o e m => by have := ffq a m; rw [t7 _ _ e] at this; cases this
      have fdis : ∀ a ∈ fp, a ∉ fq := fun a m => by obtain ⟨xs, e⟩ := hW6.fpl a m; exact nfq a _ e
      have slq : sl ∉ fq := by obtain ⟨_, _, _, e, _⟩ := s6; exact nfq sl _ e
      have stq : st ∉ fq := nfq st _ hst
      have paq : pa ∉ fq := nfq pa _ hpa6
      have taq : ta ∉ fq := nfq ta _ hta6
      have lsq : ls ∉ fq := nfq ls _ hl6
      have pst8 := Paired.mono (fun _ _ => StAt.but fun b zs e => t68 b (.tup zs) e) pst
      have mp8 : Paired (MvAt CM (fun a => (a ∈ fp ∨ a = sl ∨ a = pa ∨ a = ta) ∨ a ∈ fq) H8) pvs As := Paired.mono (fun _ _ q => (MvAt.grow (G := fun a => (a ∈ fp ∨ a = sl ∨ a = pa ∨ a = ta) ∨ a ∈ fq) (fun a m => m.elim .inl fun m => .inr (fresh_of t7 (ffq a m))) q).bt (Same.bt t68)) mp6
      have mt8 : Paired (MvAt CM (fun a => (a ∈ fp ∨ a = sl ∨ a = pa ∨ a = ta) ∨ a ∈ fq) H8) tvs Ts := Paired.mono (fun _ _ q => (MvAt.grow (G := fun a => (a ∈ fp ∨ a = sl ∨ a = pa ∨ a = ta) ∨ a ∈ fq) (fun a m => m.elim .inl fun m => .inr (fresh_of t7 (ffq a m))) q).bt (Same.bt t68)) mt6
      have z8 : ∀ s ∈ W.z, 1 ≤ s ∧ s ≤ 8 := fun s hs => in3_8 (gW.z3 s hs)
      have c08 : Ch [sl] H H8 := c06.trans (Same.ch t68)
      have ofq : ∀ a ∈ fq, H a = none := fun a m => old_ch c06 (fun a m => let ⟨xs, e⟩ := s6.lst a m; ⟨_, e⟩) (fresh_of t7 (ffq a m))
      -- whole played
      refine ⟨_, rfl, _, rfl, v, st, xs, fp, W, sts, rfl, hW8, hst8, stf, pst8, ok, le_mono g25.2.2 (by decide) (by decide) (by decide), fun s => by have := (g25.2.2.2 s).2; omega, by omega, z8, fun H9 c9 hW9 => ?_⟩
      have fp8 := hW8.fpl
      have s9 := s8.ch c9 nsf
      have hst9 := c9 _ _ hst8 stf
      have hpa9 := c9 _ _ hpa8 (fun m => npa pa m rfl)
      have hta9 := c9 _ _ hta8 (fun m => nta ta m rfl)
      have hl9 := c9 _ _ hl8' nlf
      have hV9 := hV.bl c9 fp8 (fun a m z => fdis a z m)
      have pst9 := Paired.mono (fun _ _ => StAt.but (ch_tup (sl := sl) c9 fp8)) pst8
      have mp9 := mv_ch c9 (fun a m => ⟨.inl (.inl m), fp8 a m⟩) mp8
      have mt9 := mv_ch c9 (fun a m => ⟨.inl (.inl m), fp8 a m⟩) mt8
      have c09 : Ch [sl] H H9 := fun b o e nb => c9 _ _ (c08 _ _ e nb) (fun m => by rw [ofp b m] at e; cases e)
      -- alone played
      have ok0 : Sok (wo0 W.z).z sts := by rw [wo0_z]; exact ok
      refine ⟨_, rfl, _, rfl, r2, st, xs, fq, wo0 W.z, sts, rfl, hV9, hst9, stq, pst9, ok0, ⟨by rw [← wo_len, wo0_z]; omega, fun s => ⟨Nat.zero_le _, Nat.zero_le _⟩⟩, fun s => by show 0 + sts.length ≤ 59; omega, by omega, by rw [wo0_z]; exact z8, fun H10 c10 hV10 => ?_⟩
      have fq9 := hV9.fpl
      have s10 := s9.ch c10 slq
      have hpa10 := c10 _ _ hpa9 paq
      have hta10 := c10 _ _ hta9 taq
      have hl10 := c10 _ _ hl9 lsq
      have hW10 := hW9.bl c10 fq9 (fun a m z => fdis a m z)
      have mp10 := mv_ch c10 (fun a m => ⟨.inr m, fq9 a m⟩) mp9
      have mt10 := mv_ch c10 (fun a m => ⟨.inr m, fq9 a m⟩) mt9
      have c010 : Ch [sl] H H10 := fun b o e nb => c10 _ _ (c09 _ _ e nb) (fun m => by rw [ofq b m] at e; cases e)
      have gA := wgd_play (wgd0 (n := 25) gW.z3 (by rw [wo_len]; exact g25.1)) ok0 hsl
      have gB := wgd_play (n := 25) ⟨gW.g, gW.z3, gW.off, g25.2.2, g25.2.1⟩ ok hsl
      have hlen := hist_len hh
      have lpv := Paired.len mp5
      have ltv := Paired.len mt5
      have z9 := szM
      have fpo10 : ∀ a, (a ∈ fp ∨ a = sl ∨ a = pa ∨ a = ta) → H10 a ≠ none := fun a m z => by
        rcases m with m | rfl | rfl | rfl
        · obtain ⟨xs, e⟩ := hW10.fpl a m; rw [e] at z; cases z
        · obtain ⟨_, _, _, e, _⟩ := s10; rw [e] at z; cases z
        · rw [hpa10] at z; cases z
        · rw [hta10] at z; cases z
      have mp10 := mv_sub (G := fun a => a ∈ fp ∨ a = sl ∨ a = pa ∨ a = ta) (fun a m => .inl m) mp10
      have mt10 := mv_sub (G := fun a => a ∈ fp ∨ a = sl ∨ a = pa ∨ a = ta) (fun a m => .inl m) mt10
      refine ⟨_, rfl, .inl ⟨rfl, _, SqL.of hpa10⟩, ?_⟩
      refine ⟨_, rfl, _, rfl, sl, r2, fq, (wo0 W.z).play sts, n + 6 + 39 * i + 1 + 2 * 10, W.z, rfl, hV10, slq, s10, by omega, le_mono gA.le (by decide) (by decide) (by decide), gA.off, gA.g, fun s hs => in3_8 (gA.z3 s hs), Nat.le_trans gA.tot (by decide), fun r7 H11 c11 s11 hm11 => ?_⟩
      have l10 : ∀ a ∈ [sl], (a ∈ fp ∨ a = sl ∨ a = pa ∨ a = ta) ∧ ∃ xs, H10 a = some (.lst xs) := fun a m => ⟨.inr (.inl (List.mem_singleton.mp m)), s10.lst a m⟩
      have hpa11 := c11 _ _ hpa10 (fun m => nps (List.mem_singleton.mp m))
      have hta11 := c11 _ _ hta10 (fun m => nts (List.mem_singleton.mp m))
      have hl11 := c11 _ _ hl10 (fun m => nls (List.mem_singleton.mp m))
      have hW11 := hW10.bl c11 s10.lst (fun a m z => nsf (by rw [List.mem_singleton.mp z] at m; exact m))
      have mp11 := mv_ch c11 l10 mp10
      have mt11 := mv_ch c11 l10 mt10
      have mn11 : Paired (MvAt CM (fun a => a ∈ fp ∨ a = sl ∨ a = pa ∨ a = ta) H11) [r7] [((wo0 W.z).play sts).mv] := .cons (hm11.sub fpo10) .nil
      have c011 := c010.trans c11
      refine ⟨pa, pvs, r7, rfl, rfl, hpa11, by omega, ?_⟩
      have c12 : Ch [pa] H11 (upd H11 pa (.lst (pvs ++ [r7]))) := Ch.put (List.mem_singleton.mpr rfl)
      have hpa12 : upd H11 pa (.lst (pvs ++ [r7])) pa = some (.lst (pvs ++ [r7])) := upd_same
      generalize upd H11 pa (.lst (pvs ++ [r7])) = H12 at c12 hpa12 ⊢
      have lpa : ∀ a ∈ [pa], (a ∈ fp ∨ a = sl ∨ a = pa ∨ a = ta) ∧ ∃ xs, H11 a = some (.lst xs) := fun a m => by rw [List.mem_singleton.mp m]; exact ⟨.inr (.inr (.inl rfl)), _, hpa11⟩
      have mp12 := mv_ch c12 lpa (Paired.app mp11 mn11)
      have mt12 := mv_ch c12 lpa mt11
      have s12 := s11.ch c12 (fun m => nps (List.mem_singleton.mp m).symm)
      have hta12 := c12 _ _ hta11 (fun m => npt (List.mem_singleton.mp m).symm)
      have hl12 := c12 _ _ hl11 (fun m => nlp (List.mem_singleton.mp m))
      have hW12 := hW11.bl c12 (fun a m => (lpa a m).2) (fun a m z => npa a m (List.mem_singleton.mp z))
      have c012 : Ch [sl] H H12 := fun b o e nb => c12 _ _ (c011 _ _ e nb) (fun m => by rw [List.mem_singleton.mp m, opa] at e; cases e)
      have fpo12 : ∀ a, (a ∈ fp ∨ a = sl ∨ a = pa ∨ a = ta) → H12 a ≠ none := fun a m z => by
        rcases m with m | rfl | rfl | rfl
        · obtain ⟨xs, e⟩ := hW12.fpl a m; rw [e] at z; cases z
        · obtain ⟨_, _, _, e, _⟩ := s12; rw [e] at z; cases z
        · rw [hpa12] at z; cases z
        · rw [hta12] at z; cases z
      refine ⟨_, rfl, .inl ⟨rfl, _, SqL.of hta12⟩, ?_⟩
      refine ⟨_, rfl, _, rfl, sl, v, fp, W.play sts, n + 6 + 39 * i + 1 + 2 * 10 + 9, z, rfl, hW12, nsf, s12, by omega, le_mono gB.le (by decide) (by decide) (by decide), gB.off, gB.g, fun s hs => in3_8 (gB.z3 s hs), Nat.le_trans gB.tot (by decide), fun r8 H13 c13 s13 hm13 => ?_⟩
      have l12 : ∀ a ∈ [sl], (a ∈ fp ∨ a = sl ∨ a = pa ∨ a = ta) ∧ ∃ xs, H12 a = some (.lst xs) := fun a m => ⟨.inr (.inl (List.mem_singleton.mp m)), s12.lst a m⟩
      have hpa13 := c13 _ _ hpa12 (fun m => nps (List.mem_singleton.mp m))
      have hta13 := c13 _ _ hta12 (fun m => nts (List.mem_singleton.mp m))
      have hl13 := c13 _ _ hl12 (fun m => nls (List.mem_singleton.mp m))
      have hW13 := hW12.bl c13 s12.lst (fun a m z => nsf (by rw [List.mem_singleton.mp z] at m; exact m))
      have mp13 := mv_ch c13 l12 mp12
      have mt13 := mv_ch c13 l12 mt12
      have mn13 : Paired (MvAt CM (fun a => a ∈ fp ∨ a = sl ∨ a = pa ∨ a = ta) H13) [r8] [(W.play sts).mv] := .cons (hm13.sub fpo12) .nil
      have c013 := c012.trans c13
      refine ⟨ta, tvs, r8, rfl, rfl, hta13, by omega, ?_⟩
      have c14 : Ch [ta] H13 (upd H13 ta (.lst (tvs ++ [r8]))) := Ch.put (List.mem_singleton.mpr rfl)
      have hta14 : upd H13 ta (.lst (tvs ++ [r8])) ta = some (.lst (tvs ++ [r8])) := upd_same
      generalize upd H13 ta (.lst (tvs ++ [r8])) = H14 at c14 hta14 ⊢
      have lta : ∀ a ∈ [ta], (a ∈ fp ∨ a = sl ∨ a = pa ∨ a = ta) ∧ ∃ xs, H13 a = some (.lst xs) := fun a m => by rw [List.mem_singleton.mp m]; exact ⟨.inr (.inr (.inr rfl)), _, hta13⟩
      refine ⟨_, _, _, pvs ++ [r7], tvs ++ [r8], As ++ [((wo0 W.z).play sts).mv], Ts ++ [(W.play sts).mv], W.play sts, rfl, ⟨As, Ts, W, sts, hh, ok, hsl, rfl, rfl, rfl⟩, fun b o e nb => c14 _ _ (c013 _ _ e nb) (fun m => by rw [List.mem_singleton.mp m, ota] at e; cases e), ?_, c14 _ _ hl13 (fun m => nlt (List.mem_singleton.mp m)), hW13.bl c14 (fun a m => (lta a m).2) (fun a m z => nta a m (List.mem_singleton.mp z)), c14 _ _ hpa13 (fun m => npt (List.mem_singleton.mp m)), hta14, mv_ch c14 lta mp13, mv_ch c14 lta (Paired.app mt13 mn13)⟩
      exact (show n + 6 + 39 * (i + 1) = n + 6 + 39 * i + 1 + 2 * 10 + 9 + 9 by omega) ▸ s13.ch c14 (fun m => nts (List.mem_singleton.mp m).symm)
    · rintro σ H5 ⟨p5, p6, p7, pvs, tvs, As, Ts, W, rfl, hh, c5, s5, hl5, hW5, hpa5, hta5, mp5, mt5⟩
      obtain ⟨a1, a2, a3, b2, b3, bb, z1, z2, z3, rfl, rfl, k1, k2, k3, k4, k5, e1, e2, e3, e4, w1, w2, w3, w4, w5, e5, e6, hz1, lz1⟩ := three h3 hz hh
      cases mp5 with
      | @cons x1 _ _ _ m1 mp5 =>
      cases mp5 with
      | @cons x2 _ _ _ m2 mp5 =>
      cases mp5 with
      | @cons x3 _ _ _ m3 mp5 =>
      cases mp5
      cases mt5 with
      | @cons y1 _ _ _ n1 mt5 =>
      cases mt5 with
      | @cons y2 _ _ _ n2 mt5 =>
      cases mt5 with
      | @cons y3 _ _ _ n3 mt5 =>
      cases mt5
      refine ⟨_, rfl, pa, _, rfl, SqL.of hpa5, rfl, _, _, rfl, _, _, rfl, _, _, rfl, rfl, ?_⟩
      -- one.then(two), told_moves[1]
      refine ⟨_, rfl, mth m1 (fun _ _ => mf_then) ⟨_, rfl, x1, x2, a1, a2, z, z1, z2, rfl, m1.no, m2.no, k1, k2, by omega, fun r6 H6 t6 hr6 => ?_⟩⟩
      rw [e1] at hr6
      refine ⟨_, rfl, ta, _, 1, y2, rfl, rfl, SqL.of (t6 _ _ hta5), rfl, eq_mv hr6 (n2.bt (Same.bt t6)) fun H7 t7 => ⟨true, rfl, false, rfl, iteF ?_⟩⟩
      have t57 := t6.trans t7
      -- one.then(two).then(three), told_moves[2]
      refine ⟨_, rfl, mth (m1.bt (Same.bt t57)) (fun _ _ => mf_then) ⟨_, rfl, x1, x2, a1, a2, z, z1, z2, rfl, (m1.bt (Same.bt t57)).no, (m2.bt (Same.bt t57)).no, k1, k2, by omega, fun r8 H8 t8 hr8 => ?_⟩⟩
      rw [e1] at hr8
      have t58 := t57.trans t8
      refine mth hr8 (fun _ _ => mf_then) ⟨_, rfl, r8, x3, b2, a3, z, z2, z3, rfl, hr8.no, (m3.bt (Same.bt t58)).no, k4, k3, by omega, fun r9 H9 t9 hr9 => ?_⟩
      rw [e2] at hr9
      have t59 := t58.trans t9
      refine ⟨_, rfl, ta, _, 2, y3, rfl, rfl, SqL.of (t59 _ _ hta5), rfl, eq_mv hr9 (n3.bt (Same.bt t59)) fun H10 t10 => ⟨true, rfl, false, rfl, iteF ?_⟩⟩
      have t510 := t59.trans t10
      -- one.then(two.then(three)), told_moves[2]
      refine ⟨_, rfl, mth (m1.bt (Same.bt t510)) (fun _ _ => mf_then) ?_⟩
      refine ⟨_, rfl, mth (m2.bt (Same.bt t510)) (fun _ _ => mf_then) ⟨_, rfl, x2, x3, a2, a3, z1, z2, z3, rfl, (m2.bt (Same.bt t510)).no, (m3.bt (Same.bt t510)).no, k2, k3, by omega, fun r11 H11 t11 hr11 => ?_⟩⟩
      rw [e3] at hr11
      have t511 := t510.trans t11
      refine ⟨x1, r11, a1, bb, z, z1, z3, rfl, (m1.bt (Same.bt t511)).no, hr11.no, k1, k5, by omega, fun r12 H12 t12 hr12 => ?_⟩
      rw [e4] at hr12
      have t512 := t511.trans t12
      refine ⟨_, rfl, ta, _, 2, y3, rfl, rfl, SqL.of (t512 _ _ hta5), rfl, eq_mv hr12 (n3.bt (Same.bt t512)) fun H13 t13 => ⟨true, rfl, false, rfl, iteF ?_⟩⟩
      have t513 := t512.trans t13
      -- one.then(identity(len(one.objects()))), one
      have M13 := m1.bt (Same.bt t513)
      have la1 := k1.len
      refine ⟨_, rfl, mth M13 (fun _ _ => mf_then) ?_⟩
      refine ⟨_, rfl, mth M13 (fun _ _ => mf_objects) ⟨x1, a1, _, rfl, M13, fun u14 H14 t14 hps => ?_⟩⟩
      obtain ⟨ol, oxs, rfl, _, hol, pol⟩ := hps
      have lol := Paired.len pol
      refine ⟨ol, oxs, rfl, .inl (SqL.of hol), ?_⟩
      refine ⟨a1.things.length, by rw [lol]; rfl, by omega, fun r15 H15 t15 hr15 => ?_⟩
      have t515 := (t513.trans t14).trans t15
      have M15 := m1.bt (Same.bt t515)
      have z18 : ∀ s ∈ z1, 1 ≤ s ∧ s ≤ 8 := fun s hs => in3_8 (hz1 s hs)
      have z08 : ∀ s ∈ z, 1 ≤ s ∧ s ≤ 8 := fun s hs => in3_8 (h3 s hs)
      rw [← la1] at hr15
      refine ⟨x1, r15, a1, idM z1.length, z, z1, z1, rfl, M15.no, hr15.no, k1, idM_ok z18, by rw [idM_wt]; omega, fun r16 H16 t16 hr16 => ?_⟩
      rw [e5] at hr16
      have t516 := t515.trans t16
      refine ⟨_, rfl, eq_mv hr16 (m1.bt (Same.bt t516)) fun H17 t17 => ⟨true, rfl, false, rfl, iteF ?_⟩⟩
      have t517 := t516.trans t17
      -- identity(len(sizes)).then(one), one
      refine ⟨_, rfl, ls, _, rfl, .inl (SqL.of (t517 _ _ hl5)), z.length, by rw [List.length_map]; rfl, by omega, fun r18 H18 t18 hr18 => ?_⟩
      have t518 := t517.trans t18
      refine mth hr18 (fun _ _ => mf_then) ⟨_, rfl, r18, x1, idM z.length, a1, z, z, z1, rfl, hr18.no, (m1.bt (Same.bt t518)).no, idM_ok z08, k1, by rw [idM_wt]; omega, fun r19 H19 t19 hr19 => ?_⟩
      rw [e6] at hr19
      have t519 := t518.trans t19
      refine ⟨_, rfl, eq_mv hr19 (m1.bt (Same.bt t519)) fun H20 t20 => ⟨true, rfl, false, rfl, iteF ?_⟩⟩
      have t520 := t519.trans t20
      -- many
      have M20 := m1.bt (Same.bt t520)
      refine ⟨_, rfl, mth M20 (fun _ _ => mf_objects) ⟨x1, a1, _, rfl, M20, fun u21 H21 t21 hps => ?_⟩⟩
      obtain ⟨ol2, oxs2, rfl, _, hol2, pol2⟩ := hps
      have lol2 := Paired.len pol2
      refine ⟨ol2, oxs2, rfl, .inl (SqL.of hol2), ?_⟩
      have t521 := t520.trans t21
      have s21 := s5.same t521
      have M21 := m1.bt (Same.bt t521)
      have N21 := n1.bt (Same.bt t521)
      have M21b := m2.bt (Same.bt t521)
      have hpa21 := t521 _ _ hpa5
      have hta21 := t521 _ _ hta5
      have c21 : Ch [sl] H H21 := c5.trans (Same.ch t521)
      -- later
      refine ⟨_, rfl, _, rfl, sl, 3, n + 6 + 39 * 3, rfl, by decide, by decide, by omega, s21, fun q H22 hq c22 s22 => ?_⟩
      have l21 : ∀ a ∈ [sl], (a ∈ fp ∨ a = sl ∨ a = pa ∨ a = ta) ∧ ∃ xs, H21 a = some (.lst xs) := fun a m => ⟨.inr (.inl (List.mem_singleton.mp m)), s21.lst a m⟩
      have M22 := M21.bt (c22.bt l21)
      have N22 := N21.bt (c22.bt l21)
      have M22b := M21b.bt (c22.bt l21)
      have hpa22 := c22 _ _ hpa21 (fun m => nps (List.mem_singleton.mp m))
      have hta22 := c22 _ _ hta21 (fun m => nts (List.mem_singleton.mp m))
      have cc22 := c21.trans c22
      refine ⟨_, _, rfl, rfl, sz2, fun p1 hp1 => ⟨sz1, fun l1 hl1 => fun d1 hd1 x dx hx hdx ne => ?_⟩⟩
      have u1 := Same.new (o := .tup [.str "object", .int (((oxs2.length : Nat) : Int) + ((q : Nat) : Int))]) hp1
      have u2 := Same.new (o := .lst [.ref p1]) hl1
      have u3 := Same.new (o := .dK []) hd1
      have hp1b := u3 _ _ (u2 _ _ (show upd H22 p1 (.tup [.str "object", .int (((oxs2.length : Nat) : Int) + ((q : Nat) : Int))]) p1 = some _ from upd_same))
      have hl1b := u3 _ _ (show upd (upd H22 p1 (.tup [.str "object", .int (((oxs2.length : Nat) : Int) + ((q : Nat) : Int))])) l1 (.lst [.ref p1]) l1 = some _ from upd_same)
      have u13 := (u1.trans u2).trans u3
      refine ⟨_, x, dx, _, d1, [], [], farA (a1.things.length + q), List.replicate (a1.things.length + q + 1) 1, [1], rfl, hx, hdx, ne, rfl, ⟨l1, [.ref p1], rfl, fun z => z, hl1b, .cons ⟨p1, rfl, ?_⟩ .nil⟩, upd_same, .nil, List.nodup_nil, (fun s hs => absurd hs List.not_mem_nil), (fun s _ => rfl), farA_good _, rfl, (fun s hs => by rw [List.mem_singleton.mp hs]; decide), (by have := farA_wt (a1.things.length + q); unfold wt at this; omega), fun H23 t23 hm23 => ⟨rfl, ?_⟩⟩
      · rw [hp1b, lol2, show ((a1.things.length : Nat) : Int) + ((q : Nat) : Int) = ((a1.things.length + q : Nat) : Int) by omega]; rfl
      have t2223 := u13.trans t23
      have M23 := M22.bt (Same.bt t2223)
      refine ⟨_, rfl, _, rfl, x1, .ref x, a1, rfl, M23.no, .inr ⟨farA (a1.things.length + q), hm23.no, by rw [farA_wt]; decide, a1.things.length + q, List.mem_append_left _ (List.mem_singleton.mpr rfl), Nat.le_add_right _ _⟩, fun H24 t24 => ⟨true, rfl, iteF ?_⟩⟩
      have t2224 := t2223.trans t24
      -- the second one
      refine ⟨_, rfl, Nat.zero_le _, fun l2 hl2 => fun d2 hd2 => ⟨_, rfl, sz2, fun p3 hp3 => ⟨sz1, fun l3 hl3 => ⟨sz2, fun p4 hp4 => ?_⟩⟩⟩⟩
      have v1 := Same.new (o := .lst []) hl2
      have v2 := Same.new (o := .dK []) hd2
      have v3 := Same.new (o := .tup [.str "object", .int ((oxs2.length : Nat) : Int)]) hp3
      have v4 := Same.new (o := .lst [.ref p3]) hl3
      have v5 := Same.new (o := .tup [.ref l3, .int 0]) hp4
      have v15 := (((v1.trans v2).trans v3).trans v4).trans v5
      have od2 := fresh_of v1 hd2
      have hl2b := v5 _ _ (v4 _ _ (v3 _ _ (v2 _ _ (show upd H24 l2 (.lst []) l2 = some (.lst []) from upd_same))))
      have hd2b := v5 _ _ (v4 _ _ (v3 _ _ (show upd (upd H24 l2 (.lst [])) d2 (.dK []) d2 = some (.dK []) from upd_same)))
      have hp3b := v5 _ _ (v4 _ _ (show upd (upd (upd H24 l2 (.lst [])) d2 (.dK [])) p3 (.tup [.str "object", .int ((oxs2.length : Nat) : Int)]) p3 = some _ from upd_same))
      have hl3b := v5 _ _ (show upd (upd (upd (upd H24 l2 (.lst [])) d2 (.dK [])) p3 (.tup [.str "object", .int ((oxs2.length : Nat) : Int)])) l3 (.lst [.ref p3]) l3 = some _ from upd_same)
      have hp4b : upd (upd (upd (upd (upd H24 l2 (.lst [])) d2 (.dK [])) p3 (.tup [.str "object", .int ((oxs2.length : Nat) : Int)])) l3 (.lst [.ref p3])) p4 (.tup [.ref l3, .int 0]) p4 = some (.tup [.ref l3, .int 0]) := upd_same
      generalize upd (upd (upd (upd (upd H24 l2 (.lst [])) d2 (.dK [])) p3 (.tup [.str "object", .int ((oxs2.length : Nat) : Int)])) l3 (.lst [.ref p3])) p4 (.tup [.ref l3, .int 0]) = H25 at v15 hl2b hd2b hp3b hl3b hp4b ⊢
      refine ⟨hd2b, [((Sum.inl 3 : Key), .ref p4)], rfl, (by show 1 ≤ 15; decide), fun x' dx' hx' hdx' ne' => ?_⟩
      have em : mergeK [] [((Sum.inl 3 : Key), V.ref p4)] = [(Sum.inl 3, .ref p4)] := rfl
      rw [em]
      rw [em] at hx' hdx'
      have v16 : Same H24 (upd H25 d2 (.dK [(Sum.inl 3, .ref p4)])) := Same.over v15 od2
      have k6 : ∀ b o, b ≠ d2 → H25 b = some o → upd H25 d2 (.dK [((Sum.inl 3 : Key), V.ref p4)]) b = some o := fun b o n e => by rw [upd_ne n]; exact e
      have hp3c := k6 _ _ (ne_of hp3b hd2b fun z => nomatch z) hp3b
      have hl3c := k6 _ _ (ne_of hl3b hd2b fun z => nomatch z) hl3b
      have hp4c := k6 _ _ (ne_of hp4b hd2b fun z => nomatch z) hp4b
      have hl2c := k6 _ _ (ne_of hl2b hd2b fun z => nomatch z) hl2b
      refine ⟨_, x', dx', _, d2, _, [3], farB a1.things.length, List.replicate a1.things.length 1 ++ [3], [], rfl, hx', hdx', ne', rfl, ⟨l2, [], rfl, fun z => z, hl2c, .nil⟩, upd_same, .cons ⟨rfl, ⟨p4, .ref l3, rfl, hp4c, l3, [.ref p3], rfl, fun z => z, hl3c, .cons ⟨p3, rfl, by rw [hp3c, lol2]; rfl⟩ .nil⟩⟩ .nil, (by decide), (fun s hs => by rw [List.mem_singleton.mp hs]; decide), (fun s hs => if_neg fun e => hs (by rw [e]; exact List.mem_singleton.mpr rfl)), farB_good _, rfl, (fun s hs => absurd hs List.not_mem_nil), (by have := farB_wt a1.things.length; unfold wt at this; omega), fun H27 t27 hm27 => ⟨rfl, ?_⟩⟩
      rw [farB_canon] at hm27
      have t2227 := (t2224.trans v16).trans t27
      have M27 := M22.bt (Same.bt t2227)
      refine ⟨x1, .ref x', a1, rfl, M27.no, .inr ⟨farB a1.things.length, hm27.no, by rw [farB_wt]; decide, a1.things.length, farB_known _, Nat.le_refl _⟩, fun H28 t28 => ⟨true, rfl, iteF ?_⟩⟩
      have t2228 := t2227.trans t28
      have s28 := s22.same t2228
      -- odd
      refine ⟨_, rfl, _, rfl, _, rfl, sz2, fun p5 hp5 => ⟨Nat.zero_le _, fun l5 hl5' => fun d5 hd5 => ⟨Nat.zero_le _, fun l6 hl6 => fun d6 hd6 => ⟨sz2, fun p6 hp6 => ⟨(by show 6 ≤ sizeLine; have := szM; omega), fun li hli => ?_⟩⟩⟩⟩⟩
      have a5 := Same.new (o := .tup [x1, x2]) hp5
      have b5 := Same.new (o := .lst []) hl5'
      have b6 := Same.new (o := .dK []) hd5
      have b7 := Same.new (o := .lst []) hl6
      have b8 := Same.new (o := .dK []) hd6
      have b9 := Same.new (o := .tup [.ref l6, .ref d6]) hp6
      have b10 := Same.new (o := .lst [.non, .int 1, .ref p5, .ref l5, .ref d5, .ref p6]) hli
      have hp5b := b10 _ _ (b9 _ _ (b8 _ _ (b7 _ _ (b6 _ _ (b5 _ _ (show upd H28 p5 (.tup [x1, x2]) p5 = some (.tup [x1, x2]) from upd_same))))))
      have hl5b := b10 _ _ (b9 _ _ (b8 _ _ (b7 _ _ (b6 _ _ (show upd (upd H28 p5 (.tup [x1, x2])) l5 (.lst []) l5 = some (.lst []) from upd_same)))))
      have hd5b := b10 _ _ (b9 _ _ (b8 _ _ (b7 _ _ (show upd (upd (upd H28 p5 (.tup [x1, x2])) l5 (.lst [])) d5 (.dK []) d5 = some (.dK []) from upd_same))))
      have hp6b := b10 _ _ (show upd (upd (upd (upd (upd (upd H28 p5 (.tup [x1, x2])) l5 (.lst [])) d5 (.dK [])) l6 (.lst [])) d6 (.dK [])) p6 (.tup [.ref l6, .ref d6]) p6 = some (.tup [.ref l6, .ref d6]) from upd_same)
      have hlib : upd (upd (upd (upd (upd (upd (upd H28 p5 (.tup [x1, x2])) l5 (.lst [])) d5 (.dK [])) l6 (.lst [])) d6 (.dK [])) p6 (.tup [.ref l6, .ref d6])) li (.lst [.non, .int 1, .ref p5, .ref l5, .ref d5, .ref p6]) li = some (.lst [.non, .int 1, .ref p5, .ref l5, .ref d5, .ref p6]) := upd_same
      have t29 := (((((a5.trans b5).trans b6).trans b7).trans b8).trans b9).trans b10
      have s29 := s28.same t29
      have nli : li ≠ sl := (s28.same (((((a5.trans b5).trans b6).trans b7).trans b8).trans b9)).ne hli
      have nl5 : l5 ≠ sl := (s28.same a5).ne hl5'
      generalize upd (upd (upd (upd (upd (upd (upd H28 p5 (.tup [x1, x2])) l5 (.lst [])) d5 (.dK [])) l6 (.lst [])) d6 (.dK [])) p6 (.tup [.ref l6, .ref d6])) li (.lst [.non, .int 1, .ref p5, .ref l5, .ref d5, .ref p6]) = H29 at hp5b hl5b hd5b hp6b hlib t29 s29 ⊢
      have t2229 := t2228.trans t29
      refine ⟨sl, li, _, n + 6 + 39 * 3 + 1, rfl, hlib, nli, (by show 1 ≤ 6; decide), (by show 6 ≤ 1000; decide), by omega, s29, fun od H30 hod c30 s30 => ?_⟩
      have l29 : ∀ a ∈ [sl], (a ∈ fp ∨ a = sl ∨ a = pa ∨ a = ta) ∧ ∃ xs, H29 a = some (.lst xs) := fun a m => ⟨.inr (.inl (List.mem_singleton.mp m)), s29.lst a m⟩
      have M30 := (M22.bt (Same.bt t2229)).bt (c30.bt l29)
      have N30 := (N22.bt (Same.bt t2229)).bt (c30.bt l29)
      have hpa30 := c30 _ _ (t2229 _ _ hpa22) (fun m => nps (List.mem_singleton.mp m))
      have hta30 := c30 _ _ (t2229 _ _ hta22) (fun m => nts (List.mem_singleton.mp m))
      have tu30 := ch_tup (sl := sl) c30 s29.lst
      have hl30 := c30 _ _ hl5b (fun m => nl5 (List.mem_singleton.mp m))
      have hd30 := c30 _ _ hd5b (fun m => by
        obtain ⟨_, _, _, e, _⟩ := s29
        rw [List.mem_singleton.mp m, e] at hd5b; cases hd5b)
      have cc30 : Ch [sl] H H30 := (cc22.trans (Same.ch t2229)).trans c30
      have hty : ∃ T : String, T ∈ ["NoneType", "int", "tuple", "list", "dict"] ∧ TyX K H30 od (.type T) := by
        simp only [List.mem_cons, List.not_mem_nil, or_false] at hod
        rcases hod with rfl | rfl | rfl | rfl | rfl | rfl
        · exact ⟨"NoneType", by simp, .base .non⟩
        · exact ⟨"int", by simp, .base (.int 1)⟩
        · exact ⟨"tuple", by simp, .base (.tup (tu30 _ _ hp5b))⟩
        · exact ⟨"list", by simp, .base (.lst hl30)⟩
        · exact ⟨"dict", by simp, .base (.dK hd30)⟩
        · exact ⟨"tuple", by simp, .base (.tup (tu30 _ _ hp6b))⟩
      refine ⟨_, rfl, _, rfl, x1, od, a1, rfl, M30.no, .inl hty, fun H31 t31 => ⟨true, rfl, iteT ?_⟩⟩
      refine ⟨_, rfl, pa, _, 0, x1, rfl, rfl, SqL.of (t31 _ _ hpa30), rfl, _, rfl, ta, _, 0, y1, rfl, rfl, SqL.of (t31 _ _ hta30), rfl, eq_mv (M30.bt (Same.bt t31)) (N30.bt (Same.bt t31)) fun H32 t32 => ?_⟩
      exact k H32 (cc30.trans (Same.ch (t31.trans t32))) ((s30.same (t31.trans t32)).le (by omega))
end
end Wd
set_option Elab.async false
set_option linter.all false
set_option maxRecDepth 100000
set_option maxHeartbeats 4000000
/-! the law -/
namespace Wd
open PySem L2 Mv
theorem cut_ints (ns : List Int) (a b : Option Int) : ∃ ms : List Int, cutV (ns.map V.int) a b = ms.map V.int := by
  unfold cutV
  rw [← List.map_drop, ← List.map_take]
  exact ⟨_, rfl⟩
section
variable {P : Program} {w : World} {K : PySem.W.Frag} {mg : Str → Option Value} {base : Heap} {f C CM : Addr} {fd : FuncData} {H : Hp}
def spLaw (K : PySem.W.Frag) : Sp := fun vs H Q _ => ∃ (a : Addr) (ns : List Int), vs = [.ref a] ∧ SqL K H a (ns.map V.int) ∧ ns.length ≤ 63 ∧ ∀ H', Q (.bl true) H'
theorem sc_Law : FnScope ["script", "cell", "source", "turn"] ["script"] (defScope sLaw) := ⟨rfl, rfl, rfl, by decide +kernel, rfl, by decide +kernel, by decide +kernel⟩
theorem ok_Law (D : DefF K mg "law" sLaw ["script"] f fd) (B : Blt mg) {f1 f2 f3 : Addr} {d1 d2 d3 : FuncData} (DLawCellAt : DefF K mg "_law_cell_at" sLawCellAt ["script", "k"] f1 d1) (GLawCellAt : FnOk P w K mg base CX0 1 f1 d1 ["script", "k"] (spLawCellAt K))
    (DLawSource : DefF K mg "_law_source" sLawSource ["cell"] f2 d2) (GLawSource : FnOk P w K mg base CX0 1 f2 d2 ["cell"] spLawSource)
    (DLawRight : DefF K mg "_law_right" sLawRight ["source"] f3 d3) (GLawRight : FnOk P w K mg base CX0 8 f3 d3 ["source"] spLawRight) : FnOk P w K mg base CX0 9 f fd ["script"] (spLaw K) := by
  refine D.fn.ok sc_Law (fun vs H Q E h => ?_) (fun cdv A outer s H vs Q E hr h => ?_)
  · obtain ⟨a, ns, rfl, _⟩ := h; rfl
  · obtain ⟨aS, ns, rfl, hS, h63, k⟩ := h
    refine ⟨_, (pss_cons (ps_for PassesOwn.never rfl (pi_list (pe_op op_cat (pe_lst (pa_cons (pe_call GLawCellAt (hr.mono (by first | decide | omega)) rfl DLawCellAt.gl DLawCellAt.fn.kp DLawCellAt.bd .nil pass0 (pa_cons (pv 0) (pa_cons pe_int pa_nil))) pa_nil)) (pe_slice sl_list (pv 0) (po_some pe_int) (po_some pe_int)))) (pg_name (i := 1) sc_Law.nd rfl (.inl rfl)) (pss_cons (ps_set (i := 2) sc_Law.nd rfl (.inl rfl) (pe_call GLawSource (hr.mono (by first | decide | omega)) rfl DLawSource.gl DLawSource.fn.kp DLawSource.bd .nil pass0 (pa_cons (pv 1) pa_nil))) (pss_one (ps_for PassesOwn.never rfl (pi_range1 rfl B.range (pa_cons pe_int pa_nil)) (pg_name (i := 3) sc_Law.nd rfl (.inl rfl)) (pss_one (ps_if (pt_not (pt_val (pe_call GLawRight (hr.mono (by first | decide | omega)) rfl DLawRight.gl DLawRight.fn.kp DLawRight.bd .nil pass0 (pa_cons (pv 2) pa_nil)))) (pss_one (ps_ret pe_bl)) pss_nil)))))) (pss_one (ps_ret pe_bl))), ?_⟩
    have z9 := szM
    refine ⟨_, rfl, aS, ns, 0, rfl, hS, fun c0 => ⟨sz1, fun l1 hl1 => ?_⟩⟩
    have t1 := Same.new (o := .lst [.int c0]) hl1
    have hl1b : upd H l1 (.lst [.int c0]) l1 = some (.lst [.int c0]) := upd_same
    obtain ⟨ms, hms⟩ := cut_ints ns (some 1) (some 6)
    have lms : ms.length ≤ 63 := by
      have e := congrArg List.length hms
      unfold cutV at e
      rw [List.length_take, List.length_drop, List.length_map, List.length_map] at e
      omega
    refine ⟨_, rfl, 1, rfl, 6, rfl, aS, _, rfl, t1.seq hS, fun p1 hp1 => ?_⟩
    rw [hms]
    have t2 := Same.new (o := .lst (ms.map V.int)) hp1
    refine ⟨l1, p1, _, _, rfl, rfl, t2 _ _ hl1b, upd_same, by rw [List.length_map]; show 1 + ms.length ≤ _; omega, fun r hr1 => ?_⟩
    have hrb : upd (upd (upd H l1 (.lst [.int c0])) p1 (.lst (ms.map V.int))) r (.lst ([.int c0] ++ ms.map V.int)) r = some (.lst ([.int c0] ++ ms.map V.int)) := upd_same
    generalize upd (upd (upd H l1 (.lst [.int c0])) p1 (.lst (ms.map V.int))) r (.lst ([.int c0] ++ ms.map V.int)) = H3 at hrb ⊢
    refine ⟨r, rfl, ⟨_, SqL.of hrb⟩, for_list (xs := [.int c0] ++ ms.map V.int) (fun i σ H' => (∃ p1 p2 p3, σ = [some (.ref aS), p1, p2, p3]) ∧ H' r = some (.lst ([.int c0] ++ ms.map V.int))) ⟨⟨none, none, none, rfl⟩, hrb⟩ (fun i σ H _ h => SqL.of h.2) ?_ ?_⟩
    · rintro i x σ H4 hx ⟨⟨p1, p2, p3, rfl⟩, hr4⟩
      obtain ⟨c, rfl⟩ : ∃ c : Int, x = .int c := by
        have hm := List.mem_of_getElem? hx
        rcases List.mem_append.mp hm with hm | hm
        · exact ⟨c0, List.mem_singleton.mp hm⟩
        · obtain ⟨c, _, e⟩ := List.mem_map.mp hm; exact ⟨c, e.symm⟩
      refine ⟨_, rfl, c, rfl, fun sl H5 t5 fsl s5 => ?_⟩
      have nrs : r ≠ sl := ne_of_none hr4 fsl
      refine ⟨2, rfl, by decide, by decide, for_range (lo := 0) (n := 2) (fun j σ H' => (∃ p3, σ = [some (.ref aS), some (.int c), some (.ref sl), p3]) ∧ H' r = some (.lst ([.int c0] ++ ms.map V.int)) ∧ SrcAt sl (200 * j) H') ⟨⟨p3, rfl⟩, t5 _ _ hr4, s5⟩ ?_ ?_⟩
      · rintro j σ H6 hj ⟨⟨p3, rfl⟩, hr6, s6⟩
        refine ⟨_, rfl, sl, 200 * j, rfl, by omega, s6, fun H7 c7 s7 => ⟨true, rfl, iteF ⟨⟨_, rfl⟩, c7 _ _ hr6 (fun m => nrs (List.mem_singleton.mp m)), s7.le (by omega)⟩⟩⟩
      · rintro σ H6 ⟨⟨p3, rfl⟩, hr6, s6⟩
        exact ⟨⟨_, _, _, rfl⟩, hr6⟩
    · rintro σ H4 ⟨⟨p1, p2, p3, rfl⟩, hr4⟩
      exact k H4
end
end Wd
set_option Elab.async false
set_option linter.all false
set_option maxRecDepth 100000
set_option maxHeartbeats 4000000
namespace Wd
open PySem L2 PySem.Spec PyProof.Rows Mv Ax
theorem exm_self {K : PySem.W.Frag} {S : Addr} (h1 : PySem.W.subIn K (.ref S) (.type "BaseException") = some true) (h2 : PySem.W.isClsIn K S = true) (h3 : PySem.W.typeIn K (.ref S) = some (.type "type")) (h4 : PySem.W.subIn K (.ref S) (.ref S) = some true) : PySem.W.exmOne K (.ref S) (.ref S) = some true := by
  have e1 : (PySem.W.subIn K (.ref S) (.type "BaseException") == some true) = true := by rw [h1]; rfl
  have h5 : (PySem.W.clsIn K S).isSome = true := h2
  have e2 : ((PySem.W.clsIn K S).isSome && PySem.W.typeIn K (.ref S) == some (.type "type")) = true := by rw [h5, h3]; rfl
  show (if (PySem.W.subIn K (.ref S) (.type "BaseException") == some true) = true then (if ((PySem.W.clsIn K S).isSome && PySem.W.typeIn K (.ref S) == some (.type "type")) = true then PySem.W.subIn K (.ref S) (.ref S) else none) else none) = some true
  rw [if_pos e1, if_pos e2]; exact h4
theorem all_mk {l : PySem.W.OpenLaw} {w : World} {K : PySem.W.Frag} {h : Heap} {mg : Str → Option Value} {fa CM CB CInvalidArgument f1 f2 f3 f4 f5 f6 f7 f8 f9 f10 f11 f12 f13 f14 f15 f16 f17 f18 f19 f20 f21 f22 f23 f24 f25 f26 f27 f28 f29 f30 : Addr} (X : K.In h) (G : h.Ns mainGlobals mg) (hfa : mg "law" = some (.ref fa))
    {od1 an1 od2 an2 od3 an3 od4 an4 od5 an5 od6 an6 od7 an7 od8 an8 od9 an9 od10 an10 od11 an11 od12 an12 od13 an13 od14 an14 od15 an15 od16 an16 od17 an17 od18 an18 od19 an19 od20 an20 od21 an21 od22 an22 od23 an23 od24 an24 od25 an25 od26 an26 od27 an27 od28 an28 od29 an29 od30 an30 : Option Addr} {sl1 sl2 sl3 sl4 sl5 sl6 sl7 sl8 sl9 sl10 sl11 sl12 sl13 sl14 sl15 sl16 sl17 sl18 sl19 sl20 sl21 sl22 sl23 sl24 sl25 sl26 sl27 sl28 sl29 sl30 : Array (Option Value)} {oc1 kV1 dc1 pm1 cd1 ct1 oc2 kV2 dc2 pm2 cd2 ct2 oc3 kV3 dc3 pm3 cd3 ct3 oc4 kV4 dc4 pm4 cd4 ct4 oc5 kV5 dc5 pm5 cd5 ct5 oc6 kV6 dc6 pm6 cd6 ct6 oc7 kV7 dc7 pm7 cd7 ct7 oc8 kV8 dc8 pm8 cd8 ct8 oc9 kV9 dc9 pm9 cd9 ct9 oc10 kV10 dc10 pm10 cd10 ct10 oc11 kV11 dc11 pm11 cd11 ct11 oc12 kV12 dc12 pm12 cd12 ct12 oc13 kV13 dc13 pm13 cd13 ct13 oc14 kV14 dc14 pm14 cd14 ct14 oc15 kV15 dc15 pm15 cd15 ct15 oc16 kV16 dc16 pm16 cd16 ct16 oc17 kV17 dc17 pm17 cd17 ct17 oc18 kV18 dc18 pm18 cd18 ct18 oc19 kV19 dc19 pm19 cd19 ct19 oc20 kV20 dc20 pm20 cd20 ct20 oc21 kV21 dc21 pm21 cd21 ct21 oc22 kV22 dc22 pm22 cd22 ct22 oc23 kV23 dc23 pm23 cd23 ct23 oc24 kV24 dc24 pm24 cd24 ct24 oc25 kV25 dc25 pm25 cd25 ct25 oc26 kV26 dc26 pm26 cd26 ct26 oc27 kV27 dc27 pm27 cd27 ct27 oc28 kV28 dc28 pm28 cd28 ct28 oc29 kV29 dc29 pm29 cd29 ct29 oc30 kV30 dc30 pm30 cd30 ct30 : Value}
    {nmCInvalidArgument qCInvalidArgument : Str} {NCInvalidArgument : Addr} {bsCInvalidArgument : List Value} {snCInvalidArgument : List Str} {subCInvalidArgument : List Value} {abCInvalidArgument : Bool} {colCInvalidArgument : Option Bool} {ddCInvalidArgument : Option Addr} {maCInvalidArgument mbCInvalidArgument mcCInvalidArgument mdCInvalidArgument meCInvalidArgument : Option Value}
    {t8 : Tok}
    (aCM : PySem.W.nsIn K mainGlobals "Move" = some (some (.ref CM)))
    (a1 : PySem.W.nsIn K mainGlobals "is_integer" = some (some (.ref f1)))
    (l1 : K.lookup f1 = some ⟨oc1, od1, .func (PySem.W.fnOf "is_integer" "is_integer" (defArgs sIsInteger) (defBody sIsInteger) (defScope sIsInteger) .none kV1 dc1 pm1 an1 cd1 ct1), sl1⟩)
    (c1 : PySem.W.codeIn K cd1 "is_integer" = true)
    (k1 : PySem.W.keepIn K (.ref f1) = true)
    (a2 : PySem.W.nsIn K mainGlobals "is_between" = some (some (.ref f2)))
    (l2 : K.lookup f2 = some ⟨oc2, od2, .func (PySem.W.fnOf "is_between" "is_between" (defArgs sIsBetween) (defBody sIsBetween) (defScope sIsBetween) .none kV2 dc2 pm2 an2 cd2 ct2), sl2⟩)
    (c2 : PySem.W.codeIn K cd2 "is_between" = true)
    (k2 : PySem.W.keepIn K (.ref f2) = true)
    (a3 : PySem.W.nsIn K mainGlobals "is_place" = some (some (.ref f3)))
    (l3 : K.lookup f3 = some ⟨oc3, od3, .func (PySem.W.fnOf "is_place" "is_place" (defArgs sIsPlace) (defBody sIsPlace) (defScope sIsPlace) .none kV3 dc3 pm3 an3 cd3 ct3), sl3⟩)
    (c3 : PySem.W.codeIn K cd3 "is_place" = true)
    (k3 : PySem.W.keepIn K (.ref f3) = true)
    (a4 : PySem.W.nsIn K mainGlobals "is_pool" = some (some (.ref f4)))
    (l4 : K.lookup f4 = some ⟨oc4, od4, .func (PySem.W.fnOf "is_pool" "is_pool" (defArgs sIsPool) (defBody sIsPool) (defScope sIsPool) .none kV4 dc4 pm4 an4 cd4 ct4), sl4⟩)
    (c4 : PySem.W.codeIn K cd4 "is_pool" = true)
    (k4 : PySem.W.keepIn K (.ref f4) = true)
    (a5 : PySem.W.nsIn K mainGlobals "shortened" = some (some (.ref f5)))
    (l5 : K.lookup f5 = some ⟨oc5, od5, .func (PySem.W.fnOf "shortened" "shortened" (defArgs sShortened) (defBody sShortened) (defScope sShortened) .none kV5 dc5 pm5 an5 cd5 ct5), sl5⟩)
    (c5 : PySem.W.codeIn K cd5 "shortened" = true)
    (k5 : PySem.W.keepIn K (.ref f5) = true)
    (a6 : PySem.W.nsIn K mainGlobals "identity" = some (some (.ref f6)))
    (l6 : K.lookup f6 = some ⟨oc6, od6, .func (PySem.W.fnOf "identity" "identity" (defArgs sIdentity) (defBody sIdentity) (defScope sIdentity) .none kV6 dc6 pm6 an6 cd6 ct6), sl6⟩)
    (c6 : PySem.W.codeIn K cd6 "identity" = true)
    (k6 : PySem.W.keepIn K (.ref f6) = true)
    (a7 : PySem.W.nsIn K mainGlobals "_law_cell_at" = some (some (.ref f7)))
    (l7 : K.lookup f7 = some ⟨oc7, od7, .func (PySem.W.fnOf "_law_cell_at" "_law_cell_at" (defArgs sLawCellAt) (defBody sLawCellAt) (defScope sLawCellAt) .none kV7 dc7 pm7 an7 cd7 ct7), sl7⟩)
    (c7 : PySem.W.codeIn K cd7 "_law_cell_at" = true)
    (k7 : PySem.W.keepIn K (.ref f7) = true)
    (a8 : PySem.W.nsIn K mainGlobals "_law_source" = some (some (.ref f8)))
    (l8 : K.lookup f8 = some ⟨oc8, od8, .func (PySem.W.fnOf "_law_source" "_law_source" (defArgs sLawSource) (defBody sLawSource) (defScope sLawSource) .none kV8 dc8 pm8 an8 cd8 ct8), sl8⟩)
    (c8 : PySem.W.codeIn K cd8 "_law_source" = true)
    (k8 : PySem.W.keepIn K (.ref f8) = true)
    (a9 : PySem.W.nsIn K mainGlobals "_law_draw" = some (some (.ref f9)))
    (l9 : K.lookup f9 = some ⟨oc9, od9, .func (PySem.W.fnOf "_law_draw" "_law_draw" (defArgs sLawDraw) (defBody sLawDraw) (defScope sLawDraw) .none kV9 dc9 pm9 an9 cd9 ct9), sl9⟩)
    (c9 : PySem.W.codeIn K cd9 "_law_draw" = true)
    (k9 : PySem.W.keepIn K (.ref f9) = true)
    (a10 : PySem.W.nsIn K mainGlobals "_law_pick" = some (some (.ref f10)))
    (l10 : K.lookup f10 = some ⟨oc10, od10, .func (PySem.W.fnOf "_law_pick" "_law_pick" (defArgs sLawPick) (defBody sLawPick) (defScope sLawPick) .none kV10 dc10 pm10 an10 cd10 ct10), sl10⟩)
    (c10 : PySem.W.codeIn K cd10 "_law_pick" = true)
    (k10 : PySem.W.keepIn K (.ref f10) = true)
    (a11 : PySem.W.nsIn K mainGlobals "_law_places" = some (some (.ref f11)))
    (l11 : K.lookup f11 = some ⟨oc11, od11, .func (PySem.W.fnOf "_law_places" "_law_places" (defArgs sLawPlaces) (defBody sLawPlaces) (defScope sLawPlaces) .none kV11 dc11 pm11 an11 cd11 ct11), sl11⟩)
    (c11 : PySem.W.codeIn K cd11 "_law_places" = true)
    (k11 : PySem.W.keepIn K (.ref f11) = true)
    (a12 : PySem.W.nsIn K mainGlobals "_law_steps" = some (some (.ref f12)))
    (l12 : K.lookup f12 = some ⟨oc12, od12, .func (PySem.W.fnOf "_law_steps" "_law_steps" (defArgs sLawSteps) (defBody sLawSteps) (defScope sLawSteps) .none kV12 dc12 pm12 an12 cd12 ct12), sl12⟩)
    (c12 : PySem.W.codeIn K cd12 "_law_steps" = true)
    (k12 : PySem.W.keepIn K (.ref f12) = true)
    (a13 : PySem.W.nsIn K mainGlobals "_law_played" = some (some (.ref f13)))
    (l13 : K.lookup f13 = some ⟨oc13, od13, .func (PySem.W.fnOf "_law_played" "_law_played" (defArgs sLawPlayed) (defBody sLawPlayed) (defScope sLawPlayed) .none kV13 dc13 pm13 an13 cd13 ct13), sl13⟩)
    (c13 : PySem.W.codeIn K cd13 "_law_played" = true)
    (k13 : PySem.W.keepIn K (.ref f13) = true)
    (a14 : PySem.W.nsIn K mainGlobals "_law_tail" = some (some (.ref f14)))
    (l14 : K.lookup f14 = some ⟨oc14, od14, .func (PySem.W.fnOf "_law_tail" "_law_tail" (defArgs sLawTail) (defBody sLawTail) (defScope sLawTail) .none kV14 dc14 pm14 an14 cd14 ct14), sl14⟩)
    (c14 : PySem.W.codeIn K cd14 "_law_tail" = true)
    (k14 : PySem.W.keepIn K (.ref f14) = true)
    (a15 : PySem.W.nsIn K mainGlobals "_law_parts" = some (some (.ref f15)))
    (l15 : K.lookup f15 = some ⟨oc15, od15, .func (PySem.W.fnOf "_law_parts" "_law_parts" (defArgs sLawParts) (defBody sLawParts) (defScope sLawParts) .none kV15 dc15 pm15 an15 cd15 ct15), sl15⟩)
    (c15 : PySem.W.codeIn K cd15 "_law_parts" = true)
    (k15 : PySem.W.keepIn K (.ref f15) = true)
    (a16 : PySem.W.nsIn K mainGlobals "_law_sizes" = some (some (.ref f16)))
    (l16 : K.lookup f16 = some ⟨oc16, od16, .func (PySem.W.fnOf "_law_sizes" "_law_sizes" (defArgs sLawSizes) (defBody sLawSizes) (defScope sLawSizes) .none kV16 dc16 pm16 an16 cd16 ct16), sl16⟩)
    (c16 : PySem.W.codeIn K cd16 "_law_sizes" = true)
    (k16 : PySem.W.keepIn K (.ref f16) = true)
    (a17 : PySem.W.nsIn K mainGlobals "_law_move" = some (some (.ref f17)))
    (l17 : K.lookup f17 = some ⟨oc17, od17, .func (PySem.W.fnOf "_law_move" "_law_move" (defArgs sLawMove) (defBody sLawMove) (defScope sLawMove) .none kV17 dc17 pm17 an17 cd17 ct17), sl17⟩)
    (c17 : PySem.W.codeIn K cd17 "_law_move" = true)
    (k17 : PySem.W.keepIn K (.ref f17) = true)
    (a18 : PySem.W.nsIn K mainGlobals "_law_is_refused" = some (some (.ref f18)))
    (l18 : K.lookup f18 = some ⟨oc18, od18, .func (PySem.W.fnOf "_law_is_refused" "_law_is_refused" (defArgs sLawIsRefused) (defBody sLawIsRefused) (defScope sLawIsRefused) .none kV18 dc18 pm18 an18 cd18 ct18), sl18⟩)
    (c18 : PySem.W.codeIn K cd18 "_law_is_refused" = true)
    (k18 : PySem.W.keepIn K (.ref f18) = true)
    (a19 : PySem.W.nsIn K mainGlobals "_law_right" = some (some (.ref f19)))
    (l19 : K.lookup f19 = some ⟨oc19, od19, .func (PySem.W.fnOf "_law_right" "_law_right" (defArgs sLawRight) (defBody sLawRight) (defScope sLawRight) .none kV19 dc19 pm19 an19 cd19 ct19), sl19⟩)
    (c19 : PySem.W.codeIn K cd19 "_law_right" = true)
    (k19 : PySem.W.keepIn K (.ref f19) = true)
    (a20 : PySem.W.nsIn K mainGlobals "law" = some (some (.ref f20)))
    (l20 : K.lookup f20 = some ⟨oc20, od20, .func (PySem.W.fnOf "law" "law" (defArgs sLaw) (defBody sLaw) (defScope sLaw) .none kV20 dc20 pm20 an20 cd20 ct20), sl20⟩)
    (c20 : PySem.W.codeIn K cd20 "law" = true)
    (k20 : PySem.W.keepIn K (.ref f20) = true)
    (a21 : PySem.W.findIn K (.ref CM) "__init__" = some (some (.ref f21)))
    (i21 : PySem.W.isFn K (.ref f21) = true)
    (l21 : K.lookup f21 = some ⟨oc21, od21, .func (PySem.W.fnOf "__init__" "Move.__init__" (defArgs sMoveInit) (defBody sMoveInit) (defScope sMoveInit) .none kV21 dc21 pm21 an21 cd21 ct21), sl21⟩)
    (c21 : PySem.W.codeIn K cd21 "Move.__init__" = true)
    (k21 : PySem.W.keepIn K (.ref f21) = true)
    (a22 : PySem.W.findIn K (.ref CM) "is_taken" = some (some (.ref f22)))
    (i22 : PySem.W.isFn K (.ref f22) = true)
    (l22 : K.lookup f22 = some ⟨oc22, od22, .func (PySem.W.fnOf "is_taken" "Move.is_taken" (defArgs sMoveIsTaken) (defBody sMoveIsTaken) (defScope sMoveIsTaken) .none kV22 dc22 pm22 an22 cd22 ct22), sl22⟩)
    (c22 : PySem.W.codeIn K cd22 "Move.is_taken" = true)
    (k22 : PySem.W.keepIn K (.ref f22) = true)
    (a23 : PySem.W.findIn K (.ref CM) "tail" = some (some (.ref f23)))
    (i23 : PySem.W.isFn K (.ref f23) = true)
    (l23 : K.lookup f23 = some ⟨oc23, od23, .func (PySem.W.fnOf "tail" "Move.tail" (defArgs sMoveTail) (defBody sMoveTail) (defScope sMoveTail) .none kV23 dc23 pm23 an23 cd23 ct23), sl23⟩)
    (c23 : PySem.W.codeIn K cd23 "Move.tail" = true)
    (k23 : PySem.W.keepIn K (.ref f23) = true)
    (a24 : PySem.W.findIn K (.ref CM) "objects" = some (some (.ref f24)))
    (i24 : PySem.W.isFn K (.ref f24) = true)
    (l24 : K.lookup f24 = some ⟨oc24, od24, .func (PySem.W.fnOf "objects" "Move.objects" (defArgs sMoveObjects) (defBody sMoveObjects) (defScope sMoveObjects) .none kV24 dc24 pm24 an24 cd24 ct24), sl24⟩)
    (c24 : PySem.W.codeIn K cd24 "Move.objects" = true)
    (k24 : PySem.W.keepIn K (.ref f24) = true)
    (a25 : PySem.W.findIn K (.ref CM) "check_place" = some (some (.ref f25)))
    (i25 : PySem.W.isFn K (.ref f25) = true)
    (l25 : K.lookup f25 = some ⟨oc25, od25, .func (PySem.W.fnOf "check_place" "Move.check_place" (defArgs sMoveCheckPlace) (defBody sMoveCheckPlace) (defScope sMoveCheckPlace) .none kV25 dc25 pm25 an25 cd25 ct25), sl25⟩)
    (c25 : PySem.W.codeIn K cd25 "Move.check_place" = true)
    (k25 : PySem.W.keepIn K (.ref f25) = true)
    (a26 : PySem.W.findIn K (.ref CM) "origin" = some (some (.ref f26)))
    (i26 : PySem.W.isFn K (.ref f26) = true)
    (l26 : K.lookup f26 = some ⟨oc26, od26, .func (PySem.W.fnOf "origin" "Move.origin" (defArgs sMoveOrigin) (defBody sMoveOrigin) (defScope sMoveOrigin) .none kV26 dc26 pm26 an26 cd26 ct26), sl26⟩)
    (c26 : PySem.W.codeIn K cd26 "Move.origin" = true)
    (k26 : PySem.W.keepIn K (.ref f26) = true)
    (a27 : PySem.W.findIn K (.ref CM) "then" = some (some (.ref f27)))
    (i27 : PySem.W.isFn K (.ref f27) = true)
    (l27 : K.lookup f27 = some ⟨oc27, od27, .func (PySem.W.fnOf "then" "Move.then" (defArgs sMoveThen) (defBody sMoveThen) (defScope sMoveThen) .none kV27 dc27 pm27 an27 cd27 ct27), sl27⟩)
    (c27 : PySem.W.codeIn K cd27 "Move.then" = true)
    (k27 : PySem.W.keepIn K (.ref f27) = true)
    (a28 : PySem.W.findIn K (.ref CM) "most_object" = some (some (.ref f28)))
    (i28 : PySem.W.isFn K (.ref f28) = true)
    (l28 : K.lookup f28 = some ⟨oc28, od28, .func (PySem.W.fnOf "most_object" "Move.most_object" (defArgs sMoveMostObject) (defBody sMoveMostObject) (defScope sMoveMostObject) .none kV28 dc28 pm28 an28 cd28 ct28), sl28⟩)
    (c28 : PySem.W.codeIn K cd28 "Move.most_object" = true)
    (k28 : PySem.W.keepIn K (.ref f28) = true)
    (a29 : PySem.W.findIn K (.ref CM) "__eq__" = some (some (.ref f29)))
    (i29 : PySem.W.isFn K (.ref f29) = true)
    (l29 : K.lookup f29 = some ⟨oc29, od29, .func (PySem.W.fnOf "__eq__" "Move.__eq__" (defArgs sMoveEq) (defBody sMoveEq) (defScope sMoveEq) .none kV29 dc29 pm29 an29 cd29 ct29), sl29⟩)
    (c29 : PySem.W.codeIn K cd29 "Move.__eq__" = true)
    (k29 : PySem.W.keepIn K (.ref f29) = true)
    (aCInvalidArgument : PySem.W.nsIn K mainGlobals "InvalidArgument" = some (some (.ref CInvalidArgument)))
    (xLCInvalidArgument : K.lookup CInvalidArgument = some (excClassObj nmCInvalidArgument qCInvalidArgument CInvalidArgument NCInvalidArgument bsCInvalidArgument [.ref CB, .type "ArithmeticError", .type "Exception", .type "BaseException", .type "object"] true snCInvalidArgument subCInvalidArgument abCInvalidArgument colCInvalidArgument ddCInvalidArgument maCInvalidArgument mbCInvalidArgument mcCInvalidArgument mdCInvalidArgument meCInvalidArgument "ArithmeticError.__new__"))
    (saCInvalidArgument : PySem.W.findIn K (.ref CInvalidArgument) "__setattr__" = some (some (.builtin "object.__setattr__")))
    (gaCInvalidArgument : PySem.W.findIn K (.ref CInvalidArgument) "__getattribute__" = some (some (.builtin "BaseException.__getattribute__")))
    (ggCInvalidArgument : PySem.W.findIn K (.ref CInvalidArgument) "__getattr__" = some none)
    (nfCInvalidArgument : PySem.W.findIn K (.ref CInvalidArgument) "part" = some none)
    (eCCInvalidArgument : PySem.W.subIn K (.ref CInvalidArgument) (.type "BaseException") = some true)
    (tCCInvalidArgument : PySem.W.typeIn K (.ref CInvalidArgument) = some (.type "type"))
    (kCCInvalidArgument : PySem.W.keepIn K (.ref CInvalidArgument) = true)
    (hCCInvalidArgument : PySem.W.hasDictIn K CInvalidArgument = true)
    (iCCInvalidArgument : PySem.W.isClsIn K CInvalidArgument = true)
    (sCCInvalidArgument : PySem.W.subIn K (.ref CInvalidArgument) (.ref CInvalidArgument) = some true)
    (a30 : PySem.W.findIn K (.ref CInvalidArgument) "__init__" = some (some (.ref f30)))
    (t30 : PySem.W.typeIn K (.ref f30) = some (.type "function"))
    (l30 : K.lookup f30 = some ⟨oc30, od30, .func (PySem.W.fnOf "__init__" "InvalidArgument.__init__" (defArgs sInvalidArgumentInit) (defBody sInvalidArgumentInit) (defScope sInvalidArgumentInit) .none kV30 dc30 pm30 an30 cd30 ct30), sl30⟩)
    (c30 : PySem.W.codeIn K cd30 "InvalidArgument.__init__" = true)
    (k30 : PySem.W.keepIn K (.ref f30) = true)
    (aCB : PySem.W.nsIn K mainGlobals "RunError" = some (some (.ref CB)))
    (gB : PySem.W.specialIn K (.ref CB) "__getattribute__" = some (some (.builtin "type.__getattribute__")))
    (rB : PySem.W.readsIn K CB (.type "type") = true)
    (vB : PySem.W.findCls K (.ref CB) (.type "type") "__init__" = some (.val (.builtin "ArithmeticError.__init__")))
    (pgCM : PySem.W.plainGet K CM Str.empty = true)
    (hdCM : PySem.W.hasDictIn K CM = true)
    (poCM : PySem.W.plainOver K CM = true)
    (saCM : PySem.W.findIn K (.ref CM) "__setattr__" = some (some (.builtin "object.__setattr__")))
    (mkCM : PySem.W.makesIn K CM = true)
    (kcCM : PySem.W.keepIn K (.ref CM) = true)
    (haCM : PySem.W.findIn K (.ref CM) "__class__" = some (some (.builtin "object.__class__")))
    (hmCM : PySem.W.mroIn K CM (.type "object") = some true)
    (hn : PySem.W.specialIn K (.builtin "object.__class__") "__get__" = some (some (.builtin "getset_descriptor.__get__")))
    (ht : PySem.W.takesIn K (.builtin "object.__class__") = some true)
    (nTh : PySem.W.findIn K (.ref CM) "things" = some none)
    (nTa : PySem.W.findIn K (.ref CM) "tails" = some none)
    (selfCM : PySem.W.kitOne K (.ref CM) (.ref CM) = some true)
    (ne : PySem.W.findIn K (.ref CM) "__ne__" = some (some (.builtin "object.__ne__")))
    (noNoneType : PySem.W.kitOne K (.type "NoneType") (.ref CM) = some false)
    (noint : PySem.W.kitOne K (.type "int") (.ref CM) = some false)
    (notuple : PySem.W.kitOne K (.type "tuple") (.ref CM) = some false)
    (nolist : PySem.W.kitOne K (.type "list") (.ref CM) = some false)
    (nodict : PySem.W.kitOne K (.type "dict") (.ref CM) = some false)
    (z_isinstance : PySem.W.nsIn K mainGlobals "isinstance" = some none)
    (z_len : PySem.W.nsIn K mainGlobals "len" = some none)
    (z_min : PySem.W.nsIn K mainGlobals "min" = some none)
    (z_max : PySem.W.nsIn K mainGlobals "max" = some none)
    (z_all : PySem.W.nsIn K mainGlobals "all" = some none)
    (z_int : PySem.W.nsIn K mainGlobals "int" = some none)
    (z_bool : PySem.W.nsIn K mainGlobals "bool" = some none)
    (z_str : PySem.W.nsIn K mainGlobals "str" = some none)
    (z_tuple : PySem.W.nsIn K mainGlobals "tuple" = some none)
    (z_list : PySem.W.nsIn K mainGlobals "list" = some none)
    (z_range : PySem.W.nsIn K mainGlobals "range" = some none)
    (z_sorted : PySem.W.nsIn K mainGlobals "sorted" = some none)
    (z_dict : PySem.W.nsIn K mainGlobals "dict" = some none)
    (z_set : PySem.W.nsIn K mainGlobals "set" = some none)
    (z_enumerate : PySem.W.nsIn K mainGlobals "enumerate" = some none)
    (g_MOST_SIZE : PySem.W.nsIn K mainGlobals "MOST_SIZE" = some (some (.int 8 t8))) :
    ∃ fd : FuncData, (∀ (s : Shared) (v : Value), BindsTo s fd ⟨[v], []⟩ [("script", v)]) ∧ ∀ base : Heap, K.In base → base.Ns mainGlobals mg → FnOk l.prog w K mg base CX0 9 fa fd ["script"] (spLaw K) := by
  have e := hfa.symm.trans (PySem.W.mg_of X G a20)
  have e := Value.ref.inj (Option.some.inj e)
  subst e
  have B : Blt mg := ⟨PySem.W.mg_none_of X G z_isinstance, PySem.W.mg_none_of X G z_len, PySem.W.mg_none_of X G z_min, PySem.W.mg_none_of X G z_max, PySem.W.mg_none_of X G z_all, PySem.W.mg_none_of X G z_int, PySem.W.mg_none_of X G z_bool, PySem.W.mg_none_of X G z_str, PySem.W.mg_none_of X G z_tuple, PySem.W.mg_none_of X G z_list, PySem.W.mg_none_of X G z_range, PySem.W.mg_none_of X G z_sorted, PySem.W.mg_none_of X G z_dict, PySem.W.mg_none_of X G z_set, PySem.W.mg_none_of X G z_enumerate⟩
  have FIsInteger := fun_mk (st := sIsInteger) l1 c1 k1
  have DIsInteger : DefF K mg "is_integer" sIsInteger ["thing"] f1 _ := ⟨FIsInteger, FIsInteger.binds (ps := ["thing"]) fun _ _ _ _ _ _ us hl => match us, hl with | [_], _ => rfl, PySem.W.mg_of X G a1⟩
  have FIsBetween := fun_mk (st := sIsBetween) l2 c2 k2
  have DIsBetween : DefF K mg "is_between" sIsBetween ["thing", "least", "most"] f2 _ := ⟨FIsBetween, FIsBetween.binds (ps := ["thing", "least", "most"]) fun _ _ _ _ _ _ us hl => match us, hl with | [_, _, _], _ => rfl, PySem.W.mg_of X G a2⟩
  have FIsPlace := fun_mk (st := sIsPlace) l3 c3 k3
  have DIsPlace : DefF K mg "is_place" sIsPlace ["thing"] f3 _ := ⟨FIsPlace, FIsPlace.binds (ps := ["thing"]) fun _ _ _ _ _ _ us hl => match us, hl with | [_], _ => rfl, PySem.W.mg_of X G a3⟩
  have FIsPool := fun_mk (st := sIsPool) l4 c4 k4
  have DIsPool : DefF K mg "is_pool" sIsPool ["size", "thing"] f4 _ := ⟨FIsPool, FIsPool.binds (ps := ["size", "thing"]) fun _ _ _ _ _ _ us hl => match us, hl with | [_, _], _ => rfl, PySem.W.mg_of X G a4⟩
  have FShortened := fun_mk (st := sShortened) l5 c5 k5
  have DShortened : DefF K mg "shortened" sShortened ["size", "front", "fresh"] f5 _ := ⟨FShortened, FShortened.binds (ps := ["size", "front", "fresh"]) fun _ _ _ _ _ _ us hl => match us, hl with | [_, _, _], _ => rfl, PySem.W.mg_of X G a5⟩
  have FIdentity := fun_mk (st := sIdentity) l6 c6 k6
  have DIdentity : DefF K mg "identity" sIdentity ["count"] f6 _ := ⟨FIdentity, FIdentity.binds (ps := ["count"]) fun _ _ _ _ _ _ us hl => match us, hl with | [_], _ => rfl, PySem.W.mg_of X G a6⟩
  have FLawCellAt := fun_mk (st := sLawCellAt) l7 c7 k7
  have DLawCellAt : DefF K mg "_law_cell_at" sLawCellAt ["script", "k"] f7 _ := ⟨FLawCellAt, FLawCellAt.binds (ps := ["script", "k"]) fun _ _ _ _ _ _ us hl => match us, hl with | [_, _], _ => rfl, PySem.W.mg_of X G a7⟩
  have FLawSource := fun_mk (st := sLawSource) l8 c8 k8
  have DLawSource : DefF K mg "_law_source" sLawSource ["cell"] f8 _ := ⟨FLawSource, FLawSource.binds (ps := ["cell"]) fun _ _ _ _ _ _ us hl => match us, hl with | [_], _ => rfl, PySem.W.mg_of X G a8⟩
  have FLawDraw := fun_mk (st := sLawDraw) l9 c9 k9
  have DLawDraw : DefF K mg "_law_draw" sLawDraw ["source", "bound"] f9 _ := ⟨FLawDraw, FLawDraw.binds (ps := ["source", "bound"]) fun _ _ _ _ _ _ us hl => match us, hl with | [_, _], _ => rfl, PySem.W.mg_of X G a9⟩
  have FLawPick := fun_mk (st := sLawPick) l10 c10 k10
  have DLawPick : DefF K mg "_law_pick" sLawPick ["source", "items"] f10 _ := ⟨FLawPick, FLawPick.binds (ps := ["source", "items"]) fun _ _ _ _ _ _ us hl => match us, hl with | [_, _], _ => rfl, PySem.W.mg_of X G a10⟩
  have FLawPlaces := fun_mk (st := sLawPlaces) l11 c11 k11
  have DLawPlaces : DefF K mg "_law_places" sLawPlaces ["sizes"] f11 _ := ⟨FLawPlaces, FLawPlaces.binds (ps := ["sizes"]) fun _ _ _ _ _ _ us hl => match us, hl with | [_], _ => rfl, PySem.W.mg_of X G a11⟩
  have FLawSteps := fun_mk (st := sLawSteps) l12 c12 k12
  have DLawSteps : DefF K mg "_law_steps" sLawSteps ["source", "count", "most"] f12 _ := ⟨FLawSteps, FLawSteps.binds (ps := ["source", "count", "most"]) fun _ _ _ _ _ _ us hl => match us, hl with | [_, _, _], _ => rfl, PySem.W.mg_of X G a12⟩
  have FLawPlayed := fun_mk (st := sLawPlayed) l13 c13 k13
  have DLawPlayed : DefF K mg "_law_played" sLawPlayed ["world", "steps"] f13 _ := ⟨FLawPlayed, FLawPlayed.binds (ps := ["world", "steps"]) fun _ _ _ _ _ _ us hl => match us, hl with | [_, _], _ => rfl, PySem.W.mg_of X G a13⟩
  have FLawTail := fun_mk (st := sLawTail) l14 c14 k14
  have DLawTail : DefF K mg "_law_tail" sLawTail ["size", "row"] f14 _ := ⟨FLawTail, FLawTail.binds (ps := ["size", "row"]) fun _ _ _ _ _ _ us hl => match us, hl with | [_, _], _ => rfl, PySem.W.mg_of X G a14⟩
  have FLawParts := fun_mk (st := sLawParts) l15 c15 k15
  have DLawParts : DefF K mg "_law_parts" sLawParts ["source", "world"] f15 _ := ⟨FLawParts, FLawParts.binds (ps := ["source", "world"]) fun _ _ _ _ _ _ us hl => match us, hl with | [_, _], _ => rfl, PySem.W.mg_of X G a15⟩
  have FLawSizes := fun_mk (st := sLawSizes) l16 c16 k16
  have DLawSizes : DefF K mg "_law_sizes" sLawSizes ["source", "most"] f16 _ := ⟨FLawSizes, FLawSizes.binds (ps := ["source", "most"]) fun _ _ _ _ _ _ us hl => match us, hl with | [_, _], _ => rfl, PySem.W.mg_of X G a16⟩
  have FLawMove := fun_mk (st := sLawMove) l17 c17 k17
  have DLawMove : DefF K mg "_law_move" sLawMove ["source", "world"] f17 _ := ⟨FLawMove, FLawMove.binds (ps := ["source", "world"]) fun _ _ _ _ _ _ us hl => match us, hl with | [_, _], _ => rfl, PySem.W.mg_of X G a17⟩
  have FLawIsRefused := fun_mk (st := sLawIsRefused) l18 c18 k18
  have DLawIsRefused : DefF K mg "_law_is_refused" sLawIsRefused ["one", "later"] f18 _ := ⟨FLawIsRefused, FLawIsRefused.binds (ps := ["one", "later"]) fun _ _ _ _ _ _ us hl => match us, hl with | [_, _], _ => rfl, PySem.W.mg_of X G a18⟩
  have FLawRight := fun_mk (st := sLawRight) l19 c19 k19
  have DLawRight : DefF K mg "_law_right" sLawRight ["source"] f19 _ := ⟨FLawRight, FLawRight.binds (ps := ["source"]) fun _ _ _ _ _ _ us hl => match us, hl with | [_], _ => rfl, PySem.W.mg_of X G a19⟩
  have FLaw := fun_mk (st := sLaw) l20 c20 k20
  have DLaw : DefF K mg "law" sLaw ["script"] fa _ := ⟨FLaw, FLaw.binds (ps := ["script"]) fun _ _ _ _ _ _ us hl => match us, hl with | [_], _ => rfl, PySem.W.mg_of X G a20⟩
  have FMoveInit := fun_mk (st := sMoveInit) l21 c21 k21
  have DInit : DefM K CM "__init__" "Move.__init__" sMoveInit ["self", "objects", "pools"] f21 _ := ⟨FMoveInit, FMoveInit.binds (ps := ["self", "objects", "pools"]) fun _ _ _ _ _ _ us hl => match us, hl with | [_, _, _], _ => rfl, ⟨a21, i21, k21⟩⟩
  have FMoveIsTaken := fun_mk (st := sMoveIsTaken) l22 c22 k22
  have DIsTaken : DefM K CM "is_taken" "Move.is_taken" sMoveIsTaken ["self", "pools", "place"] f22 _ := ⟨FMoveIsTaken, FMoveIsTaken.binds (ps := ["self", "pools", "place"]) fun _ _ _ _ _ _ us hl => match us, hl with | [_, _, _], _ => rfl, ⟨a22, i22, k22⟩⟩
  have FMoveTail := fun_mk (st := sMoveTail) l23 c23 k23
  have DTail : DefM K CM "tail" "Move.tail" sMoveTail ["self", "size"] f23 _ := ⟨FMoveTail, FMoveTail.binds (ps := ["self", "size"]) fun _ _ _ _ _ _ us hl => match us, hl with | [_, _], _ => rfl, ⟨a23, i23, k23⟩⟩
  have FMoveObjects := fun_mk (st := sMoveObjects) l24 c24 k24
  have DObjects : DefM K CM "objects" "Move.objects" sMoveObjects ["self"] f24 _ := ⟨FMoveObjects, FMoveObjects.binds (ps := ["self"]) fun _ _ _ _ _ _ us hl => match us, hl with | [_], _ => rfl, ⟨a24, i24, k24⟩⟩
  have FMoveCheckPlace := fun_mk (st := sMoveCheckPlace) l25 c25 k25
  have DCheckPlace : DefM K CM "check_place" "Move.check_place" sMoveCheckPlace ["self", "place"] f25 _ := ⟨FMoveCheckPlace, FMoveCheckPlace.binds (ps := ["self", "place"]) fun _ _ _ _ _ _ us hl => match us, hl with | [_, _], _ => rfl, ⟨a25, i25, k25⟩⟩
  have FMoveOrigin := fun_mk (st := sMoveOrigin) l26 c26 k26
  have DOrigin : DefM K CM "origin" "Move.origin" sMoveOrigin ["self", "place"] f26 _ := ⟨FMoveOrigin, FMoveOrigin.binds (ps := ["self", "place"]) fun _ _ _ _ _ _ us hl => match us, hl with | [_, _], _ => rfl, ⟨a26, i26, k26⟩⟩
  have FMoveThen := fun_mk (st := sMoveThen) l27 c27 k27
  have DThen : DefM K CM "then" "Move.then" sMoveThen ["self", "later"] f27 _ := ⟨FMoveThen, FMoveThen.binds (ps := ["self", "later"]) fun _ _ _ _ _ _ us hl => match us, hl with | [_, _], _ => rfl, ⟨a27, i27, k27⟩⟩
  have FMoveMostObject := fun_mk (st := sMoveMostObject) l28 c28 k28
  have DMostObject : DefM K CM "most_object" "Move.most_object" sMoveMostObject ["self"] f28 _ := ⟨FMoveMostObject, FMoveMostObject.binds (ps := ["self"]) fun _ _ _ _ _ _ us hl => match us, hl with | [_], _ => rfl, ⟨a28, i28, k28⟩⟩
  have FMoveEq := fun_mk (st := sMoveEq) l29 c29 k29
  have DEq : DefM K CM "__eq__" "Move.__eq__" sMoveEq ["self", "other"] f29 _ := ⟨FMoveEq, FMoveEq.binds (ps := ["self", "other"]) fun _ _ _ _ _ _ us hl => match us, hl with | [_, _], _ => rfl, ⟨a29, i29, k29⟩⟩
  have OEq : DefOp K CM "__eq__" "Move.__eq__" sMoveEq ["self", "other"] f29 _ := ⟨FMoveEq, FMoveEq.binds (ps := ["self", "other"]) fun _ _ _ _ _ _ us hl => match us, hl with | [_, _], _ => rfl, ⟨a29, i29⟩⟩
  have TM : MCl K mg CM f21 _ := ⟨⟨pgCM, hdCM, poCM, saCM⟩, nTh, nTa, haCM, hn, ht, hmCM, selfCM, fun T hT => (by simp only [List.mem_cons, List.not_mem_nil, or_false] at hT; rcases hT with rfl | rfl | rfl | rfl | rfl <;> assumption), ne, FMoveInit, FMoveInit.binds (ps := ["self", "objects", "pools"]) fun _ _ _ _ _ _ us hl => match us, hl with | [_, _, _], _ => rfl, ⟨mkCM, a21, i21, kcCM⟩, PySem.W.mg_of X G aCM⟩
  have FInvalidArgumentInit := fun_mk (st := sInvalidArgumentInit) l30 c30 k30
  have IInvalidArgument : ICl K mg CInvalidArgument CB f30 _ := ⟨⟨⟨_, _, _, _, _, _, _, _, _, _, _, _, _, _, _, xLCInvalidArgument, overAE_ref (l := aeTail) (by decide)⟩, saCInvalidArgument, eCCInvalidArgument, tCCInvalidArgument, kCCInvalidArgument⟩, nfCInvalidArgument, a30, t30, FInvalidArgumentInit, FInvalidArgumentInit.binds (ps := ["self", "part"]) fun _ _ _ _ _ _ us hl => match us, hl with | [_, _], _ => rfl, PySem.W.mg_of X G aCInvalidArgument, ⟨PySem.W.mg_of X G aCB, gB, rB, vB⟩, ⟨gaCInvalidArgument, ggCInvalidArgument, eCCInvalidArgument, hCCInvalidArgument⟩, exm_self eCCInvalidArgument iCCInvalidArgument tCCInvalidArgument sCCInvalidArgument⟩
  have m_MOST_SIZE := PySem.W.mg_of X G g_MOST_SIZE
  refine ⟨PySem.W.fnOf "law" "law" (defArgs sLaw) (defBody sLaw) (defScope sLaw) .none kV20 dc20 pm20 an20 cd20 ct20, fun s v => .of_eq rfl, fun base _ _ => ?_⟩
  have GII := ok_IsInteger (P := l.prog) (w := w) (mg := mg) (base := base) DIsInteger B
  have GIB := ok_IsBetween (P := l.prog) (w := w) (mg := mg) (base := base) DIsBetween DIsInteger GII
  have GIP := ok_IsPlace (P := l.prog) (w := w) (mg := mg) (base := base) DIsPlace B m_MOST_SIZE DIsInteger GII
  have GIQ := ok_IsPool (P := l.prog) (w := w) (mg := mg) (base := base) DIsPool B m_MOST_SIZE DIsInteger GII DIsBetween GIB DIsPlace GIP
  have GSh := ok_Shortened (P := l.prog) (w := w) (mg := mg) (base := base) DShortened B
  have GTk := ok_IsTaken (P := l.prog) (w := w) (mg := mg) (base := base) DIsTaken
  have GTa := ok_Tail (P := l.prog) (w := w) (mg := mg) (base := base) DTail TM
  have GOb := ok_Objects (P := l.prog) (w := w) (mg := mg) (base := base) DObjects B TM
  have GCp := ok_CheckPlace (P := l.prog) (w := w) (mg := mg) (base := base) DCheckPlace B TM DIsPlace GIP
  have GOr := ok_Origin (P := l.prog) (w := w) (mg := mg) (base := base) DOrigin B TM DCheckPlace GCp DTail GTa
  have GMi := ok_MoveInit (P := l.prog) (w := w) (mg := mg) (base := base) DInit B TM m_MOST_SIZE DIsPlace GIP DIsPool GIQ DShortened GSh DIsTaken GTk
  have GMo := ok_MostObject (P := l.prog) (w := w) (mg := mg) (base := base) DMostObject B TM
  have GTh := ok_Then (P := l.prog) (w := w) (mg := mg) (base := base) DThen B TM DMostObject GMo DTail GTa DOrigin GOr GMi
  have GId := ok_Identity (P := l.prog) (w := w) (mg := mg) (base := base) DIdentity B TM DIsInteger GII GMi
  have GEq := ok_Eq (P := l.prog) (w := w) (mg := mg) (base := base) DEq B TM
  have GIA := ok_IA (P := l.prog) (w := w) (mg := mg) (base := base) IInvalidArgument
  have GTX := ok_ThenX (P := l.prog) (w := w) (mg := mg) (base := base) DThen B TM IInvalidArgument GIA DMostObject GMo
  have GIR := ok_IsRefused (P := l.prog) (w := w) (mg := mg) (base := base) DLawIsRefused TM IInvalidArgument DThen GTX
  have GLC := ok_LawCellAt (P := l.prog) (w := w) (mg := mg) (base := base) DLawCellAt B
  have GLS := ok_LawSource (P := l.prog) (w := w) (mg := mg) (base := base) DLawSource B
  have GLD := ok_LawDraw (P := l.prog) (w := w) (mg := mg) (base := base) DLawDraw B
  have GLP := ok_LawPick (P := l.prog) (w := w) (mg := mg) (base := base) DLawPick B DLawDraw GLD
  have GLPl := ok_LawPlaces (P := l.prog) (w := w) (mg := mg) (base := base) DLawPlaces B
  have GLSi := ok_LawSizes (P := l.prog) (w := w) (mg := mg) (base := base) DLawSizes B DLawDraw GLD DLawPick GLP
  have GLSt := ok_LawSteps (P := l.prog) (w := w) (mg := mg) (base := base) DLawSteps B DLawDraw GLD DLawPick GLP
  have GLPd := ok_LawPlayed (P := l.prog) (w := w) (mg := mg) (base := base) DLawPlayed B
  have GLT := ok_LawTail (P := l.prog) (w := w) (mg := mg) (base := base) DLawTail B
  have GLPa := ok_LawParts (P := l.prog) (w := w) (mg := mg) (base := base) DLawParts B DLawDraw GLD DLawPick GLP DLawTail GLT
  have GLM := ok_LawMove (P := l.prog) (w := w) (mg := mg) (base := base) DLawMove B TM DLawParts GLPa GMi
  have GLR := ok_LawRight (P := l.prog) (w := w) (mg := mg) (base := base) DLawRight B TM DLawDraw GLD DLawPick GLP DLawSizes GLSi DLawSteps GLSt DLawPlaces GLPl DLawPlayed GLPd DLawMove GLM DThen GTh DIdentity GId DObjects GOb DLawIsRefused GIR OEq GEq GMi
  exact ok_Law (P := l.prog) (w := w) (mg := mg) (base := base) DLaw B DLawCellAt GLC DLawSource GLS DLawRight GLR
theorem walk {l : PySem.W.OpenLaw} {q : Program} {loose : List Str} {XP : (Str → Option Value) → Heap → Prop} {YP : World → Heap → Prop} {d : DefRec} {K : Params → PySem.W.Frag} (hn : l.most = some 63) (hdf : d.params.defaults = [])
    (hY : ∀ (w : World) (h : Heap), YP w h → (K w.params).In h)
    (F : ∀ (w : World) (mg : Str → Option Value) (fa : Addr) (h : Heap), (K w.params).In h → h.Ns mainGlobals mg → mg d.name = some (.ref fa) →
      ∃ fd : FuncData, (∀ (s : Shared) (u : Value), BindsTo s fd ⟨[u], []⟩ [("script", u)]) ∧ ∀ base : Heap, (K w.params).In base → base.Ns mainGlobals mg → FnOk l.prog w (K w.params) mg base CX0 9 fa fd ["script"] (spLaw (K w.params))) :
    PySem.W.WalkO q loose XP YP l.row.toRowW d [] (fun f vs => PySem.call f vs) :=
  L2.walk_of (n := 63) (k := 9) (x := "script") (CX := fun _ => CX0) (sp := fun w => spLaw (K w.params)) hn (by decide) hdf ⟨rfl, by decide, by decide⟩ hY F (fun _ _ a ns hl _ hS => ⟨a, ns, rfl, hS, hl, fun _ => rfl⟩) fun _ _ _ _ _ z => z
end Wd

open PySem PySem.W PyProof.Rows in
set_option maxRecDepth 100000 in
set_option maxHeartbeats 0 in
theorem PySem.Challenge.cw_heapturns_k24_whole_stretches_one_after_holds : PySem.Challenge.rw_heapturns_k24_whole_stretches_one_after.Holds := by
  w_on; o_law; k_head; (case hw => w_witness2)
  k_fill
  refine Wd.walk (l := PySem.Challenge.rw_heapturns_k24_whole_stretches_one_after) rfl rfl (fun w h Y => PySem.W.kIn_of Y) ?F
  case F =>
    intro w mg fa h KX G hmg
    refine' Wd.all_mk KX G hmg ?aCM ?a1 ?l1 ?c1 ?k1 ?a2 ?l2 ?c2 ?k2 ?a3 ?l3 ?c3 ?k3 ?a4 ?l4 ?c4 ?k4 ?a5 ?l5 ?c5 ?k5 ?a6 ?l6 ?c6 ?k6 ?a7 ?l7 ?c7 ?k7 ?a8 ?l8 ?c8 ?k8 ?a9 ?l9 ?c9 ?k9 ?a10 ?l10 ?c10 ?k10 ?a11 ?l11 ?c11 ?k11 ?a12 ?l12 ?c12 ?k12 ?a13 ?l13 ?c13 ?k13 ?a14 ?l14 ?c14 ?k14 ?a15 ?l15 ?c15 ?k15 ?a16 ?l16 ?c16 ?k16 ?a17 ?l17 ?c17 ?k17 ?a18 ?l18 ?c18 ?k18 ?a19 ?l19 ?c19 ?k19 ?a20 ?l20 ?c20 ?k20 ?a21 ?i21 ?l21 ?c21 ?k21 ?a22 ?i22 ?l22 ?c22 ?k22 ?a23 ?i23 ?l23 ?c23 ?k23 ?a24 ?i24 ?l24 ?c24 ?k24 ?a25 ?i25 ?l25 ?c25 ?k25 ?a26 ?i26 ?l26 ?c26 ?k26 ?a27 ?i27 ?l27 ?c27 ?k27 ?a28 ?i28 ?l28 ?c28 ?k28 ?a29 ?i29 ?l29 ?c29 ?k29 ?aCInvalidArgument ?xLCInvalidArgument ?saCInvalidArgument ?gaCInvalidArgument ?ggCInvalidArgument ?nfCInvalidArgument ?eCCInvalidArgument ?tCCInvalidArgument ?kCCInvalidArgument ?hCCInvalidArgument ?iCCInvalidArgument ?sCCInvalidArgument ?a30 ?t30 ?l30 ?c30 ?k30 ?aCB ?gB ?rB ?vB ?pgCM ?hdCM ?poCM ?saCM ?mkCM ?kcCM ?haCM ?hmCM ?hn ?ht ?nTh ?nTa ?selfCM ?ne ?noNoneType ?noint ?notuple ?nolist ?nodict ?z_isinstance ?z_len ?z_min ?z_max ?z_all ?z_int ?z_bool ?z_str ?z_tuple ?z_list ?z_range ?z_sorted ?z_dict ?z_set ?z_enumerate ?g_MOST_SIZE
    (case aCM => k_is)
    (case a1 => k_is)
    (case l1 => k_is)
    (case c1 => k_is)
    (case k1 => k_is)
    (case a2 => k_is)
    (case l2 => k_is)
    (case c2 => k_is)
    (case k2 => k_is)
    (case a3 => k_is)
    (case l3 => k_is)
    (case c3 => k_is)
    (case k3 => k_is)
    (case a4 => k_is)
    (case l4 => k_is)
    (case c4 => k_is)
    (case k4 => k_is)
    (case a5 => k_is)
    (case l5 => k_is)
    (case c5 => k_is)
    (case k5 => k_is)
    (case a6 => k_is)
    (case l6 => k_is)
    (case c6 => k_is)
    (case k6 => k_is)
    (case a7 => k_is)
    (case l7 => k_is)
    (case c7 => k_is)
    (case k7 => k_is)
    (case a8 => k_is)
    (case l8 => k_is)
    (case c8 => k_is)
    (case k8 => k_is)
    (case a9 => k_is)
    (case l9 => k_is)
    (case c9 => k_is)
    (case k9 => k_is)
    (case a10 => k_is)
    (case l10 => k_is)
    (case c10 => k_is)
    (case k10 => k_is)
    (case a11 => k_is)
    (case l11 => k_is)
    (case c11 => k_is)
    (case k11 => k_is)
    (case a12 => k_is)
    (case l12 => k_is)
    (case c12 => k_is)
    (case k12 => k_is)
    (case a13 => k_is)
    (case l13 => k_is)
    (case c13 => k_is)
    (case k13 => k_is)
    (case a14 => k_is)
    (case l14 => k_is)
    (case c14 => k_is)
    (case k14 => k_is)
    (case a15 => k_is)
    (case l15 => k_is)
    (case c15 => k_is)
    (case k15 => k_is)
    (case a16 => k_is)
    (case l16 => k_is)
    (case c16 => k_is)
    (case k16 => k_is)
    (case a17 => k_is)
    (case l17 => k_is)
    (case c17 => k_is)
    (case k17 => k_is)
    (case a18 => k_is)
    (case l18 => k_is)
    (case c18 => k_is)
    (case k18 => k_is)
    (case a19 => k_is)
    (case l19 => k_is)
    (case c19 => k_is)
    (case k19 => k_is)
    (case a20 => k_is)
    (case l20 => k_is)
    (case c20 => k_is)
    (case k20 => k_is)
    (case a21 => k_is)
    (case i21 => k_is)
    (case l21 => k_is)
    (case c21 => k_is)
    (case k21 => k_is)
    (case a22 => k_is)
    (case i22 => k_is)
    (case l22 => k_is)
    (case c22 => k_is)
    (case k22 => k_is)
    (case a23 => k_is)
    (case i23 => k_is)
    (case l23 => k_is)
    (case c23 => k_is)
    (case k23 => k_is)
    (case a24 => k_is)
    (case i24 => k_is)
    (case l24 => k_is)
    (case c24 => k_is)
    (case k24 => k_is)
    (case a25 => k_is)
    (case i25 => k_is)
    (case l25 => k_is)
    (case c25 => k_is)
    (case k25 => k_is)
    (case a26 => k_is)
    (case i26 => k_is)
    (case l26 => k_is)
    (case c26 => k_is)
    (case k26 => k_is)
    (case a27 => k_is)
    (case i27 => k_is)
    (case l27 => k_is)
    (case c27 => k_is)
    (case k27 => k_is)
    (case a28 => k_is)
    (case i28 => k_is)
    (case l28 => k_is)
    (case c28 => k_is)
    (case k28 => k_is)
    (case a29 => k_is)
    (case i29 => k_is)
    (case l29 => k_is)
    (case c29 => k_is)
    (case k29 => k_is)
    (case aCInvalidArgument => k_is)
    (case xLCInvalidArgument => k_is)
    (case saCInvalidArgument => k_is)
    (case gaCInvalidArgument => k_is)
    (case ggCInvalidArgument => k_is)
    (case nfCInvalidArgument => k_is)
    (case eCCInvalidArgument => k_is)
    (case tCCInvalidArgument => k_is)
    (case kCCInvalidArgument => k_is)
    (case hCCInvalidArgument => k_is)
    (case iCCInvalidArgument => k_is)
    (case sCCInvalidArgument => first | rfl | k_is)
    (case a30 => k_is)
    (case t30 => k_is)
    (case l30 => k_is)
    (case c30 => k_is)
    (case k30 => k_is)
    (case aCB => k_is)
    (case gB => k_is)
    (case rB => k_is)
    (case vB => k_is)
    (case pgCM => k_is)
    (case hdCM => k_is)
    (case poCM => k_is)
    (case saCM => k_is)
    (case mkCM => k_is)
    (case kcCM => k_is)
    (case haCM => k_is)
    (case hmCM => k_is)
    (case hn => k_is)
    (case ht => k_is)
    (case nTh => k_is)
    (case nTa => k_is)
    (case selfCM => kit_is)
    (case ne => k_is)
    (case noNoneType => kit_is)
    (case noint => kit_is)
    (case notuple => kit_is)
    (case nolist => kit_is)
    (case nodict => kit_is)
    (case z_isinstance => k_is)
    (case z_len => k_is)
    (case z_min => k_is)
    (case z_max => k_is)
    (case z_all => k_is)
    (case z_int => k_is)
    (case z_bool => k_is)
    (case z_str => k_is)
    (case z_tuple => k_is)
    (case z_list => k_is)
    (case z_range => k_is)
    (case z_sorted => k_is)
    (case z_dict => k_is)
    (case z_set => k_is)
    (case z_enumerate => k_is)
    (case g_MOST_SIZE => k_is)
#print axioms PySem.Challenge.cw_heapturns_k24_whole_stretches_one_after_holds
